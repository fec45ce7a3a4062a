/- A machine of abstract values and a typed machine above it, both proved sound for any program: part 4. -/
import Derived.Test.YtjfiohdaeahdmaaV3
set_option linter.unusedVariables false
/- Operations that make objects. -/
namespace Go.Vm

section
variable {ρ : Type} {τ : TState} {σ : State} {m : Nat → Slot} {orc : Oracle} {dst : Option Nat} {k : KT ρ} {r : ρ}

theorem solid_all {v : TV} {a : AV} {ag : Bool} {cs : List TC} (h : RT τ σ m v a) (hv : v.cells = some (ag, cs)) (hs : cs.all TC.solid = true) : a.solid = true ∧ a.cells.all AV.one = true := by
  obtain ⟨h1, h2, h3⟩ := cells_ok h hv (.inl hs)
  have hall : a.cells.all AV.one = true := by
    rw [List.all_eq_true]; exact h1.one hs
  cases ag with
  | true => obtain ⟨as, rfl⟩ := h2 rfl; exact ⟨rfl, hall⟩
  | false =>
    obtain ⟨c, rfl⟩ := h3 rfl
    refine ⟨?_, hall⟩
    cases v with
    | c x =>
      simp only [TV.cells, Option.some.injEq, Prod.mk.injEq, List.cons.injEq, and_true, true_and] at hv
      subst hv
      have h' : RC τ σ m x [a] := h
      exact AV.one_solid (h'.one (by simpa using hs) a (by simp))
    | _ => first | (simp [TV.cells] at hv; done) | cases hv

theorem buildGo_ok (h : Rel m τ σ) {ks0 : List Key} : ∀ {parts : List (Nat × Nat × Opnd)} {cs : List TC} {as : List AV} {ks : List Key}, RCs τ σ m cs as → (buildGo τ k parts cs ks).den = some r →
    ∃ cs' as' kr, RCs τ σ m cs' as' ∧ (k (.agg cs') τ kr []).den = some r ∧ (∀ z ∈ ks, z ∈ kr) ∧ ∃ ps, Does (mapR (fun (p : Nat × Nat × Opnd) => p.2.2.get.bind fun a => R.ret (p.1, p.2.1, a)) parts) σ ps kr ∧ fillL as ps = some as'
  | [], cs, as, ks, hc, hd => ⟨cs, as, ks, hc, hd, fun _ h => h, [], Does.ret _, rfl⟩
  | (off, n, x) :: ps, cs, as, ks, hc, hd => by
    simp only [buildGo] at hd
    split at hd
    · rename_i ag c hx
      split at hd
      · rename_i hs
        split at hd
        · rename_i cs' hp
          obtain ⟨g1, g2, g3⟩ := cells_ok (h.val x) hx (.inl hs)
          obtain ⟨s1, s2⟩ := solid_all (h.val x) hx hs
          obtain ⟨p1, p2, p3⟩ := hc.putW g1 hp
          obtain ⟨cs2, as2, kr, q1, q2, q3, qs, q4, q5⟩ := buildGo_ok h (ks0 := ks0) p1 hd
          refine ⟨cs2, as2, kr, q1, q2, fun z hz => q3 z (List.mem_append_left _ hz), (off, n, x.val σ) :: qs, ?_, ?_⟩
          · simp only [mapR]
            exact Does.bind (Does.bind (Does.opnd x fun z hz => q3 z (List.mem_append_right _ hz)) (Does.ret _)) (Does.bind q4 (Does.ret _))
          · simp only [fillL]
            rw [if_pos (by simp only [p3, beq_self_eq_true, s1, Bool.and_self, Bool.true_and, decide_eq_true_eq]; exact p2)]
            rw [repl_eq _ _ _ (by rw [p3]; exact p2), p3]
            exact q5
        · cases hd
      · cases hd
    · cases hd

theorem op_build (E : TEnv) (h : Rel m τ σ) {zero : List AV} {parts : List (Nat × Nat × Opnd)} (hd : (opT E dst τ k (.build zero parts)).den = some r) : StepR orc (.build zero parts) dst σ k r := by
  simp only [opT] at hd
  obtain ⟨cs', as', kr, q1, q2, _, ps, q3, q4⟩ := buildGo_ok h (ks0 := []) (constL_ok zero) hd
  refine StepR.pure h (av := .agg as') ?_ (by exact ⟨as', rfl, q1⟩) q2
  simp only [ROp.sem]
  refine Does.bind q3 ?_
  rw [q4]
  exact Does.ret _

/-! ### New objects -/
theorem mk_state (σ : State) (s st : Nat) (o : Obj) (z : Bool) : Agree [s] σ (σ.applyAll [.o s ⟨st, some o⟩, .f s z]) ∧ (σ.applyAll [.o s ⟨st, some o⟩, .f s z]).getO s = ⟨st, some o⟩ ∧ (σ.applyAll [.o s ⟨st, some o⟩, .f s z]).getF s = z := by
  refine ⟨(agree_ws (by rfl)).mono (by simp [W.slots]), ?_, ?_⟩
  · show ((W.f s z).apply ((W.o s ⟨st, some o⟩).apply σ)).getO s = _
    rw [getO_f, getO_o, if_pos rfl]
  · show ((W.f s z).apply ((W.o s ⟨st, some o⟩).apply σ)).getF s = _
    rw [getF_f, if_pos rfl]

/-- A new variable. -/
theorem StepR.var {op : ROp} (h : Rel m τ σ) {g : Bool} {cs : List TC} {x : AV} {e : Nat} {kr kw : List Key} (hx : RX τ σ m g cs x) (hp : g = false → x.plain = true)
    (hd : Does (op.sem orc dst) σ (.ref (slot dst) ((σ.getO (slot dst)).st + 1) 0 0, [] ++ [.o (slot dst) ⟨(σ.getO (slot dst)).st + 1, some ⟨e, [x], true, 1⟩⟩, .f (slot dst) false]) kr)
    (hw : ∀ z ∈ oKeys [slot dst], z ∈ kw) (hk : (k (.c (.vref (slot dst) 0)) (τ.mkO (slot dst) (.var g cs false false)) kr kw).den = some r) : StepR orc op dst σ k r := by
  obtain ⟨m1, m2, m3⟩ := mk_state σ (slot dst) ((σ.getO (slot dst)).st + 1) ⟨e, [x], true, 1⟩ false
  refine ⟨_, _, kr, kw, upd m (slot dst) (slot dst), _, _, hd, rfl, ?_, h.mkVar m1 hx hp m2 m3, ?_, hk⟩
  · intro w hw'
    simp only [List.nil_append, List.mem_cons, List.not_mem_nil, or_false] at hw'
    rcases hw' with rfl | rfl
    · exact hw _ (oKeys_o (by simp))
    · exact hw _ (oKeys_f (by simp))
  · refine ⟨⟨g, _, false, false, by unfold TState.mkO; rw [TState.getO_put, if_pos rfl]; rfl⟩, ?_⟩
    rw [upd_at]
    show _ = [AV.ref _ ((σ.applyAll _).getO (slot dst)).st 0 0]
    rw [show ([] ++ [W.o (slot dst) ⟨(σ.getO (slot dst)).st + 1, some ⟨e, [x], true, 1⟩⟩, W.f (slot dst) false]) = [W.o (slot dst) ⟨(σ.getO (slot dst)).st + 1, some ⟨e, [x], true, 1⟩⟩, W.f (slot dst) false] from rfl, m2]

theorem op_alloc (E : TEnv) (h : Rel m τ σ) {zero : AV} (hd : (opT E dst τ k (.alloc zero)).den = some r) : StepR orc (.alloc zero) dst σ k r := by
  have start : ∀ {K : List Key}, Key.o (slot dst) ∈ K → Does ((ROp.alloc zero).sem orc dst) σ (.ref (slot dst) ((σ.getO (slot dst)).st + 1) 0 0, [] ++ [.o (slot dst) ⟨(σ.getO (slot dst)).st + 1, some ⟨zero.cells.length, [zero], true, 1⟩⟩, .f (slot dst) false]) K := by
    intro K hk
    simp only [ROp.sem]
    exact Does.mk (more := []) hk
  simp only [opT] at hd
  split at hd
  · rename_i cs
    exact StepR.var h (g := true) (x := .agg cs) (by unfold RX; exact ⟨cs, rfl, constL_ok cs⟩) (by simp) (start (oKeys_o (by simp))) (fun _ h => h) hd
  · rename_i a hna
    refine StepR.var h (g := false) (x := zero) ?_ (fun _ => ?_) (start (oKeys_o (by simp))) (fun _ h => h) hd
    · unfold RX
      exact ⟨⟨_, rfl⟩, RCs.single.2 (constC_ok zero)⟩
    · cases zero <;> first | rfl | exact absurd rfl (hna _)

theorem op_box (E : TEnv) (h : Rel m τ σ) {n : Nat} {x : Opnd} (hd : (opT E dst τ k (.box n x)).den = some r) : StepR orc (.box n x) dst σ k r := by
  simp only [opT] at hd
  split at hd
  · rename_i ag cs hx
    split at hd
    · rename_i hc
      obtain ⟨hw, hs⟩ := hc
      obtain ⟨g1, g2, g3⟩ := cells_ok (h.val x) hx (.inl hs)
      obtain ⟨s1, s2⟩ := solid_all (h.val x) hx hs
      have hl : (x.val σ).cells.length = n := by rw [g1.length, hw]
      refine StepR.var h (g := ag) (cs := cs) (x := x.val σ) (e := n) ?_ (fun hag => ?_) ?_ (fun _ h => h) hd
      · unfold RX
        cases ag with
        | true =>
          obtain ⟨as, ha⟩ := g2 rfl
          rw [ha] at g1 ⊢
          exact ⟨as, rfl, g1⟩
        | false =>
          obtain ⟨c, rfl⟩ := g3 rfl
          refine ⟨⟨c, rfl⟩, ?_⟩
          have hv := h.val x
          generalize τ.val x = v at hx hv
          cases v with
          | c y =>
            simp only [TV.cells, Option.some.injEq, Prod.mk.injEq, List.cons.injEq, and_true, true_and] at hx
            subst hx
            exact RCs.single.2 hv
          | _ => first | (simp [TV.cells] at hx; done) | cases hx
      · subst hag
        obtain ⟨c, rfl⟩ := g3 rfl
        have hv := h.val x
        generalize τ.val x = v at hx hv
        cases v with
        | c y =>
          simp only [TV.cells, Option.some.injEq, Prod.mk.injEq, List.cons.injEq, and_true, true_and] at hx
          subst hx
          have hv' : RC τ σ m y [x.val σ] := hv
          exact AV.one_plain (hv'.one (by simpa using hs) _ (by simp))
        | _ => first | (simp [TV.cells] at hx; done) | cases hx
      · simp only [ROp.sem]
        refine Does.bind (Does.opnd x fun z hz => List.mem_append_left _ hz) ?_
        rw [if_pos (by simp [hl, s1])]
        exact Does.mk (more := []) (List.mem_append_right _ (oKeys_o (by simp)))
    · cases hd
  · cases hd

theorem Rel.like (h : Rel m τ σ) {σ' : State} (k : σ.Like σ') : Rel m τ σ' := h.off k.t k.len (fun _ _ => k.o _) (fun _ _ _ _ => k.f _) (fun _ _ s _ => k.o s)

/-- A new list. 'cons': what is given up for it; 'fr': what was read and is frozen. -/
theorem sl_core {t : Ty} {l : List t.D} {cap : Option Nat} {fz : Bool} {c : Nat} {z : Bool} {fr rd : List Slot} {cons : List W} {w : Option (Nat × Nat)} {mn : Bool} {kw : List Key} {av : AV} {τ0 : TState}
    (h0 : Rel m τ0 σ) (hcn : cons.all W.noT = true) (hX : ∀ x ∈ cons.flatMap W.slots, x = slot dst ∨ Clear m τ0 [x]) (hfr : ∀ s ∈ fr, s ∈ rd) (hsr : slot dst ∉ fr)
    (hc : l.length ≤ c) (hcap : ∀ c', cap = some c' → c = c') (hz : fz = false → z = false)
    (hav : av = match w with
      | none => .sref (slot dst) ((σ.getO (slot dst)).st + 1) 0 l.length
      | some (lo, n) => .sref (slot dst) ((σ.getO (slot dst)).st + 1) lo n) (hw : ∀ lo n, w = some (lo, n) → lo + n ≤ l.length)
    (hkw : ∀ u ∈ cons, u.key ∈ kw) (hkw2 : ∀ u ∈ oKeys [slot dst], u ∈ kw) (hkw3 : ∀ s ∈ fr, Key.f s ∈ kw)
    {ws : List W} (hws : ws = cons ++ setFs fr ++ [.o (slot dst) ⟨(σ.getO (slot dst)).st + 1, some ⟨t.width, l.map t.enc, false, c⟩⟩, .f (slot dst) z]) :
    ws.all W.noT = true ∧ (∀ u ∈ ws, u.key ∈ kw) ∧ Rel (upd m (slot dst) (slot dst)) ((τ0.mkO (slot dst) (.sl t l cap fz false)).freeze rd) (σ.applyAll ws) ∧
      RT ((τ0.mkO (slot dst) (.sl t l cap fz false)).freeze rd) (σ.applyAll ws) (upd m (slot dst) (slot dst)) (.c (.own (slot dst) w mn)) av := by
  subst hws
  let new : List W := [.o (slot dst) ⟨(σ.getO (slot dst)).st + 1, some ⟨t.width, l.map t.enc, false, c⟩⟩, .f (slot dst) z]
  let σa := (σ.applyAll cons).applyAll new
  obtain ⟨m1, m2, m3⟩ := mk_state (σ.applyAll cons) (slot dst) ((σ.getO (slot dst)).st + 1) ⟨t.width, l.map t.enc, false, c⟩ z
  have hslr : ∀ σ', σ'.getO (slot dst) = σa.getO (slot dst) → (fz = false → σ'.getF (slot dst) = z) → SlR σ' (slot dst) t l cap fz := by
    intro σ' e1 e2
    refine ⟨⟨_, c, by rw [e1]; exact m2, hc, hcap⟩, fun hf => by rw [e2 hf]; exact hz hf⟩
  have hag : Agree (slot dst :: cons.flatMap W.slots) σ σa := by
    refine Agree.trans ((agree_ws hcn).mono fun s hs => List.mem_cons_of_mem _ hs) (m1.mono fun s hs => ?_)
    simp only [List.mem_singleton] at hs
    subst hs; exact List.mem_cons_self
  have r1 : Rel (upd m (slot dst) (slot dst)) (τ0.mkO (slot dst) (.sl t l cap fz false)) σa := h0.mkSl hX hag (.inl (hslr σa rfl fun _ => m3))
  have r2 := r1.setFs hfr
  let σ' := σ.applyAll (cons ++ setFs fr ++ new)
  have hlike : (σa.applyAll (setFs fr)).Like σ' := by
    have e : σ' = (((σ.applyAll cons).applyAll (setFs fr)).applyAll new) := by
      show σ.applyAll (cons ++ setFs fr ++ new) = _
      rw [applyAll_append, applyAll_append]
    refine ⟨?_, fun n => ?_, fun d => ?_, fun d => ?_⟩
    · rw [e]; simp only [len_applyAll, σa]
    · rw [e, frzL_T]
      show ((W.f _ z).apply ((W.o _ _).apply _)).getT n = ((W.f _ z).apply ((W.o _ _).apply _)).getT n
      rw [getT_f, getT_o, getT_f, getT_o, frzL_T]
    · rw [e, frzL_O]
      show ((W.f _ z).apply ((W.o _ _).apply _)).getO d = ((W.f _ z).apply ((W.o _ _).apply _)).getO d
      rw [getO_f, getO_o, getO_f, getO_o, frzL_O]
    · rw [e, Vm.setFs_F]
      show ((W.f _ z).apply ((W.o _ _).apply _)).getF d = (fr.contains d || ((W.f _ z).apply ((W.o _ _).apply _)).getF d)
      rw [getF_f, getF_o, getF_f, getF_o, Vm.setFs_F]
      by_cases hd : d = slot dst
      · subst hd; simp [hsr]
      · simp [hd]
  have r3 := r2.like hlike
  have hOs : σ'.getO (slot dst) = σa.getO (slot dst) := by rw [hlike.o, frzL_O]
  have hst : (σ'.getO (slot dst)).st = (σ.getO (slot dst)).st + 1 := by rw [hOs]; show ((((σ.applyAll cons).applyAll new)).getO (slot dst)).st = _; rw [m2]
  refine ⟨?_, ?_, r3, ?_⟩
  · simp only [List.all_append, hcn, frzL_noT, Bool.and_self, Bool.true_and]; rfl
  · intro u hu
    simp only [List.mem_append] at hu
    rcases hu with (hu | hu) | hu
    · exact hkw u hu
    · simp only [setFs, List.mem_map] at hu
      obtain ⟨s, hs, rfl⟩ := hu
      exact hkw3 s hs
    · simp only [List.mem_cons, List.not_mem_nil, or_false] at hu
      rcases hu with rfl | rfl
      · exact hkw2 _ (oKeys_o (by simp))
      · exact hkw2 _ (oKeys_f (by simp))
  · have hfind : ∃ fz', ((τ0.mkO (slot dst) (.sl t l cap fz false)).freeze rd).getO (slot dst) = some (.sl t l cap fz' false) ∧ (fz' = false → fz = false) := by
      rw [TState.getO_freeze]
      have : (τ0.mkO (slot dst) (.sl t l cap fz false)).getO (slot dst) = some (.sl t l cap fz false) := by unfold TState.mkO; rw [TState.getO_put, if_pos rfl]; rfl
      rw [this]
      split
      · exact ⟨true, rfl, fun h => by cases h⟩
      · exact ⟨fz, rfl, id⟩
    obtain ⟨fz', hg1, hg2⟩ := hfind
    refine ⟨av, rfl, t, l, cap, fz', false, hg1, .inl ⟨?_, ?_⟩⟩
    · rw [upd_at]
      have := hslr σ' hOs fun hf => by
        rw [hlike.f, Vm.setFs_F, m3]
        simp [hsr]
      exact ⟨this.1, fun hf => this.2 (hg2 hf)⟩
    · rw [upd_at]
      cases w with
      | none => show av = AV.sref (slot dst) (σ'.getO (slot dst)).st 0 l.length; rw [hst]; exact hav
      | some p => exact ⟨hw p.1 p.2 rfl, by show av = AV.sref (slot dst) (σ'.getO (slot dst)).st p.1 p.2; rw [hst]; exact hav⟩

theorem StepR.sl {op : ROp} (h : Rel m τ σ) {t : Ty} {l : List t.D} {cap : Option Nat} {fz : Bool} {c : Nat} {z : Bool} {fr rd : List Slot} {cons : List W} {w : Option (Nat × Nat)} {mn : Bool} {kr kw : List Key} {av : AV} {τ0 : TState}
    (h0 : Rel m τ0 σ) (hcn : cons.all W.noT = true) (hX : ∀ x ∈ cons.flatMap W.slots, x = slot dst ∨ Clear m τ0 [x]) (hfr : ∀ s ∈ fr, s ∈ rd) (hsr : slot dst ∉ fr)
    (hc : l.length ≤ c) (hcap : ∀ c', cap = some c' → c = c') (hz : fz = false → z = false)
    (hav : av = match w with
      | none => .sref (slot dst) ((σ.getO (slot dst)).st + 1) 0 l.length
      | some (lo, n) => .sref (slot dst) ((σ.getO (slot dst)).st + 1) lo n) (hw : ∀ lo n, w = some (lo, n) → lo + n ≤ l.length)
    (hd : Does (op.sem orc dst) σ (av, cons ++ setFs fr ++ [.o (slot dst) ⟨(σ.getO (slot dst)).st + 1, some ⟨t.width, l.map t.enc, false, c⟩⟩, .f (slot dst) z]) kr)
    (hkw : ∀ u ∈ cons, u.key ∈ kw) (hkw2 : ∀ u ∈ oKeys [slot dst], u ∈ kw) (hkw3 : ∀ s ∈ fr, Key.f s ∈ kw)
    (hk : (k (.c (.own (slot dst) w mn)) ((τ0.mkO (slot dst) (.sl t l cap fz false)).freeze rd) kr kw).den = some r) : StepR orc op dst σ k r := by
  obtain ⟨g1, g2, g3, g4⟩ := sl_core (kw := kw) (rd := rd) (cap := cap) (fz := fz) (w := w) (mn := mn) (av := av) h0 hcn hX hfr hsr hc hcap hz hav hw hkw hkw2 hkw3 rfl
  exact ⟨_, _, kr, kw, _, av, _, hd, g1, g2, g3, g4, hk⟩

theorem freeze_nil (τ : TState) : τ.freeze [] = τ := by
  unfold TState.freeze
  have : (τ.ob.map fun p => if meets p.2.1 [] then (p.1, p.2.1, p.2.2.freeze) else p) = τ.ob := by
    rw [List.map_congr_left (g := id)]
    · simp
    · intro p _
      have : meets p.2.1 [] = false := by simp [meets]
      simp [this]
  rw [this]

theorem op_toBytes (E : TEnv) (h : Rel m τ σ) {x : Opnd} (hd : (opT E dst τ k (.toBytes x)).den = some r) : StepR orc (.toBytes x) dst σ k r := by
  simp only [opT] at hd
  split at hd
  · rename_i s e
    have hx := asS_ok (h.val x) e
    refine StepR.sl h (t := .int .u8) (l := toBytes s) (cap := some (toBytes s).length) (c := s.length) (z := false) (fr := []) (rd := []) (cons := []) (w := none) (av := .sref (slot dst) ((σ.getO (slot dst)).st + 1) 0 (toBytes s).length) h rfl (by simp) (by simp) (by simp) (by simp [toBytes]) (by simp [toBytes]) (by simp) rfl (by simp) ?_ (by simp) (fun _ h => h) (by simp) (by rw [freeze_nil]; exact hd)
    simp only [ROp.sem]
    refine Does.bind (Does.opnd x fun z hz => List.mem_append_left _ hz) ?_
    rw [hx]
    have e1 : (toBytes s).length = s.length := by simp [toBytes]
    have e2 : (toBytes s).map (Ty.int .u8).enc = s.map fun b => AV.int .u8 b.toNat := by simp only [toBytes, List.map_map]; apply List.map_congr_left; intro a _; rfl
    rw [e1, e2]
    exact Does.mk (more := []) (List.mem_append_right _ (oKeys_o (by simp)))
  · cases hd

theorem repZ_ok {e : Ty} (ih : ∀ (as r : List AV), e.isZero as = some r → as = e.cells e.dflt ++ r) : ∀ (n : Nat) (as r : List AV), repZ e.isZero n as = some r → as = ((List.replicate n e.dflt).map fun x => e.cells x).flatten ++ r
  | 0, as, r, h => by simp only [repZ, Option.some.injEq] at h; subst h; rfl
  | n + 1, as, r, h => by
    simp only [repZ, Option.bind_eq_some_iff] at h
    obtain ⟨q, h1, h2⟩ := h
    rw [ih as q h1, repZ_ok ih n q r h2]
    simp [List.replicate_succ]
theorem isZero_ok : ∀ (t : Ty) (as r : List AV), t.isZero as = some r → as = t.cells t.dflt ++ r
  | .int k, as, r, h => by
    unfold Ty.isZero at h
    split at h
    all_goals first | (rename_i e; cases e; done) | skip
    all_goals first | (rename_i e; simp only [Ty.int.injEq] at e; subst e; split at h; (rename_i hc; obtain ⟨rfl, rfl⟩ := hc; cases h; rfl); cases h) | (cases h; done) | skip
  | .bool, as, r, h => by
    unfold Ty.isZero at h
    split at h
    all_goals first | (rename_i e; cases e; done) | skip
    all_goals first | (split at h; (cases h); (rename_i hb; cases h; simp only [Bool.not_eq_true] at hb; subst hb; rfl)) | (cases h; done) | skip
  | .str, as, r, h => by
    unfold Ty.isZero at h
    split at h
    all_goals first | (rename_i e; cases e; done) | skip
    all_goals first | (split at h; (rename_i hb; cases h; simp only [List.isEmpty_iff] at hb; subst hb; rfl); (cases h; done)) | (cases h; done) | skip
  | .list e, as, r, h => by
    unfold Ty.isZero at h
    split at h
    all_goals first | (rename_i e; cases e; done) | skip
    all_goals first | (rename_i e; simp only [Ty.list.injEq] at e; subst e; split at h; (rename_i hc; obtain ⟨rfl, hc⟩ := hc; cases h; simp only [List.isEmpty_iff] at hc; subst hc; rfl); (cases h; done)) | (cases h; done) | skip
  | .st b, as, r, h => by
    have : b.isZero as = some r := by unfold Ty.isZero at h; exact h
    exact isZero_ok b as r this
  | .pair a b, as, r, h => by
    have : (a.isZero as).bind b.isZero = some r := by
      conv at h => lhs; unfold Ty.isZero
      exact h
    simp only [Option.bind_eq_some_iff] at this
    obtain ⟨q, h1, h2⟩ := this
    rw [isZero_ok a as q h1, isZero_ok b q r h2]
    simp [Ty.cells, Ty.dflt]
  | .arr n e, as, r, h => by
    have : repZ e.isZero n as = some r := by
      conv at h => lhs; unfold Ty.isZero
      exact h
    exact repZ_ok (isZero_ok e) n as r this
theorem zeroIs_ok {t : Ty} {a : AV} (h : t.zeroIs a = true) : a = t.enc t.dflt := by
  unfold Ty.zeroIs at h
  have key : ∀ cs, (match t.isZero cs with
    | some [] => true
    | _ => false) = true → cs = t.cells t.dflt := by
    intro cs hc
    split at hc
    · rename_i e
      have := isZero_ok t cs [] e
      simpa using this
    · cases hc
  split at h
  · rename_i cs
    simp only [Bool.and_eq_true, Bool.not_eq_true'] at h
    unfold Ty.enc enc1
    rw [h.1, ← key cs h.2]; rfl
  · simp only [Bool.and_eq_true] at h
    unfold Ty.enc enc1
    rw [h.1, ← key _ h.2]; rfl

theorem op_mkSl (E : TEnv) (h : Rel m τ σ) {e bytes : Nat} {zero : AV} {ln cap : Opnd} (hd : (opT E dst τ k (.mkSl e bytes zero ln cap)).den = some r) : StepR orc (.mkSl e bytes zero ln cap) dst σ k r := by
  simp only [opT] at hd
  split at hd
  · rename_i k1 n k2 c e1 e2
    split at hd
    · rename_i hz
      obtain ⟨rfl, hz⟩ := hz
      have hzero := zeroIs_ok hz
      obtain ⟨⟨g1, g2, g3, g4⟩, hk⟩ := Tree.den_req hd
      generalize E.ty (dst.getD 0) = t at *
      have hl : (mkL n t.dflt).length = n.toNat := by simp [mkL]
      refine StepR.sl h (t := t) (l := mkL n t.dflt) (cap := some c.toNat) (c := c.toNat) (z := false) (fr := []) (rd := []) (cons := []) (w := none) (av := .sref (slot dst) ((σ.getO (slot dst)).st + 1) 0 (mkL n t.dflt).length) h rfl (by simp) (by simp) (by simp) (by rw [hl]; omega) (by simp) (by simp) rfl (by simp) ?_ (by simp) (fun _ h => h) (by simp) (by rw [freeze_nil]; exact hk)
      simp only [ROp.sem]
      refine Does.bind (Does.opnd ln fun z hz => by simp [hz]) (Does.bind (Does.idx (asI_ok (h.val ln) e1)) (Does.bind (Does.opnd cap fun z hz => by simp [hz]) (Does.bind (Does.idx (asI_ok (h.val cap) e2)) ?_)))
      have c1 : zero.cells.length = t.width := by rw [hzero, Ty.enc_cells, Ty.len_cells]
      have c2 : zero.cells.all AV.one = true := by
        rw [hzero, Ty.enc_cells, List.all_eq_true]
        exact fun a ha => AV.leaf_one (Ty.cells_leaf t _ a ha)
      rw [if_pos ⟨g1, g2, g3, g4, c1, c2⟩, hl, hzero]
      have : (mkL n t.dflt).map t.enc = List.replicate n.toNat (t.enc t.dflt) := by simp [mkL]
      rw [this]
      exact Does.mk (more := []) (by simp [oKeys])
    · cases hd
  · cases hd
end
end Go.Vm
/- Operations that move, make longer, copy. -/
namespace Go.Vm

section
variable {ρ : Type} {τ : TState} {σ : State} {m : Nat → Slot} {orc : Oracle} {dst : Option Nat} {k : KT ρ} {r : ρ}

theorem contains_false {l : List Nat} {x : Nat} (h : ¬l.contains x = true) : x ∉ l := by simpa using h

theorem op_mvR (E : TEnv) (h : Rel m τ σ) {x : Opnd} (hd : (opT E dst τ k (.mv x true)).den = some r) : StepR orc (.mv x true) dst σ k r := by
  have hx := h.val x
  have start : ∀ {K : List Key} {q : AV × List W}, (∀ z ∈ x.keys, z ∈ K) → Does (match x.val σ with
      | .sref d st lo ln => (theObj d st).bind fun o => (frz d).bind fun z =>
        if d == slot dst then R.ret (x.val σ, ([] : List W)) else mk (slot dst) o z (fun s => .sref (slot dst) s lo ln) [.o d ⟨st, none⟩]
      | a => .ret (a, [])) σ q K → Does ((ROp.mv x true).sem orc dst) σ q K := by
    intro K q hk hq
    simp only [ROp.sem, if_true]
    exact Does.bind (Does.opnd x hk) hq
  have plain : ∀ {tv : TV} {ks : List Key}, (∀ z ∈ x.keys, z ∈ ks) → (∀ d st lo ln, x.val σ ≠ .sref d st lo ln) → RT τ σ m tv (x.val σ) → (k tv τ ks []).den = some r → StepR orc (.mv x true) dst σ k r := by
    intro tv ks hks hns hv hk
    refine StepR.pure h (av := x.val σ) (start hks ?_) hv hk
    generalize x.val σ = a at hns
    cases a <;> first | exact Does.ret _ | exact absurd rfl (hns _ _ _ _)
  simp only [opT, if_true] at hd
  split at hd
  · rename_i d w mn ex
    rw [ex] at hx
    have hx0 := hx
    obtain ⟨a, ha, t, l, cap, fz, s1, ho, hx⟩ := hx
    have ha' : x.val σ = a := by simpa using ha
    rw [ho] at hd
    simp only at hd
    have hd0 : τ.getO d ≠ none := by rw [ho]; simp
    have hat := h.at_ d hd0
    by_cases hs : τ.at_ d = [slot dst]
    · -- it is there already
      rw [if_pos hs] at hd
      have hs' : m d = slot dst := by rw [hs] at hat; simpa using hat
      rw [ex] at hd
      rcases hx with ⟨⟨⟨st, c, k1, k2, k3⟩, k4⟩, hw⟩ | ⟨_, rfl, _, _⟩
      · have hw' : ∃ lo n, a = .sref (m d) st lo n := by
          cases w with
          | none => exact ⟨0, l.length, by simp only at hw; rw [hw, k1]⟩
          | some p => exact ⟨p.1, p.2, by rw [hw.2, k1]⟩
        obtain ⟨lo, n, rfl⟩ := hw'
        refine StepR.pure h (av := x.val σ) (start (K := x.keys ++ τ.ks d) (fun z hz => List.mem_append_left _ hz) ?_) (by rw [ha'] at hx0 ⊢; exact hx0) hd
        rw [ha']
        refine Does.bind (Does.theObj (List.mem_append_right _ (h.key_o ho)) k1) (Does.bind (Does.frz (List.mem_append_right _ (h.key_f ho))) ?_)
        rw [if_pos (by simp [hs'])]
        exact Does.ret _
      · refine plain (ks := x.keys ++ τ.ks d) (fun z hz => List.mem_append_left _ hz) (by rw [ha']; simp) (by rw [ha'] at hx0 ⊢; exact hx0) hd
    · rw [if_neg hs] at hd
      by_cases hs2 : (τ.at_ d).contains (slot dst) = true
      · rw [if_pos hs2] at hd; cases hd
      · rw [if_neg hs2] at hd
        have hne : m d ≠ slot dst := fun e => contains_false hs2 (e ▸ hat)
        rcases hx with ⟨⟨⟨st, c, k1, k2, k3⟩, k4⟩, hw⟩ | ⟨rfl, rfl, rfl, hw⟩
        · have hw' : ∃ lo n, lo + n ≤ l.length ∧ a = .sref (m d) st lo n ∧ (match w with
              | none => lo = 0 ∧ n = l.length
              | some p => lo = p.1 ∧ n = p.2) := by
            cases w with
            | none => exact ⟨0, l.length, by omega, by simp only at hw; rw [hw, k1], rfl, rfl⟩
            | some p => exact ⟨p.1, p.2, hw.1, by rw [hw.2, k1], rfl, rfl⟩
          obtain ⟨lo, n, hle, rfl, hwm⟩ := hw'
          refine StepR.sl h (t := t) (l := l) (cap := cap) (fz := fz) (c := c) (z := σ.getF (m d)) (fr := []) (rd := []) (cons := [.o (m d) ⟨st, none⟩]) (w := w) (mn := mn) (av := .sref (slot dst) ((σ.getO (slot dst)).st + 1) lo n) (h.drop [d] (τ.at_ d)) rfl ?_ (by simp) (by simp) k2 k3 k4 ?_ ?_ (kr := x.keys ++ τ.ks d ++ oKeys [slot dst]) (kw := τ.ks d ++ oKeys [slot dst]) (start (fun z hz => by simp [hz]) ?_) ?_ (fun u hu => List.mem_append_right _ hu) (by simp) (by rw [freeze_nil]; exact hd)
          · intro y hy
            simp only [List.flatMap_cons, W.slots, List.flatMap_nil, List.append_nil, List.mem_singleton] at hy
            subst hy
            exact .inr (h.clear_kill hd0)
          · cases w with
            | none => obtain ⟨rfl, rfl⟩ := hwm; rfl
            | some p => obtain ⟨rfl, rfl⟩ := hwm; rfl
          · intro lo' n' e
            subst e
            obtain ⟨rfl, rfl⟩ := hwm
            exact hle
          · rw [ha']
            refine Does.bind (Does.theObj (List.mem_append_left _ (List.mem_append_right _ (h.key_o ho))) k1) (Does.bind (Does.frz (List.mem_append_left _ (List.mem_append_right _ (h.key_f ho)))) ?_)
            rw [if_neg (by simp [hne])]
            exact Does.mk (List.mem_append_right _ (oKeys_o (by simp)))
          · intro u hu
            simp only [List.mem_singleton] at hu
            subst hu
            exact List.mem_append_left _ (h.key_o ho)
        · -- nil
          have hrel : Rel (upd m (slot dst) (slot dst)) ((τ.kill d).mkO (slot dst) (.sl t [] cap fz false)) σ := (h.drop [d] (τ.at_ d)).mkSl (X := []) (by simp) (Agree.refl _ σ) (.inr rfl)
          refine ⟨_, _, _, _, upd m (slot dst) (slot dst), .nil, [], start (K := x.keys ++ τ.ks d ++ oKeys [slot dst]) (fun z hz => by simp [hz]) (by rw [ha']; exact Does.ret _), rfl, by simp, hrel, ?_, hd⟩
          refine ⟨.nil, rfl, t, [], cap, fz, false, ?_, .inr ⟨rfl, rfl, rfl, hw⟩⟩
          unfold TState.mkO
          rw [TState.getO_put, if_pos rfl]; rfl
  · cases hd
  · rename_i e l ds ex
    split at hd
    · rename_i hds
      have hds' : ds = [] := by simpa using hds
      subst hds'
      rw [ex] at hx
      rw [ex] at hd
      refine plain (fun _ h => h) ?_ hx hd
      obtain ⟨a, ha, hx⟩ := hx
      have ha' : x.val σ = a := by simpa using ha
      rw [ha']
      rcases hx with rfl | ⟨_, rfl⟩ | ⟨s, hs, _⟩
      · simp
      · simp
      · cases hs
    · cases hd
  · rename_i v hn1 hn2 hn3
    refine plain (fun _ h => h) ?_ hx hd
    intro d st lo ln e
    rw [e] at hx
    generalize τ.val x = v at hx hn1 hn2 hn3
    cases v with
    | agg cs => obtain ⟨as, h1, _⟩ := hx; cases h1
    | fn g a b => obtain ⟨_, _, h1, _⟩ := hx; cases h1
    | tup vs => obtain ⟨_, h1, _⟩ := hx; cases h1
    | c y =>
      cases y with
      | any => exact hn2 rfl
      | v t z =>
        have h1 : [AV.sref d st lo ln] = t.cells z := hx
        have := t.cells_leaf z (.sref d st lo ln) (by rw [← h1]; simp)
        cases this
      | bc b => have h1 : [AV.sref d st lo ln] = [AV.bool b] := hx; simp at h1
      | nil => have h1 : [AV.sref d st lo ln] = [AV.nil] := hx; simp at h1
      | lst e l ds => exact hn3 _ _ _ rfl
      | own d w mn => exact hn1 _ _ _ rfl
      | spare d => obtain ⟨_, _, _, _, _, _, _, _, _, _, h1⟩ := hx; simp at h1
      | vref d off => obtain ⟨_, h1⟩ := hx; simp at h1
      | eref d i off => obtain ⟨_, _, _, _, _, _, _, h1⟩ := hx; simp at h1
      | aref d off n e j off2 => obtain ⟨_, _, _, h1⟩ := hx; simp at h1
      | rp t z off ds => rcases hx with ⟨_, _, _, h1⟩ | ⟨_, _, _, _, _, _, _, _, h1⟩ <;> simp at h1

/-- An object that is gone for good. -/
theorem Rel.gone (h : Rel m τ σ) {d : Nat} (hd : τ.getO d = none) (hn : ∀ c, τ.Has c → d ∉ c.names) (hne : ∀ d', τ.getO d' ≠ none → m d' ≠ d) (ho : (σ.getO d).obj = none) : Rel (upd m d d) (τ.putO d [d] .gone) σ :=
  h.put (by simp) (fun _ => rfl) rfl (fun _ _ _ => ⟨rfl, rfl⟩) (fun d' _ hd' => hne d' hd') (fun _ _ _ _ => rfl) (.inl hn) ho

theorem op_app (E : TEnv) (h : Rel m τ σ) {e bytes : Nat} {x y : Opnd} (hd : (opT E dst τ k (.app e bytes x y)).den = some r) : StepR orc (.app e bytes x y) dst σ k r := by
  have hx := h.val x
  simp only [opT] at hd
  generalize E.ty (dst.getD 0) = t at hd
  split at hd
  · cases hd
  · rename_i ys ds ey
    split at hd
    · cases hd
    · rename_i he
      have he' : e = t.width := by simpa using he
      subst he'
      have hel : ∀ {K : List Key}, (∀ s ∈ ds, Key.o s ∈ K) → Does (elems t.width (y.val σ)) σ (ys.map t.enc) K := fun hk => elems_ok h (h.val y) ey hk
      split at hd
      · -- a nil list
        rename_i ex
        have hxv : x.val σ = .nil := by
          rw [ex] at hx
          have : [x.val σ] = [AV.nil] := hx
          simpa using this
        obtain ⟨hle, hk⟩ := Tree.den_req hd
        refine StepR.sl h (t := t) (l := ys) (cap := some ys.length) (fz := false) (c := ys.length) (z := false) (fr := []) (rd := []) (cons := []) (w := none) (mn := false) (av := .sref (slot dst) ((σ.getO (slot dst)).st + 1) 0 ys.length) h rfl (by simp) (by simp) (by simp) (Nat.le_refl _) (by simp) (by simp) rfl (by simp) (kr := x.keys ++ y.keys ++ oKeys (slot dst :: ds)) (kw := oKeys [slot dst]) ?_ (by simp) (fun _ h => h) (by simp) (by rw [freeze_nil]; exact hk)
        simp only [ROp.sem]
        refine Does.bind (Does.opnd x fun z hz => by simp [hz]) (Does.bind (Does.opnd y fun z hz => by simp [hz]) (Does.bind (hel (fun s hs => List.mem_append_right _ (oKeys_o (by simp [hs])))) ?_))
        rw [hxv]
        simp only [List.length_map]
        rw [if_pos hle]
        exact Does.mk (more := []) (List.mem_append_right _ (oKeys_o (by simp)))
      · -- an own list
        rename_i d w mn ex
        rw [ex] at hx
        obtain ⟨a, ha, t', l, cap, fz, s1, ho, hx⟩ := hx
        have ha' : x.val σ = a := by simpa using ha
        rw [ho] at hd
        simp only at hd
        have hd0 : τ.getO d ≠ none := by rw [ho]; simp
        have hat := h.at_ d hd0
        split at hd
        · rename_i htt
          subst htt
          simp only at hd
          split at hd
          · rename_i hfz
            obtain ⟨hle, hk⟩ := Tree.den_req hd
            simp only [Tree.den] at hk
            rcases hx with ⟨⟨⟨st, c, k1, k2, k3⟩, k4⟩, hw⟩ | ⟨rfl, rfl, rfl, hw⟩
            · -- there
              have hw' : ∃ lo n, lo + n ≤ l.length ∧ a = .sref (m d) st lo n ∧ cutW w l = (l.drop lo).take n ∧ (w = none → lo = 0 ∧ n = l.length) ∧ (∀ p, w = some p → lo = p.1 ∧ n = p.2) := by
                cases w with
                | none => exact ⟨0, l.length, by omega, by simp only at hw; rw [hw, k1], by simp [cutW], by simp, by simp⟩
                | some p => exact ⟨p.1, p.2, hw.1, by rw [hw.2, k1], rfl, by simp, fun q hq => by cases hq; exact ⟨rfl, rfl⟩⟩
              obtain ⟨lo, n, hle2, rfl, hpre, hwn, hws⟩ := hw'
              rw [hpre] at hle hk
              have hlen : ((l.drop lo).take n).length = n := by simp; omega
              rw [hlen] at hle
              have hdoes : Does ((ROp.app t'.width bytes x y).sem orc dst) σ (.sref (slot dst) ((σ.getO (slot dst)).st + 1) 0 ((l.drop lo).take n ++ ys).length,
                  (if m d == slot dst then [] else [.o (m d) ⟨st, none⟩]) ++ setFs [] ++ [.o (slot dst) ⟨(σ.getO (slot dst)).st + 1, some ⟨t'.width, ((l.drop lo).take n ++ ys).map t'.enc, false, max (n + ys.length) (if lo + n + ys.length ≤ c then c - lo else 0)⟩⟩, .f (slot dst) (σ.getF (m d))])
                  (x.keys ++ y.keys ++ oKeys (slot dst :: ds) ++ τ.ks d) := by
                simp only [ROp.sem]
                refine Does.bind (Does.opnd x fun z hz => by simp [hz]) (Does.bind (Does.opnd y fun z hz => by simp [hz]) (Does.bind (hel (fun s hs => List.mem_append_left _ (List.mem_append_right _ (oKeys_o (by simp [hs]))))) ?_))
                rw [ha']
                refine Does.bind (Does.theObj (List.mem_append_right _ (h.key_o ho)) k1) (Does.bind (Does.frz (List.mem_append_right _ (h.key_f ho))) ?_)
                have c3 : (!σ.getF (m d) || lo + n == l.length) = true := by
                  rcases hfz with hfz | ⟨hfz, _⟩
                  · rw [k4 hfz]; rfl
                  · have : w = none := by simpa using hfz
                    obtain ⟨rfl, rfl⟩ := hwn this
                    simp
                simp only [List.length_map, beq_self_eq_true, Bool.not_false, Bool.true_and, decide_eq_true hle2, c3, decide_eq_true hle, if_true, List.length_append, hlen]
                have e1 : ((l.drop lo).take n ++ ys).map t'.enc = ((l.map t'.enc).drop lo).take n ++ ys.map t'.enc := by rw [List.map_append, List.map_take, List.map_drop]
                rw [e1]
                have : setFs [] = [] := rfl
                rw [this, List.append_nil]
                exact Does.mk (List.mem_append_left _ (List.mem_append_right _ (oKeys_o (by simp))))
              obtain ⟨g1, g2, g3, g4⟩ := sl_core (m := m) (σ := σ) (dst := dst) (t := t') (l := (l.drop lo).take n ++ ys) (cap := capApp w mn cap ((l.drop lo).take n).length ys.length) (fz := fz) (c := max (n + ys.length) (if lo + n + ys.length ≤ c then c - lo else 0)) (z := σ.getF (m d)) (fr := []) (rd := [])
                  (cons := if m d == slot dst then [] else [.o (m d) ⟨st, none⟩]) (w := none) (mn := false) (av := .sref (slot dst) ((σ.getO (slot dst)).st + 1) 0 ((l.drop lo).take n ++ ys).length) (kw := τ.ks d ++ oKeys [slot dst]) (h.drop [d] (τ.at_ d)) (by split <;> rfl)
                  (by
                    intro u hu
                    split at hu
                    · simp at hu
                    · simp only [List.flatMap_cons, W.slots, List.flatMap_nil, List.append_nil, List.mem_singleton] at hu
                      subst hu
                      exact .inr (h.clear_kill hd0)) (by simp) (by simp) (by simp only [List.length_append, hlen]; omega)
                  (by
                    intro c' hc'
                    unfold capApp at hc'
                    split at hc'
                    · rename_i c0
                      have := k3 c0 rfl
                      subst this
                      simp only [Option.some.injEq] at hc'
                      rw [← hc', hlen]
                      cases w with
                      | none => obtain ⟨rfl, rfl⟩ := hwn rfl; rfl
                      | some p => obtain ⟨rfl, rfl⟩ := hws p rfl; rfl
                    · cases hc') k4 rfl (by simp)
                  (by
                    intro u hu
                    split at hu
                    · cases hu
                    · simp only [List.mem_singleton] at hu
                      subst hu
                      exact List.mem_append_left _ (h.key_o ho)) (fun u hu => List.mem_append_right _ hu) (by simp) rfl
              rw [freeze_nil] at g3 g4
              by_cases hg : mn = false ∧ d ≠ slot dst ∧ τ.at_ d = [d]
              · rw [if_pos hg] at hk
                obtain ⟨_, hg2, hg3⟩ := hg
                have hmd : m d = d := by rw [hg3] at hat; simpa using hat
                have hnd : ¬ (m d == slot dst) = true := by simp [hmd, hg2]
                have gname : ∀ c, ((τ.kill d).mkO (slot dst) (.sl t' ((l.drop lo).take n ++ ys) (capApp w mn cap ((l.drop lo).take n).length ys.length) fz false)).Has c → d ∉ c.names := by
                  intro c hc
                  unfold TState.mkO at hc
                  rcases TState.has_put hc with hc | hc
                  · obtain ⟨⟨c0, h0, rfl⟩, _⟩ := TState.has_drop hc
                    exact fun e => TState.kill_names h0 (TC.dropped_names.1 d e).2
                  · cases hc
                have gnone : ((τ.kill d).mkO (slot dst) (.sl t' ((l.drop lo).take n ++ ys) (capApp w mn cap ((l.drop lo).take n).length ys.length) fz false)).getO d = none := by
                  unfold TState.mkO
                  rw [TState.getO_put, if_neg hg2, TState.getO_drop, TState.kill_getO]; simp
                have gobj : ((σ.applyAll ((if m d == slot dst then [] else [.o (m d) ⟨st, none⟩]) ++ setFs [] ++ [.o (slot dst) ⟨(σ.getO (slot dst)).st + 1, some ⟨t'.width, ((l.drop lo).take n ++ ys).map t'.enc, false, max (n + ys.length) (if lo + n + ys.length ≤ c then c - lo else 0)⟩⟩, .f (slot dst) (σ.getF (m d))])).getO d).obj = none := by
                  rw [if_neg hnd]
                  show (((W.f _ _).apply ((W.o _ _).apply ((W.o (m d) ⟨st, none⟩).apply σ))).getO d).obj = none
                  rw [getO_f, getO_o, if_neg hg2, getO_o, hmd, if_pos rfl]
                have gne : ∀ d', ((τ.kill d).mkO (slot dst) (.sl t' ((l.drop lo).take n ++ ys) (capApp w mn cap ((l.drop lo).take n).length ys.length) fz false)).getO d' ≠ none → upd m (slot dst) (slot dst) d' ≠ d := by
                  intro d' hd'
                  by_cases e1 : d' = slot dst
                  · rw [e1, upd_at]; exact fun e => hg2 e.symm
                  · rw [upd_ne e1]
                    unfold TState.mkO at hd'
                    rw [TState.getO_put, if_neg e1, TState.getO_drop] at hd'
                    have hk0 : (τ.kill d).getO d' ≠ none := by
                      intro e; rw [e] at hd'; simp at hd'
                    have := (h.clear_kill hd0).1 d' hk0
                    rw [hmd] at this
                    simpa using this
                have rr := g3.gone gnone gname gne gobj
                refine ⟨_, _, _, _, _, _, _, hdoes, g1, g2, rr, ?_, hk⟩
                refine RT.frame (m' := upd (upd m (slot dst) (slot dst)) d d) g4 (fun c hc d' hd' => ?_) (fun _ _ s hs => rfl)
                simp only [TV.all, List.mem_singleton] at hc
                subst hc
                simp only [TC.names, List.mem_singleton] at hd'
                subst hd'
                refine ⟨upd_ne (fun e => hg2 e.symm), rfl, fun e0 l0 cap0 fz0 s0 hl => ⟨l0, cap0, fz0, s0, ?_, rfl, id⟩, fun g cs fz0 s0 hl => ⟨g, cs, fz0, s0, ?_⟩⟩
                · rw [TState.getO_put, if_neg (fun e => hg2 e.symm)]; exact hl
                · rw [TState.getO_put, if_neg (fun e => hg2 e.symm)]; exact hl
              · rw [if_neg hg] at hk
                exact ⟨_, _, _, _, _, _, _, hdoes, g1, g2, g3, g4, hk⟩
            · -- nil
              have hpre : cutW w ([] : List t'.D) = [] := by
                cases w <;> simp [cutW]
              rw [hpre] at hle hk
              have hfz' : fz = false := by
                rcases hfz with hfz | ⟨_, hfz⟩
                · exact hfz
                · cases hfz
              subst hfz'
              rw [if_neg (by simp)] at hk
              refine StepR.sl h (t := t') (l := [] ++ ys) (cap := capApp w true cap ([] : List t'.D).length ys.length) (fz := false) (c := ys.length) (z := false) (fr := []) (rd := []) (cons := []) (w := none) (mn := false) (av := .sref (slot dst) ((σ.getO (slot dst)).st + 1) 0 ([] ++ ys).length) (h.drop [d] (τ.at_ d)) rfl (by simp) (by simp) (by simp) (by simp) (by simp [capApp]) (by simp) rfl (by simp)
                (kr := x.keys ++ y.keys ++ oKeys (slot dst :: ds) ++ τ.ks d) (kw := τ.ks d ++ oKeys [slot dst]) ?_ (by simp) (fun u hu => List.mem_append_right _ hu) (by simp) (by rw [freeze_nil]; exact hk)
              simp only [ROp.sem]
              refine Does.bind (Does.opnd x fun z hz => by simp [hz]) (Does.bind (Does.opnd y fun z hz => by simp [hz]) (Does.bind (hel (fun s hs => List.mem_append_left _ (List.mem_append_right _ (oKeys_o (by simp [hs]))))) ?_))
              rw [ha']
              simp only [List.length_map, List.nil_append]
              rw [if_pos (by simpa using hle)]
              exact Does.mk (more := []) (List.mem_append_left _ (List.mem_append_right _ (oKeys_o (by simp))))
          · cases hd
        · cases hd
      · cases hd
end
end Go.Vm
/- Operations that change what is in an object. -/
namespace Go.Vm

section
variable {ρ : Type} {τ : TState} {σ : State} {m : Nat → Slot} {orc : Oracle} {dst : Option Nat} {k : KT ρ} {r : ρ}

/-- One object is written. -/
theorem w_state (σ : State) (s st : Nat) (o : Obj) : Agree [s] σ ((W.o s ⟨st, some o⟩).apply σ) ∧ ((W.o s ⟨st, some o⟩).apply σ).getO s = ⟨st, some o⟩ ∧ ((W.o s ⟨st, some o⟩).apply σ).getF s = σ.getF s := by
  refine ⟨agree_w rfl, ?_, rfl⟩
  rw [getO_o, if_pos rfl]

theorem op_clear (E : TEnv) (h : Rel m τ σ) {e : Nat} {x : Opnd} (hd : (opT E dst τ k (.clear e x)).den = some r) : StepR orc (.clear e x) dst σ k r := by
  have hx := h.val x
  simp only [opT] at hd
  split at hd
  · rename_i d ex
    rw [ex] at hx
    obtain ⟨t, l, cap, fz, s1, lo, n, ho, ⟨⟨st, c, k1, k2, k3⟩, k4⟩, hl, hx⟩ := hx
    have hx' : x.val σ = .spare (m d) (σ.getO (m d)).st lo n := by simpa using hx
    rw [ho] at hd
    split at hd
    · rename_i t' l' cap' s1' ho'
      simp only [Option.some.injEq, TO.sl.injEq] at ho'
      obtain ⟨rfl, hll, rfl, rfl, rfl⟩ := ho'
      cases hll
      split at hd
      · rename_i he
        subst he
        refine StepR.pure h (av := .tuple []) ?_ (by exact ⟨[], rfl, rfl, by simp⟩) hd
        simp only [ROp.sem]
        refine Does.bind (Does.opnd x fun z hz => List.mem_append_left _ hz) ?_
        rw [hx', k1]
        refine Does.bind (Does.theObj (List.mem_append_right _ (h.key_o ho)) k1) (Does.bind (Does.frz (List.mem_append_right _ (h.key_f ho))) ?_)
        rw [k4 rfl]
        simp only [beq_self_eq_true, Bool.not_false, Bool.and_self, List.length_map, decide_eq_true hl, if_true]
        exact Does.ret _
      · cases hd
    · cases hd
  · cases hd

theorem op_copy (E : TEnv) (h : Rel m τ σ) {e : Nat} {x y : Opnd} (hd : (opT E dst τ k (.copy e x y)).den = some r) : StepR orc (.copy e x y) dst σ k r := by
  have hx := h.val x
  simp only [opT] at hd
  split at hd
  · rename_i d w ex
    rw [ex] at hx
    obtain ⟨a, ha, t0, l0, cap0, fz0, s10, ho0, hx⟩ := hx
    have ha' : x.val σ = a := by simpa using ha
    split at hd
    · rename_i t l cap s1 ho
      rw [ho] at ho0
      simp only [Option.some.injEq, TO.sl.injEq] at ho0
      obtain ⟨rfl, hll, rfl, rfl, rfl⟩ := ho0
      cases hll
      split at hd
      · rename_i ys ds ey
        split at hd
        · rename_i he
          subst he
          obtain ⟨hle, hk⟩ := Tree.den_req hd
          simp only [Tree.den] at hk
          rcases hx with ⟨⟨⟨st, c, k1, k2, k3⟩, k4⟩, hw⟩ | ⟨hm, _⟩
          · have hw' : ∃ lo n, lo + n ≤ l.length ∧ a = .sref (m d) st lo n ∧ ((∀ p, w = some p → lo = p.1 ∧ n = p.2) ∧ (w = none → lo = 0 ∧ n = l.length)) := by
              cases w with
              | none => exact ⟨0, l.length, by omega, by simp only at hw; rw [hw, k1], by simp, by simp⟩
              | some p => exact ⟨p.1, p.2, hw.1, by rw [hw.2, k1], fun q hq => by cases hq; exact ⟨rfl, rfl⟩, by simp⟩
            obtain ⟨lo, n, hle2, rfl, hws, hwn⟩ := hw'
            have hk' : ys.length ≤ n ∧ (k (tInt .i64 (ys.length : Int)) (τ.upd d (.sl t (l.take lo ++ ys ++ l.drop (lo + ys.length)) cap false s1)) (x.keys ++ y.keys ++ τ.ks d ++ oKeys ds) (τ.ks d)).den = some r := by
              cases w with
              | none => obtain ⟨rfl, rfl⟩ := hwn rfl; exact ⟨hle, hk⟩
              | some p => obtain ⟨rfl, rfl⟩ := hws p rfl; exact ⟨hle, hk⟩
            obtain ⟨hyn, hk'⟩ := hk'
            have hd0 : τ.getO d ≠ none := by rw [ho]; simp
            have hlen : (l.take lo ++ ys ++ l.drop (lo + ys.length)).length = l.length := by simp; omega
            obtain ⟨m1, m2, m3⟩ := w_state σ (m d) st ⟨t.width, (l.map t.enc).take lo ++ ys.map t.enc ++ (l.map t.enc).drop (lo + (ys.map t.enc).length), false, c⟩
            have hxs : (l.map t.enc).take lo ++ ys.map t.enc ++ (l.map t.enc).drop (lo + (ys.map t.enc).length) = (l.take lo ++ ys ++ l.drop (lo + ys.length)).map t.enc := by
              simp [List.map_take, List.map_drop]
            have rr : Rel m (τ.upd d (.sl t (l.take lo ++ ys ++ l.drop (lo + ys.length)) cap false s1)) ((W.o (m d) ⟨st, some ⟨t.width, (l.map t.enc).take lo ++ ys.map t.enc ++ (l.map t.enc).drop (lo + (ys.map t.enc).length), false, c⟩⟩).apply σ) := by
              refine h.updSl ho hlen m1 (by rw [m2, k1]) (fun _ => ⟨⟨st, c, by rw [m2, hxs], by rw [hlen]; exact k2, k3⟩, fun hf => by rw [m3]; exact k4 hf⟩) (fun e => ?_)
              subst e
              rw [m2, k1]
              have : ys = [] := by
                apply List.length_eq_zero_iff.1
                have : n = 0 := by simp at hle2; omega
                omega
              subst this
              simp
            refine ⟨_, _, x.keys ++ y.keys ++ τ.ks d ++ oKeys ds, τ.ks d, m, .int .i64 (ys.length : Int), [.o (m d) ⟨st, some ⟨t.width, (l.map t.enc).take lo ++ ys.map t.enc ++ (l.map t.enc).drop (lo + (ys.map t.enc).length), false, c⟩⟩], ?_, rfl, ?_, rr, RT.int _ _, hk'⟩
            · simp only [ROp.sem]
              refine Does.bind (Does.opnd x fun z hz => by simp [hz]) (Does.bind (Does.opnd y fun z hz => by simp [hz]) (Does.bind (elems_ok h (h.val y) ey fun s hs => List.mem_append_right _ (oKeys_o hs)) ?_))
              rw [ha']
              refine Does.bind (Does.theObj (List.mem_append_left _ (List.mem_append_right _ (h.key_o ho))) k1) (Does.bind (Does.frz (List.mem_append_left _ (List.mem_append_right _ (h.key_f ho)))) ?_)
              rw [k4 rfl]
              have hc2 : lo + n ≤ l.length ∧ ys.length ≤ n := ⟨hle2, hyn⟩
              simp only [beq_self_eq_true, Bool.not_false, Bool.and_self, List.length_map, decide_eq_true hc2, if_true]
              exact Does.ret _
            · intro u hu
              simp only [List.mem_singleton] at hu
              subst hu
              exact h.key_o ho
          · cases hm
        · cases hd
      · cases hd
    · cases hd
  · cases hd

/-! ### Lists written out -/
theorem valR_cells (h : Rel m τ σ) {f : Nat} {K : List Key} {v : TV} {a : AV} {ag : Bool} {cs xs : List TC} {rd : List Slot} (hv : RT τ σ m v a) (hc : v.cells = some (ag, cs)) (hs : valsC τ cs = some (xs, rd)) (hx : xs.all TC.byv = true) (hk : ∀ s ∈ rd, Key.o s ∈ K) :
    ∃ b bs q, Does (valR (f + 2) a) σ (b, q) K ∧ b.cells = bs ∧ RCs τ σ m xs bs ∧ (∀ s ∈ q, s ∈ rd) ∧ bs.length = widths cs ∧ (if ag then b = .agg bs else b.plain = true) := by
  cases v with
  | c x =>
    simp only [TV.cells, Option.some.injEq, Prod.mk.injEq] at hc
    obtain ⟨rfl, rfl⟩ := hc
    have hv' : RC τ σ m x [a] := hv
    obtain ⟨bs, q, g1, g2, g3, g4⟩ := vals_ok h (f := f + 1) (RCs.single.2 hv') hs hx hk
    have g1' := g1.1
    simp only [mapV, R.run_bind] at g1'
    cases ha : (valR (f + 2) a).run σ with
    | none => simp [ha] at g1'
    | some p =>
      simp only [ha, Option.bind_some, R.run_ret, Option.some.injEq, Prod.mk.injEq] at g1'
      obtain ⟨rfl, rfl⟩ := g1'
      have hplain : p.1.plain = true := by
        -- by value it is one cell that is known
        have hsol : xs.all TC.solid = true := by
          rw [List.all_eq_true] at hx ⊢
          intro c hc
          have := hx c hc
          cases c <;> first | rfl | cases this
        exact AV.one_plain (g2.one hsol p.1 (by simp))
      refine ⟨p.1, [p.1], p.2, ⟨ha, fun z hz => g1.2 z ?_⟩, AV.plain_cells hplain, g2, fun s hs' => g3 s (by simpa using hs'), by rw [g4, hv'.length]; simp [widths], by simpa using hplain⟩
      simp only [mapV]
      rw [R.foot_bind]
      exact List.mem_append_left _ hz
  | agg cs' =>
    simp only [TV.cells, Option.some.injEq, Prod.mk.injEq] at hc
    obtain ⟨rfl, rfl⟩ := hc
    obtain ⟨as, rfl, hv⟩ := hv
    obtain ⟨bs, q, g1, g2, g3, g4⟩ := vals_ok h (f := f) hv hs hx hk
    refine ⟨.agg bs, bs, q, ?_, rfl, g2, g3, by rw [g4, hv.length], rfl⟩
    simp only [valR]
    exact Does.bind g1 (Does.ret _)
  | fn => cases hc
  | tup => cases hc

/-- .. and where nil lists are made empty ones. -/
theorem nz_enc {t : Ty} {y : t.D} {b : AV} {bs : List AV} {ag : Bool} (hb : b.cells = bs) (hag : if ag then b = .agg bs else b.plain = true) (hg : ag = !t.one) (hn : nzL t.shape bs = t.cells y) (hl : bs.length = t.width) : nz t.shape b = t.enc y := by
  subst hg
  cases ho : t.one with
  | false =>
    simp only [ho, Bool.not_false, if_true] at hag
    subst hag
    simp only [nz, hn, Ty.enc, enc1, ho, Bool.false_eq_true, if_false]
  | true =>
    simp only [ho, Bool.not_true, Bool.false_eq_true, if_false] at hag
    rw [AV.plain_cells hag] at hb
    subst hb
    have hw : t.shape.length = 1 := by rw [Ty.len_shape, ← hl]; rfl
    obtain ⟨s, hs⟩ := List.length_eq_one_iff.1 hw
    rw [hs] at hn ⊢
    simp only [nzL] at hn
    simp only [Ty.enc, enc1, ho, if_true, ← hn, List.headD_cons]
    cases b <;> first | rfl | cases hag

theorem buildSlGo_ok (h : Rel m τ σ) {sl : Slot} {t : Ty} {ln : Nat} {sh : Shape} (hsh : sh = t.shape) : ∀ {parts : List (Nat × Opnd)} {l : List t.D} {ks : List Key} {rd : List Slot}, l.length = ln → (buildSlGo τ sl t ln k parts l ks rd).den = some r →
    ∃ l' kr rd', l'.length = ln ∧ ¬ rd'.contains sl = true ∧ (∀ z ∈ ks, z ∈ kr) ∧ (∀ s ∈ rd, s ∈ rd') ∧ (∀ s ∈ rd', Key.o s ∈ kr) ∧ Key.o sl ∈ kr ∧
      (k (.c (.own sl none false)) ((τ.mkO sl (.sl t l' (some ln) false false)).freeze rd') kr (oKeys [sl] ++ rd'.map Key.f)).den = some r ∧
      ∃ ps, Does (mapR (fun (p : Nat × Opnd) => p.2.get.bind fun a => (valR depth a).bind fun q => R.ret (p.1, nz sh q.1, q.2)) parts) σ ps kr ∧
        (ps.all fun p => decide (p.1 < ln) && p.2.1.cells.length == t.width && p.2.1.cells.all AV.one) = true ∧
        (∀ xs : List AV, xs = l.map t.enc → ps.foldl (fun xs p => xs.set p.1 p.2.1) xs = l'.map t.enc) ∧ ∀ s ∈ ps.flatMap (·.2.2), s ∈ rd'
  | [], l, ks, rd, hl, hd => by
    simp only [buildSlGo, Tree.den] at hd
    split at hd
    · cases hd
    · rename_i hc
      exact ⟨l, _, rd, hl, hc, fun z hz => List.mem_append_left _ (List.mem_append_left _ hz), fun _ h => h, fun s hs => List.mem_append_left _ (List.mem_append_right _ (oKeys_o hs)), List.mem_append_right _ (oKeys_o (by simp)), hd, [], Does.ret _, rfl, fun xs e => e, by simp⟩
  | (i, x) :: ps, l, ks, rd, hl, hd => by
    simp only [buildSlGo] at hd
    split at hd
    · rename_i ag c hx
      split at hd
      · rename_i c1 rd1 hv
        split at hd
        · rename_i y hy
          split at hd
          · rename_i hc
            obtain ⟨hi, hag, hbv⟩ := hc
            obtain ⟨l', kr, rd', g1, g2, g3, g4, g5, g6, g7, qs, g8, g9, g10, g11⟩ := buildSlGo_ok h hsh (l := l.set i y) (by simpa using hl) hd
            obtain ⟨b, bs, q, v1, v2, v3, v4, v5, v6⟩ := valR_cells h (f := 4) (K := kr) (h.val x) hx hv hbv (fun s hs => g5 s (g4 s (List.mem_append_right _ hs)))
            obtain ⟨o1, o2, _⟩ := Ty.of_ok hy v3 (.inl hbv)
            have henc : nz sh b = t.enc y := by rw [hsh]; exact nz_enc v2 v6 hag o2 o1
            refine ⟨l', kr, rd', g1, g2, fun z hz => g3 z (List.mem_append_left _ hz), fun s hs => g4 s (List.mem_append_left _ hs), g5, g6, g7, (i, nz sh b, q) :: qs, ?_, ?_, ?_, ?_⟩
            · simp only [mapR]
              exact Does.bind (Does.bind (Does.opnd x fun z hz => g3 z (List.mem_append_right _ hz)) (Does.bind v1 (Does.ret _))) (Does.bind g8 (Does.ret _))
            · simp only [List.all_cons, g9, Bool.and_true, Bool.and_eq_true, decide_eq_true_eq, beq_iff_eq]
              rw [henc, Ty.enc_cells]
              refine ⟨⟨hi, Ty.len_cells _ _⟩, ?_⟩
              rw [List.all_eq_true]
              exact fun a ha => AV.leaf_one (Ty.cells_leaf t _ a ha)
            · intro xs e
              simp only [List.foldl_cons]
              refine g10 _ ?_
              rw [e, henc, List.map_set]
            · intro s hs
              simp only [List.flatMap_cons, List.mem_append] at hs
              rcases hs with hs | hs
              · exact g4 s (List.mem_append_right _ (v4 s hs))
              · exact g11 s hs
          · cases hd
        · cases hd
      · cases hd
    · cases hd

theorem op_buildSl (E : TEnv) (h : Rel m τ σ) {e : Nat} {zero : AV} {sh : Shape} {ln : Nat} {parts : List (Nat × Opnd)} (hd : (opT E dst τ k (.buildSl e zero sh ln parts)).den = some r) : StepR orc (.buildSl e zero sh ln parts) dst σ k r := by
  simp only [opT] at hd
  generalize E.ty (dst.getD 0) = t at hd
  split at hd
  · rename_i hc
    obtain ⟨rfl, hsh, hz⟩ := hc
    have hzero := zeroIs_ok hz
    obtain ⟨l', kr, rd', g1, g2, _, _, g5, g6, g7, ps, g8, g9, g10, g11⟩ := buildSlGo_ok h hsh (l := List.replicate ln t.dflt) (by simp) hd
    refine StepR.sl h (t := t) (l := l') (cap := some ln) (fz := false) (c := ln) (z := false) (fr := ps.flatMap (·.2.2)) (rd := rd') (cons := []) (w := none) (mn := false) (av := .sref (slot dst) ((σ.getO (slot dst)).st + 1) 0 l'.length) h rfl (by simp) g11 (fun hs => contains_false g2 (g11 _ hs)) (by omega) (by simp) (by simp) rfl (by simp) (kr := kr) (kw := oKeys [slot dst] ++ rd'.map Key.f) ?_ (by simp) (fun u hu => List.mem_append_left _ hu) (fun s hs => List.mem_append_right _ (List.mem_map_of_mem (g11 s hs))) g7
    simp only [ROp.sem]
    refine Does.bind g8 ?_
    have c1 : zero.cells.length = t.width := by rw [hzero, Ty.enc_cells, Ty.len_cells]
    have c2 : zero.cells.all AV.one = true := by
      rw [hzero, Ty.enc_cells, List.all_eq_true]
      exact fun a ha => AV.leaf_one (Ty.cells_leaf t _ a ha)
    rw [if_pos (by simp only [g9, c1, c2, beq_self_eq_true, Bool.and_self])]
    have e1 : ps.foldl (fun xs p => xs.set p.1 p.2.1) (List.replicate ln zero) = l'.map t.enc := g10 _ (by rw [hzero]; simp)
    rw [e1, g1]
    exact Does.mk g6
  · cases hd
end
end Go.Vm
/- Stores; arrays as lists. -/
namespace Go.Vm

section
variable {ρ : Type} {τ : TState} {σ : State} {m : Nat → Slot} {orc : Oracle} {dst : Option Nat} {k : KT ρ} {r : ρ}

/-- What a store to a variable does. -/
theorem store_does (h : Rel m τ σ) {d off n i : Nat} {sh : Shape} {x v : Opnd} {K : List Key} {st e c : Nat} {y : AV} (hx : x.val σ = .ref (m d) st 0 off) (ho : σ.getO (m d) = ⟨st, some ⟨e, [y], true, c⟩⟩) (hf : σ.getF (m d) = false)
    (hk1 : ∀ z ∈ x.keys, z ∈ K) (hk2 : ∀ z ∈ v.keys, z ∈ K) (hko : Key.o (m d) ∈ K) (hkf : Key.f (m d) ∈ K) (hn : (v.val σ).cells.length = n) (hle : off + n ≤ y.cells.length) (hone : (v.val σ).cells.all AV.one = true) :
    Does ((ROp.store n sh x v).sem orc dst) σ (.any, [.o (m d) ⟨st, some ⟨e, [y.upd off (v.val σ).cells], true, c⟩⟩]) K := by
  simp only [ROp.sem]
  refine Does.bind (Does.opnd x hk1) (Does.bind (Does.opnd v hk2) ?_)
  rw [hx]
  refine Does.bind (Does.theObj hko ho) (Does.bind (Does.frz hkf) ?_)
  simp only [List.getElem?_cons_zero, hf, Bool.not_false, hn, beq_self_eq_true, decide_eq_true hle, hone, Bool.and_self, if_true, List.set_cons_zero]
  exact Does.ret _

theorem storeVar_ok (h : Rel m τ σ) {d off n : Nat} {cs : List TC} {sh : Shape} {x v : Opnd} {kr : List Key} (hx : x.val σ = .ref (m d) (σ.getO (m d)).st 0 off) (hcs : RCs τ σ m cs (v.val σ).cells) (hs : cs.all TC.solid = true)
    (hk1 : ∀ z ∈ x.keys, z ∈ kr) (hk2 : ∀ z ∈ v.keys, z ∈ kr) (hd : (storeVar τ d off n cs kr k).den = some r) : StepR orc (.store n sh x v) dst σ k r := by
  have hone := hcs.one hs
  have hall : (v.val σ).cells.all AV.one = true := by rw [List.all_eq_true]; exact hone
  have keyk : ∀ {o : TO}, τ.getO d = some o → ∀ u ∈ [W.o (m d) ⟨(σ.getO (m d)).st, none⟩], u.key ∈ τ.ks d := fun ho u hu => by
    simp only [List.mem_singleton] at hu
    subst hu
    exact h.key_o ho
  unfold storeVar at hd
  split at hd
  · rename_i old s1 ho
    split at hd
    · rename_i new hp
      obtain ⟨st, e, c, y, h1, h2, h3, h4⟩ := h.obj_var ho
      obtain ⟨as, hy, h2'⟩ := (h2 : ∃ as, y = .agg as ∧ RCs τ σ m old as)
      subst hy
      obtain ⟨p1, p2, p3⟩ := h2'.putW hcs hp
      rw [h1] at hx
      have hupd : (AV.agg as).upd off (v.val σ).cells = .agg (as.take off ++ (v.val σ).cells ++ as.drop (off + n)) := by
        show AV.agg (repl as off (v.val σ).cells) = _
        rw [repl_eq _ _ _ (by rw [p3]; exact p2), p3]
      obtain ⟨m1, m2, m3⟩ := w_state σ (m d) st ⟨e, [(AV.agg as).upd off (v.val σ).cells], true, c⟩
      have rr : Rel m (τ.upd d (.var true new false s1)) ((W.o (m d) ⟨st, some ⟨e, [(AV.agg as).upd off (v.val σ).cells], true, c⟩⟩).apply σ) :=
        h.updVar ho m1 (x := (AV.agg as).upd off (v.val σ).cells) (by rw [h1]) (by rw [hupd]; exact ⟨_, rfl, p1⟩) (fun hg => by cases hg) m2 (by rw [m3]; exact h4 rfl)
      refine ⟨_, _, kr ++ τ.ks d, τ.ks d, m, .any, _, store_does h (i := 0) hx h1 (h4 rfl) (fun z hz => List.mem_append_left _ (hk1 z hz)) (fun z hz => List.mem_append_left _ (hk2 z hz)) (List.mem_append_right _ (h.key_o ho)) (List.mem_append_right _ (h.key_f ho)) p3 p2 hall, rfl, ?_, rr, (by exact rfl), hd⟩
      intro u hu
      simp only [List.mem_singleton] at hu
      subst hu
      exact h.key_o ho
    · cases hd
  · rename_i old s1 ho
    split at hd
    · rename_i c0
      split at hd
      · rename_i hc
        obtain ⟨rfl, rfl, hw⟩ := hc
        obtain ⟨st, e, c, y, h1, h2, h3, h4⟩ := h.obj_var ho
        have hyp := h3 rfl
        rw [h1] at hx
        have hl : (v.val σ).cells.length = 1 := by rw [hcs.length]; simp [widths, hw]
        obtain ⟨b, hb⟩ := List.length_eq_one_iff.1 hl
        have hbp : b.plain = true := AV.one_plain (hone b (by rw [hb]; simp))
        have hupd : y.upd 0 (v.val σ).cells = b := by
          rw [hb]
          cases y <;> first | rfl | cases hyp
        obtain ⟨m1, m2, m3⟩ := w_state σ (m d) st ⟨e, [y.upd 0 (v.val σ).cells], true, c⟩
        have rr : Rel m (τ.upd d (.var false [c0] false s1)) ((W.o (m d) ⟨st, some ⟨e, [y.upd 0 (v.val σ).cells], true, c⟩⟩).apply σ) := by
          refine h.updVar ho m1 (x := y.upd 0 (v.val σ).cells) (by rw [h1]) ?_ (fun hg => by rw [hupd]; exact hbp) m2 (by rw [m3]; exact h4 rfl)
          rw [hupd]
          refine ⟨⟨c0, rfl⟩, ?_⟩
          rw [← hb]; exact hcs
        refine ⟨_, _, kr ++ τ.ks d, τ.ks d, m, .any, _, store_does h (i := 0) hx h1 (h4 rfl) (fun z hz => List.mem_append_left _ (hk1 z hz)) (fun z hz => List.mem_append_left _ (hk2 z hz)) (List.mem_append_right _ (h.key_o ho)) (List.mem_append_right _ (h.key_f ho)) hl (by rw [AV.plain_cells hyp]; simp) hall, rfl, ?_, rr, (by exact rfl), hd⟩
        intro u hu
        simp only [List.mem_singleton] at hu
        subst hu
        exact h.key_o ho
      · cases hd
    · cases hd
  · cases hd

theorem nzL_split {s : Shape} {as bs : List AV} {off n : Nat} (hl : s.length = as.length) (hn : bs.length = n) (hle : off + n ≤ as.length) (hnz : nzL s as = as) :
    nzL s (as.take off ++ bs ++ as.drop (off + n)) = as.take off ++ nzL ((s.drop off).take n) bs ++ as.drop (off + n) := by
  have e : s = s.take off ++ ((s.drop off).take n ++ s.drop (off + n)) := by
    rw [← List.drop_drop, List.take_append_drop, List.take_append_drop]
  have l1 : (s.take off).length = (as.take off).length := by simp; omega
  have l2 : ((s.drop off).take n).length = bs.length := by simp; omega
  have h1 : nzL (s.take off) (as.take off) = as.take off ∧ nzL (s.drop (off + n)) (as.drop (off + n)) = as.drop (off + n) := by
    have l3 : ((s.drop off).take n).length = ((as.drop off).take n).length := by simp; omega
    have e2 : as = as.take off ++ ((as.drop off).take n ++ as.drop (off + n)) := by
      rw [← List.drop_drop, List.take_append_drop, List.take_append_drop]
    rw [e] at hnz
    conv at hnz => lhs; rw [e2]
    conv at hnz => rhs; rw [e2]
    rw [nzL_append l1, nzL_append l3] at hnz
    have g1 := List.append_inj_left hnz (by rw [nzL_length])
    have g2 := List.append_inj_right hnz (by rw [nzL_length])
    exact ⟨g1, List.append_inj_right g2 (by rw [nzL_length])⟩
  conv => lhs; rw [e]
  rw [List.append_assoc, nzL_append l1, nzL_append l2, h1.1, h1.2, List.append_assoc]

theorem enc_upd {t : Ty} {z y : t.D} {off n : Nat} {vs : List AV} (hn : vs.length = n) (hle : off + n ≤ t.width) (he : (t.cells z).take off ++ vs ++ (t.cells z).drop (off + n) = t.cells y) (hv : t.one = true → n = 1 ∧ ∀ v ∈ vs, v.plain = true) : (t.enc z).upd off vs = t.enc y := by
  unfold Ty.enc enc1
  cases ho : t.one with
  | false =>
    simp only [Bool.false_eq_true, if_false]
    show AV.agg (repl (t.cells z) off vs) = _
    rw [repl_eq _ _ _ (by rw [hn, Ty.len_cells]; exact hle), hn, he]
  | true =>
    obtain ⟨a, ha, hleaf⟩ := Ty.one_cells ho z
    obtain ⟨rfl, hp⟩ := hv ho
    obtain ⟨v, rfl⟩ := List.length_eq_one_iff.1 hn
    have hw : t.width = 1 := by have := Ty.len_cells t z; rw [ha] at this; exact this.symm
    have h0 : off = 0 := by omega
    subst h0
    rw [ha] at he ⊢
    simp only [List.take_zero, List.nil_append, Nat.zero_add, List.drop_one, List.tail_cons, List.append_nil] at he
    simp only [if_true, ← he, List.headD_cons]
    cases a <;> first | rfl | cases hleaf

theorem op_store (E : TEnv) (h : Rel m τ σ) {n : Nat} {sh : Shape} {x v : Opnd} (hd : (opT E dst τ k (.store n sh x v)).den = some r) : StepR orc (.store n sh x v) dst σ k r := by
  have hx := h.val x
  simp only [opT] at hd
  split at hd
  · -- a variable
    rename_i d off ag cs ex ev
    rw [ex] at hx
    obtain ⟨_, hx⟩ := hx
    have hx' : x.val σ = .ref (m d) (σ.getO (m d)).st 0 off := by simpa using hx
    split at hd
    · rename_i hs
      rw [cellsNamed_den] at hd
      exact storeVar_ok h hx' (cells_ok (h.val v) ev (.inl hs)).1 hs (fun z hz => List.mem_append_left _ hz) (fun z hz => List.mem_append_right _ hz) hd
    · cases hd
  · -- an element of an array
    rename_i d off mm e j off2 ag cs ex ev
    rw [ex] at hx
    obtain ⟨_, hj0, hj1, hx⟩ := hx
    have hx' : x.val σ = .ref (m d) (σ.getO (m d)).st 0 (off + j.toNat * e.width + off2) := by simpa using hx
    split at hd
    · rename_i old s1 ho
      split at hd
      · rename_i m' e' l tl hdr
        split at hd
        · rename_i hc
          obtain ⟨rfl, rfl, hfl, hs⟩ := hc
          split at hd
          · rename_i new hp
            split at hd
            · rename_i y hy
              simp only [Tree.den] at hd
              split at hd
              · rename_i cs' hp2
                obtain ⟨st, ee, c, u, h1, h2, h3, h4⟩ := h.obj_var ho
                obtain ⟨as, hu, h2'⟩ := (h2 : ∃ as, u = .agg as ∧ RCs τ σ m old as)
                subst hu
                have hcs := (cells_ok (h.val v) ev (.inl hs)).1
                have hone := hcs.one hs
                have hall : (v.val σ).cells.all AV.one = true := by rw [List.all_eq_true]; exact hone
                have hjn : j.toNat < m' := by omega
                obtain ⟨q1, q2⟩ := h2'.dropW hdr
                obtain ⟨pa, pb, e1, e2, e3⟩ := q1
                have e2' : pa = (Ty.arr m' e').cells l := e2
                obtain ⟨r1, r2, r3⟩ := (tcs_cells (τ := τ) (σ := σ) (m := m) e' (arrRd e'.dflt l j)).putW hcs hp
                obtain ⟨_, _, y3⟩ := Ty.of_ok hy r1 (.inr hfl)
                have hycells := y3 hfl
                have hnew : RCs τ σ m [.v (.arr m' e') (arrWr l j y)] ((Ty.arr m' e').cells (arrWr l j y)) := RCs.single.2 rfl
                obtain ⟨t1, t2, t3⟩ := h2'.putW hnew hp2
                have hwl : ((Ty.arr m' e').cells l).length = m' * e'.width := Ty.len_cells _ _
                have hw : off + m' * e'.width ≤ as.length := t2
                rw [Ty.len_cells] at r2
                -- the cells of the array with one element changed
                have hcells : (Ty.arr m' e').cells (arrWr l j y) = ((Ty.arr m' e').cells l).take (j.toNat * e'.width + off2) ++ (v.val σ).cells ++ ((Ty.arr m' e').cells l).drop (j.toNat * e'.width + off2 + n) := by
                  have := arrWr_flatten l j.toNat hjn y
                  show (((arrWr l j y).1.map fun x => e'.cells x).flatten) = _
                  rw [show (arrWr l j y).1 = l.1.set j.toNat y from rfl]
                  have hl' : l.1.length = m' := l.2
                  rw [this, ← hycells]
                  have hel : e'.cells (arrRd e'.dflt l j) = (((Ty.arr m' e').cells l).drop (j.toNat * e'.width)).take e'.width := by
                    rw [arrRd_flatten l _ hjn, List.take_append_of_le_length (by rw [Ty.len_cells]; exact Nat.le_refl _), List.take_of_length_le (by rw [Ty.len_cells]; exact Nat.le_refl _)]; rfl
                  rw [hel]
                  apply cut3 _ _ _ _ r3 r2
                  rw [hwl]; exact Nat.le_trans (by rw [← Nat.succ_mul]; exact Nat.le_refl _) (Nat.mul_le_mul_right _ hjn)
                have hupd : (AV.agg as).upd (off + j.toNat * e'.width + off2) (v.val σ).cells = .agg (as.take off ++ (Ty.arr m' e').cells (arrWr l j y) ++ as.drop (off + m' * e'.width)) := by
                  have hb : off + j.toNat * e'.width + off2 + n ≤ as.length := by
                    have : j.toNat * e'.width + e'.width ≤ m' * e'.width := by rw [← Nat.succ_mul]; exact Nat.mul_le_mul_right _ hjn
                    omega
                  show AV.agg (repl as _ (v.val σ).cells) = _
                  rw [repl_eq _ _ _ (by rw [r3]; exact hb), r3, hcells]
                  congr 1
                  have has : as = as.take off ++ ((Ty.arr m' e').cells l ++ as.drop (off + m' * e'.width)) := by
                    conv => lhs; rw [← List.take_append_drop off as]
                    congr 1
                    rw [e1, e2', ← List.drop_drop, e1, e2', ← hwl, List.drop_left]
                  have hoff : off ≤ as.length := by omega
                  have := cut4 (vs := (v.val σ).cells) (p := j.toNat * e'.width + off2) (n := n) (off := off) has (by simp; omega) (by rw [hwl]; have : j.toNat * e'.width + e'.width ≤ m' * e'.width := by { rw [← Nat.succ_mul]; exact Nat.mul_le_mul_right _ hjn }; omega)
                  rw [← Nat.add_assoc] at this
                  exact this
                obtain ⟨m1, m2, m3⟩ := w_state σ (m d) st ⟨ee, [(AV.agg as).upd (off + j.toNat * e'.width + off2) (v.val σ).cells], true, c⟩
                rw [h1] at hx'
                have rr : Rel m (τ.upd d (.var true cs' false s1)) ((W.o (m d) ⟨st, some ⟨ee, [(AV.agg as).upd (off + j.toNat * e'.width + off2) (v.val σ).cells], true, c⟩⟩).apply σ) :=
                  h.updVar ho m1 (x := (AV.agg as).upd (off + j.toNat * e'.width + off2) (v.val σ).cells) (by rw [h1]) (by rw [hupd]; exact ⟨_, rfl, t1⟩) (fun hg => by cases hg) m2 (by rw [m3]; exact h4 rfl)
                refine ⟨_, _, x.keys ++ v.keys ++ τ.ks d, τ.ks d, m, .any, _, store_does h (i := 0) hx' h1 (h4 rfl) (fun z hz => by simp [hz]) (fun z hz => by simp [hz]) (List.mem_append_right _ (h.key_o ho)) (List.mem_append_right _ (h.key_f ho)) r3 ?_ hall, rfl, ?_, rr, (by exact rfl), hd⟩
                · have : j.toNat * e'.width + e'.width ≤ m' * e'.width := by rw [← Nat.succ_mul]; exact Nat.mul_le_mul_right _ hjn
                  show off + j.toNat * e'.width + off2 + n ≤ as.length
                  omega
                · intro u hu
                  simp only [List.mem_singleton] at hu
                  subst hu
                  exact h.key_o ho
              · cases hd
            · cases hd
          · cases hd
        · cases hd
      · cases hd
    · cases hd
  · -- an element of a list
    rename_i d i off ag cs ex ev
    rw [ex] at hx
    obtain ⟨e1, l1, cap1, fz1, s11, ho1, hi, hx⟩ := hx
    have hx' : x.val σ = .ref (m d) (σ.getO (m d)).st i off := by simpa using hx
    split at hd
    · rename_i e l cap s1 ho
      rw [ho] at ho1
      simp only [Option.some.injEq, TO.sl.injEq] at ho1
      obtain ⟨rfl, hl, rfl, rfl, rfl⟩ := ho1
      cases hl
      split at hd
      · rename_i c1 rd hv
        split at hd
        · rename_i new hp
          split at hd
          · rename_i y hy
            split at hd
            · cases hd
            · rename_i hc
              simp only [not_or, Bool.not_eq_true, Bool.not_eq_false, Decidable.not_not] at hc
              obtain ⟨hm, hsh, hs, hb, hn0⟩ := hc
              simp only [Tree.den] at hd
              obtain ⟨⟨st, c, h1, h2, h3⟩, h4⟩ := h.obj_sl ho (by intro e; rw [e] at hi; simp at hi)
              have hd0 : τ.getO d ≠ none := by rw [ho]; simp
              have hcs := (cells_ok (h.val v) ev (.inl hs)).1
              have hone := hcs.one hs
              have hall : (v.val σ).cells.all AV.one = true := by rw [List.all_eq_true]; exact hone
              obtain ⟨b, bs, q, v1, v2, v3, v4, v5, v6⟩ := valR_cells h (f := 4) (K := x.keys ++ v.keys ++ τ.ks d ++ oKeys rd) (h.val v) ev hv hb (fun s hs' => List.mem_append_right _ (oKeys_o hs'))
              obtain ⟨r1, r2, r3⟩ := (tcs_cells (τ := τ) (σ := σ) (m := m) e (l.getD i e.dflt)).putW v3 hp
              rw [Ty.len_cells] at r2
              have hnewb : new.all TC.byv = true := putW_byv hp hb (tcs_byv e _)
              obtain ⟨y1, y2, _⟩ := Ty.of_ok hy r1 (.inl hnewb)
              rw [nzL_split (by rw [Ty.len_shape, Ty.len_cells]) r3 (by rw [Ty.len_cells]; exact r2) (Ty.take_ok.nz_cells e _), ← hsh] at y2
              -- the value, with empty lists for nil
              have hnzc : (nz sh b).cells = nzL sh bs ∧ (b.plain = true → (nz sh b).plain = true) := by
                cases ag with
                | true =>
                  simp only [if_true] at v6
                  subst v6
                  exact ⟨rfl, fun h => by cases h⟩
                | false =>
                  simp only [Bool.false_eq_true, if_false] at v6
                  rw [AV.plain_cells v6] at v2
                  subst v2
                  have hshl : sh.length = 1 := by rw [hsh]; simp [Ty.len_shape]; simp at r3; omega
                  obtain ⟨s0, hs0⟩ := List.length_eq_one_iff.1 hshl
                  rw [hs0]
                  have : nz [s0] b = nz1 s0 b := by cases b <;> first | rfl | cases v6
                  rw [this]
                  have hp1 : (nz1 s0 b).plain = true := by cases s0 <;> cases b <;> first | rfl | cases v6
                  exact ⟨by rw [AV.plain_cells hp1]; rfl, fun _ => hp1⟩
              have hlen : (v.val σ).cells.length = n := by rw [hcs.length, ← v5]; exact r3
              have hnl : (nzL sh bs).length = n := by rw [nzL_length]; exact r3
              have hy2 : (e.cells (l.getD i e.dflt)).take off ++ nzL sh bs ++ (e.cells (l.getD i e.dflt)).drop (off + n) = e.cells y := y2
              have hnone : ∀ a ∈ nzL sh bs, a.leaf = true := by
                intro a ha
                refine Ty.cells_leaf e y a ?_
                rw [← hy2]
                simp [ha]
              have henc : (e.enc (l.getD i e.dflt)).upd off (nz sh b).cells = e.enc y := by
                rw [hnzc.1]
                refine enc_upd hnl r2 hy2 (fun ho1 => ⟨?_, fun a ha => AV.leaf_plain (hnone a ha)⟩)
                have hw1 : e.width = 1 := by
                  obtain ⟨a, ha, _⟩ := Ty.one_cells ho1 y
                  have := Ty.len_cells e y
                  rw [ha] at this; exact this.symm
                omega
              have hget : (l.map e.enc)[i]? = some (e.enc (l.getD i e.dflt)) := by simp [List.getD_eq_getElem?_getD, hi]
              have hset : (l.map e.enc).set i ((e.enc (l.getD i e.dflt)).upd off (nz sh b).cells) = (l.set i y).map e.enc := by rw [henc, List.map_set]
              rw [h1] at hx'
              have hnd : m d ∉ q := by
                intro hq
                have := meets_false.1 hm (m d) (v4 _ hq)
                exact this (h.at_ d hd0)
              obtain ⟨m1, m2, m3⟩ := w_state σ (m d) st ⟨e.width, (l.set i y).map e.enc, false, c⟩
              have rr : Rel m (τ.upd d (.sl e (l.set i y) cap false s1)) ((W.o (m d) ⟨st, some ⟨e.width, (l.set i y).map e.enc, false, c⟩⟩).apply σ) := by
                refine h.updSl ho (by simp) m1 (by rw [m2, h1]) (fun _ => ⟨⟨st, c, m2, by simpa using h2, h3⟩, fun hf => by rw [m3]; exact h4 hf⟩) (fun e0 => ?_)
                rw [e0] at hi; simp at hi
              have rr2 := rr.setFs v4
              have hlike : (((W.o (m d) ⟨st, some ⟨e.width, (l.set i y).map e.enc, false, c⟩⟩).apply σ).applyAll (setFs q)).Like (σ.applyAll (setFs q ++ [.o (m d) ⟨st, some ⟨e.width, (l.set i y).map e.enc, false, c⟩⟩])) := by
                rw [applyAll_append]
                refine ⟨by rw [len_applyAll, len_applyAll, len_applyAll, len_apply], fun n' => ?_, fun d' => ?_, fun d' => ?_⟩
                · rw [frzL_T]
                  show ((W.o _ _).apply _).getT n' = _
                  rw [getT_o, getT_o, frzL_T]
                · rw [frzL_O]
                  show ((W.o _ _).apply _).getO d' = _
                  rw [getO_o, getO_o, frzL_O]
                · rw [Vm.setFs_F]
                  show ((W.o _ _).apply _).getF d' = _
                  rw [getF_o, getF_o, Vm.setFs_F]
              refine ⟨_, _, x.keys ++ v.keys ++ τ.ks d ++ oKeys rd, τ.ks d ++ rd.map Key.f, m, .any, _, ?_, ?_, ?_, rr2.like hlike, (by exact rfl), hd⟩
              · simp only [ROp.sem]
                refine Does.bind (Does.opnd x fun z hz => by simp [hz]) (Does.bind (Does.opnd v fun z hz => by simp [hz]) ?_)
                rw [hx']
                refine Does.bind (Does.theObj (List.mem_append_left _ (List.mem_append_right _ (h.key_o ho))) h1) (Does.bind (Does.frz (List.mem_append_left _ (List.mem_append_right _ (h.key_f ho)))) ?_)
                have hle : off + n ≤ (e.enc (l.getD i e.dflt)).cells.length := by rw [Ty.enc_cells, Ty.len_cells]; exact r2
                simp only [hget, h4 rfl, Bool.not_false, hlen, beq_self_eq_true, decide_eq_true hle, hall, Bool.and_self, if_true, Bool.false_eq_true, if_false]
                refine Does.bind v1 ?_
                have hcond : (q.contains (m d) || !(nz sh b).cells.all AV.one || (nz sh b).cells.length != n) = false := by
                  have : (nz sh b).cells.all AV.one = true := by
                    rw [hnzc.1, List.all_eq_true]
                    exact fun a ha => AV.leaf_one (hnone a ha)
                  rw [this, hnzc.1, hnl]
                  simp [hnd]
                rw [hcond]
                simp only [Bool.false_eq_true, if_false]
                rw [hset]
                exact Does.ret _
              · simp only [List.all_append, frzL_noT, Bool.true_and]; rfl
              · intro u hu
                simp only [List.mem_append, setFs, List.mem_map, List.mem_singleton] at hu
                rcases hu with ⟨s, hs', rfl⟩ | rfl
                · exact List.mem_append_right _ (List.mem_map_of_mem (v4 s hs'))
                · exact List.mem_append_left _ (h.key_o ho)
          · cases hd
        · cases hd
      · cases hd
    · cases hd
  · cases hd
  where
  arrWr_flatten {n : Nat} {e : Ty} (l : { l : List e.D // l.length = n }) (j : Nat) (hj : j < n) (y : e.D) : (((l.1.set j y).map fun x => e.cells x).flatten) = ((Ty.arr n e).cells l).take (j * e.width) ++ e.cells y ++ ((Ty.arr n e).cells l).drop (j * e.width + e.width) := by
    obtain ⟨l, rfl⟩ := l
    simp only [Ty.cells]
    induction l generalizing j with
    | nil => simp at hj
    | cons a l ih =>
      cases j with
      | zero =>
        simp only [List.set_cons_zero, List.map_cons, List.flatten_cons, Nat.zero_mul, List.take_zero, List.nil_append, Nat.zero_add]
        rw [← e.len_cells a, List.drop_left]
      | succ j =>
        simp only [List.set_cons_succ, List.map_cons, List.flatten_cons]
        rw [ih j (by simpa using hj)]
        have hw : (j + 1) * e.width = (e.cells a).length + j * e.width := by rw [e.len_cells, Nat.succ_mul, Nat.add_comm]
        rw [hw, List.take_length_add_append, Nat.add_assoc, List.drop_length_add_append]
        simp [List.append_assoc]
  cut3 (C vs : List AV) (p w : Nat) {off2 n : Nat} (hv : vs.length = n) (hle : off2 + n ≤ w) (hw : p + w ≤ C.length) :
      C.take p ++ (((C.drop p).take w).take off2 ++ vs ++ ((C.drop p).take w).drop (off2 + n)) ++ C.drop (p + w) = C.take (p + off2) ++ vs ++ C.drop (p + off2 + n) := by
    have e1 : ((C.drop p).take w).take off2 = (C.drop p).take off2 := by rw [List.take_take]; congr 1; omega
    have e2 : ((C.drop p).take w).drop (off2 + n) ++ C.drop (p + w) = C.drop (p + off2 + n) := by
      rw [List.drop_take, List.drop_drop]
      have : C.drop (p + w) = (C.drop (p + (off2 + n))).drop (w - (off2 + n)) := by rw [List.drop_drop]; congr 1; omega
      rw [this, List.take_append_drop, Nat.add_assoc]
    rw [e1, List.append_assoc, List.append_assoc, List.append_assoc, e2, List.take_add, List.append_assoc, List.append_assoc]
  cut4 {as C A B vs : List AV} {off p n : Nat} (has : as = A ++ (C ++ B)) (hA : A.length = off) (hp : p + n ≤ C.length) :
      as.take (off + p) ++ vs ++ as.drop (off + p + n) = A ++ (C.take p ++ vs ++ C.drop (p + n)) ++ B := by
    subst has hA
    rw [List.take_length_add_append, List.take_append_of_le_length (by omega), Nat.add_assoc, List.drop_length_add_append, List.drop_append_of_le_length hp]
    simp [List.append_assoc]
  tcs_byv : ∀ (t : Ty) (x : t.D), (t.tcs x).all TC.byv = true
    | .int _, _ => rfl
    | .bool, _ => rfl
    | .str, _ => rfl
    | .list _, _ => rfl
    | .st b, x => tcs_byv b x
    | .pair a b, x => by simp only [Ty.tcs, List.all_append, tcs_byv a, tcs_byv b, Bool.and_self]
    | .arr _ _, _ => rfl
  takeW_all {P : TC → Bool} : ∀ {cs a : List TC} {n : Nat}, takeW cs n = some a → cs.all P = true → a.all P = true
    | cs, a, 0, h, _ => by cases cs <;> (simp only [takeW, Option.some.injEq] at h; subst h; rfl)
    | [], a, n + 1, h, _ => by simp [takeW] at h
    | c :: cs, a, n + 1, h, hp => by
      simp only [takeW] at h
      simp only [List.all_cons, Bool.and_eq_true] at hp
      split at h
      · simp only [Option.map_eq_some_iff] at h
        obtain ⟨b, h1, rfl⟩ := h
        simp only [List.all_cons, hp.1, takeW_all h1 hp.2, Bool.and_self]
      · cases h
  dropW_all {P : TC → Bool} : ∀ {cs a : List TC} {n : Nat}, dropW cs n = some a → cs.all P = true → a.all P = true
    | cs, a, 0, h, hp => by cases cs <;> (simp only [dropW, Option.some.injEq] at h; subst h; exact hp)
    | [], a, n + 1, h, _ => by simp [dropW] at h
    | c :: cs, a, n + 1, h, hp => by
      simp only [dropW] at h
      simp only [List.all_cons, Bool.and_eq_true] at hp
      split at h
      · exact dropW_all h hp.2
      · cases h
  putW_byv {cs cs' new : List TC} {off n : Nat} (hp : putW cs off n new = some cs') (hn : new.all TC.byv = true) (hc : cs.all TC.byv = true) : cs'.all TC.byv = true := by
    unfold putW at hp
    split at hp
    · rename_i a b ha hb
      split at hp
      · cases hp
        simp only [List.all_append, takeW_all ha hc, dropW_all hb hc, hn, Bool.and_self]
      · cases hp
    · cases hp
end
end Go.Vm
/- An array as a list. -/
namespace Go.Vm

section
variable {ρ : Type} {τ : TState} {σ : State} {m : Nat → Slot} {orc : Oracle} {dst : Option Nat} {k : KT ρ} {r : ρ}

theorem chunks_enc {t : Ty} (h1 : t.one = false) : ∀ (l : List t.D), chunks t.width l.length ((l.map fun x => t.cells x).flatten) = l.map t.enc
  | [] => rfl
  | x :: l => by
    simp only [List.length_cons, chunks, List.map_cons, List.flatten_cons]
    rw [← t.len_cells x, List.take_left, List.drop_left, t.len_cells, chunks_enc h1 l]
    simp [Ty.enc, enc1, h1]
theorem flat_enc {t : Ty} (h1 : t.one = true) : ∀ (l : List t.D), (l.map fun x => t.cells x).flatten = l.map t.enc
  | [] => rfl
  | x :: l => by
    obtain ⟨a, ha, _⟩ := Ty.one_cells h1 x
    simp only [List.map_cons, List.flatten_cons, flat_enc h1 l]
    simp [Ty.enc, enc1, h1, ha]

theorem op_sliceArr (E : TEnv) (h : Rel m τ σ) {n e : Nat} {agg : Bool} {x : Opnd} {lo hi : Option Opnd} (hd : (opT E dst τ k (.sliceArr n e agg x lo hi)).den = some r) : StepR orc (.sliceArr n e agg x lo hi) dst σ k r := by
  have hx := h.val x
  simp only [opT] at hd
  generalize E.ty (dst.getD 0) = t at hd
  split at hd
  · rename_i l hb d e1 e2 ex
    rw [ex] at hx
    obtain ⟨_, hx⟩ := hx
    have hx' : x.val σ = .ref (m d) (σ.getO (m d)).st 0 0 := by simpa using hx
    split at hd
    · rename_i cs s1 ho
      split at hd
      · rename_i cs1 rd hv
        split at hd
        · rename_i xs hxs
          split at hd
          · rename_i hc
            obtain ⟨rfl, hagg, hfl, hbv, hns, hmr, hnr⟩ := hc
            have hd0 : τ.getO d ≠ none := by rw [ho]; simp
            have hat := h.at_ d hd0
            have hms : m d ≠ slot dst := by
              intro e; rw [e] at hat
              simp [hat] at hns
            obtain ⟨hk, b1, b2, b3, b4, b5, b6⟩ := bounds_ok h (K := x.keys ++ bKeys lo ++ bKeys hi ++ τ.ks d ++ oKeys (slot dst :: rd)) e1 e2 (fun z hz => by simp [hz]) (fun z hz => by simp [hz]) hd
            obtain ⟨st, ee, c, y, h1, h2, _, h4⟩ := h.obj_var ho
            obtain ⟨as, rfl, h2'⟩ := (h2 : ∃ as, y = .agg as ∧ RCs τ σ m cs as)
            obtain ⟨bs, q, g1, g2, g3, g4⟩ := vals_ok h (f := 4) (K := x.keys ++ bKeys lo ++ bKeys hi ++ τ.ks d ++ oKeys (slot dst :: rd)) h2' hv hbv (fun s hs => List.mem_append_right _ (oKeys_o (by simp [hs])))
            have hflA : (Ty.arr n t).flat = true := hfl
            obtain ⟨o1, _, o3⟩ := Ty.of_ok hxs g2 (.inr hflA)
            have hbs : bs = (Ty.arr n t).cells xs := o3 hflA
            have hval : Does (valR depth (.agg as)) σ (.agg bs, q) (x.keys ++ bKeys lo ++ bKeys hi ++ τ.ks d ++ oKeys (slot dst :: rd)) := by
              show Does (valR (5 + 1) (.agg as)) σ _ _
              simp only [valR]
              exact Does.bind g1 (Does.ret _)
            have hqd : m d ∉ q := fun hq => by
              have hm' : meets rd (τ.at_ d) = false := by simpa using hmr
              exact meets_false.1 hm' (m d) (g3 _ hq) hat
            have hqs : slot dst ∉ q := fun hq => by
              have : slot dst ∉ rd := by simpa using hnr
              exact this (g3 _ hq)
            have hlen : as.length = n * t.width := by rw [← g4, o1]; rfl
            have hxl : xs.1.length = n := xs.2
            have hel : (if agg then chunks t.width n bs else bs) = xs.1.map t.enc := by
              rw [hbs]
              simp only [Ty.cells]
              cases hone : t.one with
              | true => rw [hone] at hagg; simp only [Bool.not_true] at hagg; subst hagg; exact flat_enc hone _
              | false =>
                rw [hone] at hagg; simp only [Bool.not_false] at hagg; subst hagg
                simp only [if_true]
                have := chunks_enc hone xs.1
                rw [hxl] at this
                exact this
            have hae : (agg || t.width == 1) = true := by
              cases hone : t.one with
              | false => rw [hone] at hagg; simp [hagg]
              | true =>
                obtain ⟨a, ha, _⟩ := Ty.one_cells hone t.dflt
                have := Ty.len_cells t t.dflt
                rw [ha] at this
                simp at this
                simp [← this]
            refine StepR.sl h (t := t) (l := xs.1) (cap := some n) (fz := false) (c := n) (z := false) (fr := q) (rd := rd) (cons := [.o (m d) ⟨st, none⟩])
              (w := viewT n l hb) (mn := false) (av := .sref (slot dst) ((σ.getO (slot dst)).st + 1) (loN l) (hiN n hb - loN l)) (h.drop [d] (τ.at_ d)) rfl ?_ g3 hqs (by omega) (by simp) (by simp) ?_ ?_
              (kr := x.keys ++ bKeys lo ++ bKeys hi ++ τ.ks d ++ oKeys (slot dst :: rd)) (kw := τ.ks d ++ oKeys [slot dst] ++ rd.map Key.f) ?_ ?_ (fun u hu => List.mem_append_left _ (List.mem_append_right _ hu)) (fun s hs => List.mem_append_right _ (List.mem_map_of_mem (g3 s hs))) hk
            · intro u hu
              simp only [List.flatMap_cons, W.slots, List.flatMap_nil, List.append_nil, List.mem_singleton] at hu
              subst hu
              exact .inr (h.clear_kill hd0)
            · cases l <;> cases hb <;> first | rfl | (simp only [viewT, loN, hiN, Nat.sub_zero, hxl])
            · intro lo' n' e
              have : lo' = loN l ∧ n' = hiN n hb - loN l := by
                cases l <;> cases hb <;> first | (cases e; done) | (simp only [viewT, Option.some.injEq, Prod.mk.injEq] at e; exact ⟨e.1.symm, e.2.symm⟩)
              omega
            · simp only [ROp.sem]
              refine Does.bind (Does.opnd x fun z hz => by simp [hz]) ?_
              rw [hx', h1]
              refine Does.bind (Does.theObj (List.mem_append_left _ (List.mem_append_right _ (h.key_o ho))) h1) (Does.bind (Does.frz (List.mem_append_left _ (List.mem_append_right _ (h.key_f ho)))) ?_)
              simp only
              refine Does.bind (b1 _ (Nat.le_refl _)) (Does.bind b2 (Does.bind hval ?_))
              have hone : bs.all AV.one = true := by
                rw [hbs, List.all_eq_true]
                exact fun a ha => AV.leaf_one (Ty.cells_leaf (.arr n t) _ a ha)
              have hbl : bs.length = n * t.width := o1
              have hne : (m d == slot dst) = false := by simpa using hms
              have hqd' : q.contains (m d) = false := by simpa using hqd
              simp only [AV.cells, h4 rfl, Bool.not_false, hlen, beq_self_eq_true, hae, hne, hqd', hone, hbl, Bool.and_self, if_true, hel]
              exact Does.mk (more := .o (m d) ⟨st, none⟩ :: setFs q) (List.mem_append_right _ (oKeys_o (by simp)))
            · intro u hu
              simp only [List.mem_singleton] at hu
              subst hu
              exact List.mem_append_left _ (List.mem_append_left _ (h.key_o ho))
          · cases hd
        · cases hd
      · cases hd
    · cases hd
  · cases hd
end
end Go.Vm
/- What goes to a call and comes back. -/
namespace Go.Vm

/-- A cell that is handed over. 'strict': no nil list. -/
def KR (strict : Bool) : RK → DP → List AV → Prop
  | .v t, p, as => ∃ x : t.D, p = ⟨.ty t, x⟩ ∧ as = t.cells x
  | .lst e, p, as => ∃ l : List e.D, p = ⟨.ty (.list e), l⟩ ∧ ∃ a, as = [a] ∧ (a = .sl e.width (l.map e.enc) ∨ a = .fresh e.width (l.map e.enc) ∨ (strict = false ∧ l = [] ∧ a = .nil))
  | .own e, p, as => ∃ l : List e.D, p = ⟨.ty (.list e), l⟩ ∧ ∃ a, as = [a] ∧ (a = .fresh e.width (l.map e.enc) ∨ (strict = false ∧ l = [] ∧ a = .nil))
def KRs (strict : Bool) : List RK → List DP → List AV → Prop
  | [], ps, as => ps = [] ∧ as = []
  | k :: ks, ps, as => ∃ p pr q r, ps = p :: pr ∧ as = q ++ r ∧ KR strict k p q ∧ KRs strict ks pr r

/-- Which slots go, which are read: at most one for each name and each list of slots. -/
inductive Picks (m : Nat → Slot) : List Nat → List Slot → List Slot → List Slot → Prop
  | nil : Picks m [] [] [] []
  | skipN (n : Nat) {ns : List Nat} {ss mv rd : List Slot} : Picks m ns ss mv rd → Picks m (n :: ns) ss mv rd
  | mvN (n : Nat) {ns : List Nat} {ss mv rd : List Slot} : Picks m ns ss mv rd → Picks m (n :: ns) ss (m n :: mv) rd
  | rdN (n : Nat) {ns : List Nat} {ss mv rd : List Slot} : Picks m ns ss mv rd → Picks m (n :: ns) ss mv (m n :: rd)
  | skipS (ds : List Slot) {ns : List Nat} {ss mv rd : List Slot} : Picks m ns ss mv rd → Picks m ns (ds ++ ss) mv rd
  | mvS (ds : List Slot) (s : Slot) {ns : List Nat} {ss mv rd : List Slot} : s ∈ ds → Picks m ns ss mv rd → Picks m ns (ds ++ ss) (s :: mv) rd
  | rdS (ds : List Slot) (s : Slot) {ns : List Nat} {ss mv rd : List Slot} : s ∈ ds → Picks m ns ss mv rd → Picks m ns (ds ++ ss) mv (s :: rd)

section
variable {m : Nat → Slot}
theorem Picks.append {ns ns' : List Nat} {ss ss' mv mv' rd rd' : List Slot} (h : Picks m ns ss mv rd) (k : Picks m ns' ss' mv' rd') : Picks m (ns ++ ns') (ss ++ ss') (mv ++ mv') (rd ++ rd') := by
  induction h with
  | nil => exact k
  | skipN n _ ih => exact .skipN n ih
  | mvN n _ ih => exact .mvN n ih
  | rdN n _ ih => exact .rdN n ih
  | skipS ds _ ih => rw [List.append_assoc]; exact .skipS ds ih
  | mvS ds s hs _ ih => rw [List.append_assoc]; exact .mvS ds s hs ih
  | rdS ds s hs _ ih => rw [List.append_assoc]; exact .rdS ds s hs ih
theorem Picks.mem {ns : List Nat} {ss mv rd : List Slot} (h : Picks m ns ss mv rd) : ∀ s ∈ mv ++ rd, (∃ n ∈ ns, s = m n) ∨ s ∈ ss := by
  induction h with
  | nil => intro s hs; simp at hs
  | skipN n _ ih => intro s hs; exact (ih s hs).imp (fun ⟨x, hx, e⟩ => ⟨x, by simp [hx], e⟩) id
  | mvN n _ ih =>
    intro s hs
    simp only [List.cons_append, List.mem_cons] at hs
    rcases hs with rfl | hs
    · exact .inl ⟨n, by simp, rfl⟩
    · exact (ih s hs).imp (fun ⟨x, hx, e⟩ => ⟨x, by simp [hx], e⟩) id
  | rdN n _ ih =>
    intro s hs
    simp only [List.mem_append, List.mem_cons] at hs
    rcases hs with hs | rfl | hs
    · exact (ih s (by simp [hs])).imp (fun ⟨x, hx, e⟩ => ⟨x, by simp [hx], e⟩) id
    · exact .inl ⟨n, by simp, rfl⟩
    · exact (ih s (by simp [hs])).imp (fun ⟨x, hx, e⟩ => ⟨x, by simp [hx], e⟩) id
  | skipS ds _ ih => intro s hs; exact (ih s hs).imp id fun h => List.mem_append_right _ h
  | mvS ds s0 hs0 _ ih =>
    intro s hs
    simp only [List.cons_append, List.mem_cons] at hs
    rcases hs with rfl | hs
    · exact .inr (List.mem_append_left _ hs0)
    · exact (ih s hs).imp id fun h => List.mem_append_right _ h
  | rdS ds s0 hs0 _ ih =>
    intro s hs
    simp only [List.mem_append, List.mem_cons] at hs
    rcases hs with hs | rfl | hs
    · exact (ih s (by simp [hs])).imp id fun h => List.mem_append_right _ h
    · exact .inr (List.mem_append_left _ hs0)
    · exact (ih s (by simp [hs])).imp id fun h => List.mem_append_right _ h
theorem nodupN_spec : ∀ {l : List Nat}, nodupN l = true → l.Nodup
  | [], _ => List.nodup_nil
  | x :: xs, h => by
    simp only [nodupN, Bool.and_eq_true, Bool.not_eq_true'] at h
    refine List.nodup_cons.2 ⟨?_, nodupN_spec h.2⟩
    simpa using h.1
theorem Picks.nodup {ns : List Nat} {ss mv rd : List Slot} (h : Picks m ns ss mv rd) : ns.Nodup → ss.Nodup → (∀ n ∈ ns, ∀ n' ∈ ns, n ≠ n' → m n ≠ m n') → (∀ n ∈ ns, m n ∉ ss) → (mv ++ rd).Nodup := by
  induction h with
  | nil => intro _ _ _ _; exact List.nodup_nil
  | skipN n _ ih =>
    intro h1 h2 h3 h4
    exact ih (List.nodup_cons.1 h1).2 h2 (fun a ha b hb => h3 a (by simp [ha]) b (by simp [hb])) (fun a ha => h4 a (by simp [ha]))
  | @mvN n ns ss mv rd hp ih =>
    intro h1 h2 h3 h4
    have hn := List.nodup_cons.1 h1
    have := ih hn.2 h2 (fun a ha b hb => h3 a (by simp [ha]) b (by simp [hb])) (fun a ha => h4 a (by simp [ha]))
    rw [List.cons_append]
    refine List.nodup_cons.2 ⟨fun hm => ?_, this⟩
    rcases hp.mem _ hm with ⟨x, hx, e⟩ | hs
    · exact h3 n (by simp) x (by simp [hx]) (fun e => hn.1 (e ▸ hx)) e
    · exact h4 n (by simp) hs
  | @rdN n ns ss mv rd hp ih =>
    intro h1 h2 h3 h4
    have hn := List.nodup_cons.1 h1
    have := ih hn.2 h2 (fun a ha b hb => h3 a (by simp [ha]) b (by simp [hb])) (fun a ha => h4 a (by simp [ha]))
    have e : (mv ++ m n :: rd).Perm (m n :: (mv ++ rd)) := List.perm_middle
    refine e.nodup_iff.2 (List.nodup_cons.2 ⟨fun hm => ?_, this⟩)
    rcases hp.mem _ hm with ⟨x, hx, e⟩ | hs
    · exact h3 n (by simp) x (by simp [hx]) (fun e => hn.1 (e ▸ hx)) e
    · exact h4 n (by simp) hs
  | skipS ds _ ih =>
    intro h1 h2 h3 h4
    exact ih h1 (List.nodup_append.1 h2).2.1 h3 (fun n hn e => h4 n hn (List.mem_append_right _ e))
  | @mvS ds s ns ss mv rd hs hp ih =>
    intro h1 h2 h3 h4
    have h2' := List.nodup_append.1 h2
    have := ih h1 h2'.2.1 h3 (fun n hn e => h4 n hn (List.mem_append_right _ e))
    rw [List.cons_append]
    refine List.nodup_cons.2 ⟨fun hm => ?_, this⟩
    rcases hp.mem _ hm with ⟨x, hx, e⟩ | hs'
    · exact h4 x hx (List.mem_append_left _ (e ▸ hs))
    · exact h2'.2.2 s hs s hs' rfl
  | @rdS ds s ns ss mv rd hs hp ih =>
    intro h1 h2 h3 h4
    have h2' := List.nodup_append.1 h2
    have := ih h1 h2'.2.1 h3 (fun n hn e => h4 n hn (List.mem_append_right _ e))
    have e : (mv ++ s :: rd).Perm (s :: (mv ++ rd)) := List.perm_middle
    refine e.nodup_iff.2 (List.nodup_cons.2 ⟨fun hm => ?_, this⟩)
    rcases hp.mem _ hm with ⟨x, hx, e⟩ | hs'
    · exact h4 x hx (List.mem_append_left _ (e ▸ hs))
    · exact h2'.2.2 s hs s hs' rfl
end

section
variable {τ : TState} {σ : State} {m : Nat → Slot}

/-! ### Handing out -/
theorem mapE_append (g : AV → R (AV × List Slot × List Slot)) {K : List Key} : ∀ {a b x y : List AV} {r1 r2 s1 s2 : List Slot}, Does (mapE g a) σ (x, r1, r2) K → Does (mapE g b) σ (y, s1, s2) K → Does (mapE g (a ++ b)) σ (x ++ y, r1 ++ s1, r2 ++ s2) K
  | [], b, x, y, r1, r2, s1, s2, h, k => by
    have := h.1
    simp only [mapE, R.run_ret, Option.some.injEq, Prod.mk.injEq] at this
    obtain ⟨rfl, rfl, rfl⟩ := this
    exact k
  | a :: as, b, x, y, r1, r2, s1, s2, h, k => by
    have h1 := h.1
    have h2 := h.2
    simp only [mapE, R.run_bind] at h1
    cases ha : (g a).run σ with
    | none => simp [ha] at h1
    | some p =>
      cases hb : (mapE g as).run σ with
      | none => simp [ha, hb] at h1
      | some q =>
        simp only [ha, hb, Option.bind_some, R.run_ret, Option.some.injEq, Prod.mk.injEq] at h1
        obtain ⟨rfl, rfl, rfl⟩ := h1
        have f1 : ∀ z ∈ (g a).foot σ, z ∈ K := fun z hz => h2 z (by simp only [mapE]; rw [R.foot_bind]; exact List.mem_append_left _ hz)
        have f2 : ∀ z ∈ (mapE g as).foot σ, z ∈ K := fun z hz => h2 z (by simp only [mapE]; rw [R.foot_bind, ha]; refine List.mem_append_right _ ?_; simp only; rw [R.foot_bind]; exact List.mem_append_left _ hz)
        have := mapE_append g (K := K) (a := as) ⟨hb, f2⟩ k
        simp only [List.cons_append, mapE]
        exact Does.bind (a := p) ⟨ha, f1⟩ (Does.bind this ⟨by simp [R.run_ret], by simp [R.foot]⟩)
theorem expR_leaf {f : Nat} {K : List Key} {a : AV} (h : a.leaf = true ∨ a = .nil) : Does (expR (f + 1) a) σ (a, [], []) K := by
  rcases h with h | rfl
  · cases a <;> first | (simp [AV.leaf] at h; done) | (simp only [expR]; exact Does.ret _)
  · simp only [expR]; exact Does.ret _
theorem mapE_leaf {f : Nat} {K : List Key} : ∀ {as : List AV}, (∀ a ∈ as, a.leaf = true) → Does (mapE (expR (f + 1)) as) σ (as, [], []) K
  | [], _ => Does.ret _
  | a :: as, h => by
    simp only [mapE]
    exact Does.bind (expR_leaf (.inl (h a (by simp)))) (Does.bind (mapE_leaf (fun x hx => h x (by simp [hx]))) (Does.ret _))
theorem mapE_one {g : AV → R (AV × List Slot × List Slot)} {K : List Key} {a b : AV} {r s : List Slot} (h : Does (g a) σ (b, r, s) K) : Does (mapE g [a]) σ ([b], r, s) K := by
  simp only [mapE]
  exact Does.bind h (Does.bind (Does.ret ([], [], [])) (by simp; exact Does.ret _))
theorem expR_sref {f : Nat} {K : List Key} {s st c lo len e : Nat} {xs : List AV} (ho : σ.getO s = ⟨st, some ⟨e, xs, false, c⟩⟩) (hl : lo + len ≤ xs.length) (hk : Key.o s ∈ K) (hf : Key.f s ∈ K) :
    Does (expR (f + 1) (.sref s st lo len)) σ (if σ.getF s then (.sl e ((xs.drop lo).take len), [], [s]) else (.fresh e ((xs.drop lo).take len), [s], [])) K := by
  simp only [expR]
  refine Does.bind (Does.theObj hk ho) (Does.bind (Does.frz hf) ?_)
  simp only [Bool.not_false, Bool.true_and, decide_eq_true hl, if_true]
  cases σ.getF s <;> exact Does.ret _

theorem cutW_map {α β : Type} (f : α → β) (w : Option (Nat × Nat)) (l : List α) : (cutW w l).map f = cutW w (l.map f) := by
  cases w with
  | none => rfl
  | some p => simp [cutW, List.map_take, List.map_drop]

theorem exp_ok (h : Rel m τ σ) {f : Nat} {K : List Key} {k : RK} {c : TC} {as : List AV} {pl : List DP} {ns : List Nat} {ss mr : List Slot} (hc : RC τ σ m c as) (he : k.exp τ c = some (pl, ns, ss, mr))
    (hk : ∀ z ∈ oKeys (nameKeys τ ns ++ ss), z ∈ K) : ∃ p bs mv rd, pl = [p] ∧ Does (mapE (expR (f + 1)) as) σ (bs, mv, rd) K ∧ KR false k p bs ∧ Picks m ns ss mv rd ∧ (∀ s ∈ rd, s ∈ mr) ∧ (∀ n ∈ ns, τ.getO n ≠ none) ∧ ∀ a ∈ bs, a ≠ .any := by
  unfold RK.exp at he
  split at he
  · rename_i t t' x
    split at he
    · rename_i hh
      obtain ⟨rfl, hfl⟩ := hh
      simp only [Option.some.injEq, Prod.mk.injEq] at he
      obtain ⟨rfl, rfl, rfl, rfl⟩ := he
      have : as = t'.cells x := hc
      subst this
      exact ⟨_, _, [], [], rfl, mapE_leaf (t'.cells_leaf x), ⟨x, rfl, rfl⟩, .nil, by simp, by simp, fun a ha e => by
        have := t'.cells_leaf x a ha
        rw [e] at this; cases this⟩
    · cases he
  · rename_i b
    simp only [Option.some.injEq, Prod.mk.injEq] at he
    obtain ⟨rfl, rfl, rfl, rfl⟩ := he
    have : as = [.bool b] := hc
    subst this
    exact ⟨_, _, [], [], rfl, mapE_one (expR_leaf (.inl rfl)), ⟨b, rfl, rfl⟩, .nil, by simp, by simp, by simp⟩
  · rename_i e e' l ds
    split at he
    · rename_i hh
      subst hh
      simp only [Option.some.injEq, Prod.mk.injEq] at he
      obtain ⟨rfl, rfl, rfl, rfl⟩ := he
      obtain ⟨a, rfl, hc⟩ := hc
      rcases hc with rfl | ⟨rfl, rfl⟩ | ⟨s, hs, st, c, lo, len, xs, h1, h2, h3, h4, rfl⟩
      · exact ⟨_, _, [], [], rfl, mapE_one (expR_leaf (.inl rfl)), ⟨l, rfl, _, rfl, .inl rfl⟩, by simpa using Picks.skipS ds Picks.nil, by simp, by simp, by simp⟩
      · exact ⟨_, _, [], [], rfl, mapE_one (expR_leaf (.inr rfl)), ⟨[], rfl, _, rfl, .inr (.inr ⟨rfl, rfl, rfl⟩)⟩, by simpa using Picks.skipS ds Picks.nil, by simp, by simp, by simp⟩
      · have := expR_sref (f := f) (K := K) h1 h3 (hk _ (oKeys_o (by simp [hs]))) (hk _ (oKeys_f (by simp [hs])))
        rw [h4] at this
        cases hf : σ.getF s with
        | true =>
          rw [hf] at this
          simp only [if_true] at this
          exact ⟨_, _, [], [s], rfl, mapE_one this, ⟨l, rfl, _, rfl, .inl rfl⟩, by simpa using Picks.rdS ds s hs Picks.nil, by simpa using hs, by simp, by simp⟩
        | false =>
          rw [hf] at this
          simp only [Bool.false_eq_true, if_false] at this
          exact ⟨_, _, [s], [], rfl, mapE_one this, ⟨l, rfl, _, rfl, .inr (.inl rfl)⟩, by simpa using Picks.mvS ds s hs Picks.nil, by simp, by simp, by simp⟩
    · cases he
  · rename_i e
    simp only [Option.some.injEq, Prod.mk.injEq] at he
    obtain ⟨rfl, rfl, rfl, rfl⟩ := he
    have : as = [.nil] := hc
    subst this
    exact ⟨_, _, [], [], rfl, mapE_one (expR_leaf (.inr rfl)), ⟨[], rfl, _, rfl, .inr (.inr ⟨rfl, rfl, rfl⟩)⟩, .nil, by simp, by simp, by simp⟩
  · rename_i e d w mn
    obtain ⟨a, rfl, e0, l0, cap, fz, s1, ho, hc⟩ := hc
    rw [ho] at he
    simp only at he
    split at he
    · rename_i hh
      subst hh
      simp only [Option.some.injEq, Prod.mk.injEq] at he
      obtain ⟨rfl, rfl, rfl, rfl⟩ := he
      have hat := h.at_ d (by rw [ho]; simp)
      have hd0 : ∀ n ∈ [d], τ.getO n ≠ none := by simp [ho]
      rcases hc with ⟨⟨⟨st, c, g1, g2, g3⟩, g4⟩, hw⟩ | ⟨rfl, rfl, rfl, hw⟩
      · have hw' : ∃ lo n, lo + n ≤ l0.length ∧ a = .sref (m d) st lo n ∧ cutW w l0 = (l0.drop lo).take n := by
          cases w with
          | none => exact ⟨0, l0.length, by omega, by simp only at hw; rw [hw, g1], by simp [cutW]⟩
          | some p => exact ⟨p.1, p.2, hw.1, by rw [hw.2, g1], rfl⟩
        obtain ⟨lo, n, hle, rfl, hcut⟩ := hw'
        have hkn : m d ∈ nameKeys τ [d] ++ [] := by simp [nameKeys, hat]
        have := expR_sref (f := f) (K := K) g1 (lo := lo) (len := n) (by simpa using hle) (hk _ (oKeys_o hkn)) (hk _ (oKeys_f hkn))
        have e1 : ((l0.map e0.enc).drop lo).take n = (cutW w l0).map e0.enc := by rw [hcut, List.map_take, List.map_drop]
        rw [e1] at this
        cases hf : σ.getF (m d) with
        | true =>
          rw [hf] at this
          simp only [if_true] at this
          exact ⟨_, _, [], [m d], rfl, mapE_one this, ⟨_, rfl, _, rfl, .inl rfl⟩, .rdN d .nil, by simpa using hat, hd0, by simp⟩
        | false =>
          rw [hf] at this
          simp only [Bool.false_eq_true, if_false] at this
          exact ⟨_, _, [m d], [], rfl, mapE_one this, ⟨_, rfl, _, rfl, .inr (.inl rfl)⟩, .mvN d .nil, by simp, hd0, by simp⟩
      · have hn : cutW w ([] : List e0.D) = [] := by cases w <;> simp [cutW]
        exact ⟨_, _, [], [], rfl, mapE_one (expR_leaf (.inr rfl)), ⟨_, rfl, _, rfl, .inr (.inr ⟨rfl, hn, rfl⟩)⟩, .skipN d .nil, by simp, hd0, by simp⟩
    · cases he
  · rename_i e d w mn
    obtain ⟨a, rfl, e0, l0, cap, fz, s1, ho, hc⟩ := hc
    rw [ho] at he
    split at he
    · rename_i e1 l1 cap1 s11 heq
      simp only [Option.some.injEq, TO.sl.injEq] at heq
      obtain ⟨rfl, hll, rfl, rfl, rfl⟩ := heq
      cases hll
      split at he
      · rename_i hh
        subst hh
        simp only [Option.some.injEq, Prod.mk.injEq] at he
        obtain ⟨rfl, rfl, rfl, rfl⟩ := he
        have hat := h.at_ d (by rw [ho]; simp)
        have hd0 : ∀ n ∈ [d], τ.getO n ≠ none := by simp [ho]
        rcases hc with ⟨⟨⟨st, c, g1, g2, g3⟩, g4⟩, hw⟩ | ⟨rfl, rfl, rfl, hw⟩
        · have hw' : ∃ lo n, lo + n ≤ l0.length ∧ a = .sref (m d) st lo n ∧ cutW w l0 = (l0.drop lo).take n := by
            cases w with
            | none => exact ⟨0, l0.length, by omega, by simp only at hw; rw [hw, g1], by simp [cutW]⟩
            | some p => exact ⟨p.1, p.2, hw.1, by rw [hw.2, g1], rfl⟩
          obtain ⟨lo, n, hle, rfl, hcut⟩ := hw'
          have hkn : m d ∈ nameKeys τ [d] ++ [] := by simp [nameKeys, hat]
          have := expR_sref (f := f) (K := K) g1 (lo := lo) (len := n) (by simpa using hle) (hk _ (oKeys_o hkn)) (hk _ (oKeys_f hkn))
          have e2 : ((l0.map e0.enc).drop lo).take n = (cutW w l0).map e0.enc := by rw [hcut, List.map_take, List.map_drop]
          rw [e2, g4 rfl] at this
          simp only [Bool.false_eq_true, if_false] at this
          exact ⟨_, _, [m d], [], rfl, mapE_one this, ⟨_, rfl, _, rfl, .inl rfl⟩, .mvN d .nil, by simp, hd0, by simp⟩
        · have hn : cutW w ([] : List e0.D) = [] := by cases w <;> simp [cutW]
          exact ⟨_, _, [], [], rfl, mapE_one (expR_leaf (.inr rfl)), ⟨_, rfl, _, rfl, .inr ⟨rfl, hn, rfl⟩⟩, .skipN d .nil, by simp, hd0, by simp⟩
      · cases he
    · cases he
  · rename_i e
    simp only [Option.some.injEq, Prod.mk.injEq] at he
    obtain ⟨rfl, rfl, rfl, rfl⟩ := he
    have : as = [.nil] := hc
    subst this
    exact ⟨_, _, [], [], rfl, mapE_one (expR_leaf (.inr rfl)), ⟨[], rfl, _, rfl, .inr ⟨rfl, rfl, rfl⟩⟩, .nil, by simp, by simp, by simp⟩
  · cases he

theorem nameKeys_append (a b : List Nat) : nameKeys τ (a ++ b) = nameKeys τ a ++ nameKeys τ b := by simp [nameKeys]

theorem expT_ok (h : Rel m τ σ) {f : Nat} {K : List Key} : ∀ {ks : List RK} {cs : List TC} {as : List AV} {pl : List DP} {ns : List Nat} {ss mr : List Slot}, RCs τ σ m cs as → expT τ ks cs = some (pl, ns, ss, mr) → (∀ z ∈ oKeys (nameKeys τ ns ++ ss), z ∈ K) →
    ∃ bs mv rd, Does (mapE (expR (f + 1)) as) σ (bs, mv, rd) K ∧ KRs false ks pl bs ∧ Picks m ns ss mv rd ∧ (∀ s ∈ rd, s ∈ mr) ∧ (∀ n ∈ ns, τ.getO n ≠ none) ∧ ∀ a ∈ bs, a ≠ .any
  | [], [], as, pl, ns, ss, mr, hc, he, _ => by
    simp only [expT, Option.some.injEq, Prod.mk.injEq] at he
    obtain ⟨rfl, rfl, rfl, rfl⟩ := he
    have : as = [] := hc
    subst this
    exact ⟨[], [], [], Does.ret _, ⟨rfl, rfl⟩, .nil, by simp, by simp, by simp⟩
  | [], _ :: _, _, _, _, _, _, _, he, _ => by simp [expT] at he
  | _ :: _, [], _, _, _, _, _, _, he, _ => by simp [expT] at he
  | k :: ks, c :: cs, as, pl, ns, ss, mr, ⟨p, q, h1, h2, h3⟩, he, hk => by
    subst h1
    simp only [expT] at he
    cases he1 : k.exp τ c with
    | none => simp [he1] at he
    | some u =>
      obtain ⟨a1, a2, a3, a4⟩ := u
      cases he2 : expT τ ks cs with
      | none => simp [he1, he2] at he
      | some v =>
        obtain ⟨b1, b2, b3, b4⟩ := v
        simp only [he1, he2, Option.some.injEq, Prod.mk.injEq] at he
        obtain ⟨rfl, rfl, rfl, rfl⟩ := he
        have sub1 : ∀ z ∈ oKeys (nameKeys τ a2 ++ a3), z ∈ K := fun z hz => hk z (oKeys_sub (fun s hs => by
          rw [nameKeys_append]; simp only [List.mem_append] at hs ⊢; rcases hs with hs | hs <;> simp [hs]) z hz)
        have sub2 : ∀ z ∈ oKeys (nameKeys τ b2 ++ b3), z ∈ K := fun z hz => hk z (oKeys_sub (fun s hs => by
          rw [nameKeys_append]; simp only [List.mem_append] at hs ⊢; rcases hs with hs | hs <;> simp [hs]) z hz)
        obtain ⟨p1, bs1, mv1, rd1, rfl, g1, g2, g3, g4, g5, g6⟩ := exp_ok h (f := f) h2 he1 sub1
        obtain ⟨bs2, mv2, rd2, k1, k2, k3, k4, k5, k6⟩ := expT_ok h (f := f) h3 he2 sub2
        refine ⟨bs1 ++ bs2, mv1 ++ mv2, rd1 ++ rd2, mapE_append _ g1 k1, ⟨p1, b1, bs1, bs2, rfl, rfl, g2, k2⟩, g3.append k3, fun s hs => ?_, fun n hn => ?_, fun a ha => ?_⟩
        · rcases List.mem_append.1 hs with hs | hs
          · exact List.mem_append_left _ (g4 s hs)
          · exact List.mem_append_right _ (k4 s hs)
        · rcases List.mem_append.1 hn with hn | hn
          · exact g5 n hn
          · exact k5 n hn
        · rcases List.mem_append.1 ha with ha | ha
          · exact g6 a ha
          · exact k6 a ha

theorem fitW_ok : ∀ {js : List JK} {cs cs' : List TC} {as : List AV}, fitW js cs = some cs' → RCs τ σ m cs as → RCs τ σ m cs' as
  | [], [], cs', as, hf, hc => by simp only [fitW, Option.some.injEq] at hf; subst hf; exact hc
  | [], _ :: _, _, _, hf, _ => by simp [fitW] at hf
  | j :: js, cs, cs', as, hf, hc => by
    unfold fitW at hf
    split at hf
    · exact absurd (by assumption : j :: js = []) (by simp)
    · exact absurd (by assumption : j :: js = []) (by simp)
    · rename_i cs0 n e ks heq
      simp only [List.cons.injEq] at heq
      obtain ⟨rfl, rfl⟩ := heq
      split at hf
      · cases hf
      · rename_i hfl
        have hfl' : e.flat = true := by simpa using hfl
        split at hf
        · rename_i x r h1
          simp only [Option.map_eq_some_iff] at hf
          obtain ⟨cs2, h2, rfl⟩ := hf
          obtain ⟨p, q, g1, g2, _, g4, g5, _⟩ := (Ty.arr n e).take_ok _ r x as h1 hc (.inr hfl')
          exact ⟨p, q, g1, g4 hfl', fitW_ok h2 g5⟩
        · cases hf
    · rename_i j0 ks c0 cs0 hnj heq
      simp only [List.cons.injEq] at heq
      obtain ⟨rfl, rfl⟩ := heq
      simp only [Option.map_eq_some_iff] at hf
      obtain ⟨cs2, h2, rfl⟩ := hf
      obtain ⟨p, q, g1, g2, g3⟩ := hc
      exact ⟨p, q, g1, g2, fitW_ok h2 g3⟩
    · cases hf
theorem expF_ok (h : Rel m τ σ) {f : Nat} {K : List Key} {ks : List RK} {cs : List TC} {as : List AV} {pl : List DP} {ns : List Nat} {ss mr : List Slot} (hc : RCs τ σ m cs as) (he : expF τ ks cs = some (pl, ns, ss, mr)) (hk : ∀ z ∈ oKeys (nameKeys τ ns ++ ss), z ∈ K) :
    ∃ bs mv rd, Does (mapE (expR (f + 1)) as) σ (bs, mv, rd) K ∧ KRs false ks pl bs ∧ Picks m ns ss mv rd ∧ (∀ s ∈ rd, s ∈ mr) ∧ (∀ n ∈ ns, τ.getO n ≠ none) ∧ ∀ a ∈ bs, a ≠ .any := by
  unfold expF at he
  split at he
  · rename_i cs' hf
    exact expT_ok h (fitW_ok hf hc) he hk
  · cases he
end
end Go.Vm
/- What comes in: with a call's result, or as an argument. -/
namespace Go.Vm

/-- The write is still what is there. -/
def W.holds (σ : State) : W → Prop
  | .o d s => σ.getO d = s
  | .f d b => σ.getF d = b
  | .t n a => σ.getT n = a
/-- The slots written are new ones of this range, each once. -/
def InR (t k k1 : Nat) (ws : List W) : Prop :=
  (∀ w ∈ ws, match w with
    | .o d s => (∃ j, k ≤ j ∧ j < k1 ∧ d = 64 * t + j) ∧ s.obj.isSome = true
    | .f d b => b = false ∧ ∃ j, k ≤ j ∧ j < k1 ∧ d = 64 * t + j
    | .t _ _ => False) ∧ (madeAt ws).Nodup
/-- The objects that came in. -/
def OsOK (t k k1 : Nat) (os : List (Nat × List Slot × TO)) : Prop :=
  (∀ p ∈ os, (∃ j, k ≤ j ∧ j < k1 ∧ p.1 = 64 * t + j) ∧ p.2.1 = [p.1]) ∧ (os.map (·.1)).Nodup
/-- In every state where the writes hold the cells are as told. -/
def Come (os : List (Nat × List Slot × TO)) (ws : List W) (f : TState → State → (Nat → Slot) → Prop) : Prop :=
  ∀ τ' σ' m', (∀ w ∈ ws, w.holds σ') → (∀ p ∈ os, τ'.getO p.1 = some p.2.2 ∧ m' p.1 = p.1) → f τ' σ' m' ∧ ∀ p ∈ os, RO τ' σ' m' p.1 p.2.2

theorem InR.nil {t k k1 : Nat} : InR t k k1 [] := ⟨by simp, List.nodup_nil⟩
theorem OsOK.nil {t k k1 : Nat} : OsOK t k k1 [] := ⟨by simp, List.nodup_nil⟩
theorem madeAt_append : ∀ (a b : List W), madeAt (a ++ b) = madeAt a ++ madeAt b
  | [], b => rfl
  | .o d s :: a, b => by simp only [List.cons_append, madeAt, madeAt_append a b]; split <;> rfl
  | .f _ _ :: a, b => by simp only [List.cons_append, madeAt, madeAt_append a b]
  | .t _ _ :: a, b => by simp only [List.cons_append, madeAt, madeAt_append a b]
theorem madeAt_mem : ∀ {ws : List W} {d : Slot}, d ∈ madeAt ws → ∃ s, W.o d s ∈ ws
  | [], _, h => by cases h
  | .o d' s :: a, d, h => by
    simp only [madeAt] at h
    split at h
    · simp only [List.mem_cons] at h
      rcases h with rfl | h
      · exact ⟨s, by simp⟩
      · obtain ⟨s', h'⟩ := madeAt_mem h; exact ⟨s', by simp [h']⟩
    · obtain ⟨s', h'⟩ := madeAt_mem h; exact ⟨s', by simp [h']⟩
  | .f _ _ :: a, d, h => by
    simp only [madeAt] at h
    obtain ⟨s', h'⟩ := madeAt_mem h; exact ⟨s', by simp [h']⟩
  | .t _ _ :: a, d, h => by
    simp only [madeAt] at h
    obtain ⟨s', h'⟩ := madeAt_mem h; exact ⟨s', by simp [h']⟩
theorem InR.made {t k k1 : Nat} {ws : List W} (h : InR t k k1 ws) {d : Slot} (hd : d ∈ madeAt ws) : ∃ j, k ≤ j ∧ j < k1 ∧ d = 64 * t + j := by
  obtain ⟨s, hs⟩ := madeAt_mem hd
  exact (h.1 _ hs).1
theorem InR.append {t k k1 k2 : Nat} {ws ws' : List W} (h : InR t k k1 ws) (h' : InR t k1 k2 ws') (hk : k ≤ k1) (hk' : k1 ≤ k2) : InR t k k2 (ws ++ ws') := by
  refine ⟨fun w hw => ?_, ?_⟩
  · rcases List.mem_append.1 hw with hw | hw
    · have := h.1 w hw
      cases w with
      | o d s => obtain ⟨⟨j, a, b, c⟩, e⟩ := this; exact ⟨⟨j, a, by omega, c⟩, e⟩
      | f d b => obtain ⟨e, j, a, b, c⟩ := this; exact ⟨e, j, a, by omega, c⟩
      | t => exact this
    · have := h'.1 w hw
      cases w with
      | o d s => obtain ⟨⟨j, a, b, c⟩, e⟩ := this; exact ⟨⟨j, by omega, b, c⟩, e⟩
      | f d b => obtain ⟨e, j, a, b, c⟩ := this; exact ⟨e, j, by omega, b, c⟩
      | t => exact this
  · rw [madeAt_append]
    refine List.nodup_append.2 ⟨h.2, h'.2, fun a ha b hb e => ?_⟩
    obtain ⟨j, _, h1, e1⟩ := h.made ha
    obtain ⟨j', h2, _, e2⟩ := h'.made hb
    have h3 : (64 * t + j : Nat) = 64 * t + j' := e1.symm.trans (e.trans e2)
    omega
theorem OsOK.append {t k k1 k2 : Nat} {os os' : List (Nat × List Slot × TO)} (h : OsOK t k k1 os) (h' : OsOK t k1 k2 os') (hk : k ≤ k1) (hk' : k1 ≤ k2) : OsOK t k k2 (os ++ os') := by
  refine ⟨fun w hw => ?_, ?_⟩
  · rcases List.mem_append.1 hw with hw | hw
    · obtain ⟨⟨j, a, b, c⟩, e⟩ := h.1 w hw; exact ⟨⟨j, a, by omega, c⟩, e⟩
    · obtain ⟨⟨j, a, b, c⟩, e⟩ := h'.1 w hw; exact ⟨⟨j, by omega, b, c⟩, e⟩
  · rw [List.map_append]
    refine List.nodup_append.2 ⟨h.2, h'.2, fun a ha b hb e => ?_⟩
    obtain ⟨p, hp, rfl⟩ := List.mem_map.1 ha
    obtain ⟨p', hp', rfl⟩ := List.mem_map.1 hb
    obtain ⟨⟨j, _, h1, e1⟩, _⟩ := h.1 p hp
    obtain ⟨⟨j', h2, _, e2⟩, _⟩ := h'.1 p' hp'
    omega

section
variable {σ : State} {K : List Key} {t : Nat}
theorem mapI_append (g : Nat → AV → R (AV × List W × Nat)) : ∀ {a b x y : List AV} {k k1 k2 : Nat} {w1 w2 : List W}, Does (mapI g k a) σ (x, w1, k1) K → Does (mapI g k1 b) σ (y, w2, k2) K → Does (mapI g k (a ++ b)) σ (x ++ y, w1 ++ w2, k2) K
  | [], b, x, y, k, k1, k2, w1, w2, h, h' => by
    have := h.1
    simp only [mapI, R.run_ret, Option.some.injEq, Prod.mk.injEq] at this
    obtain ⟨rfl, rfl, rfl⟩ := this
    exact h'
  | a :: as, b, x, y, k, k1, k2, w1, w2, h, h' => by
    have h1 := h.1
    have h2 := h.2
    simp only [mapI, R.run_bind] at h1
    cases ha : (g k a).run σ with
    | none => simp [ha] at h1
    | some p =>
      cases hb : (mapI g p.2.2 as).run σ with
      | none => simp [ha, hb] at h1
      | some q =>
        simp only [ha, hb, Option.bind_some, R.run_ret, Option.some.injEq, Prod.mk.injEq] at h1
        obtain ⟨rfl, rfl, rfl⟩ := h1
        have f1 : ∀ z ∈ (g k a).foot σ, z ∈ K := fun z hz => h2 z (by simp only [mapI]; rw [R.foot_bind]; exact List.mem_append_left _ hz)
        have f2 : ∀ z ∈ (mapI g p.2.2 as).foot σ, z ∈ K := fun z hz => h2 z (by simp only [mapI]; rw [R.foot_bind, ha]; refine List.mem_append_right _ ?_; simp only; rw [R.foot_bind]; exact List.mem_append_left _ hz)
        have := mapI_append g (a := as) (x := q.1) (w1 := q.2.1) (k := p.2.2) (k1 := q.2.2) ⟨hb, f2⟩ h'
        simp only [List.cons_append, mapI]
        refine Does.bind (a := p) ⟨ha, f1⟩ (Does.bind this ?_)
        rw [List.append_assoc]
        exact Does.ret _
theorem impR_leaf {f k : Nat} {a : AV} (h : a.leaf = true) (hs : ∀ w xs, a ≠ .sl w xs) : Does (impR t (f + 1) k a) σ (a, [], k) K := by
  cases a <;> first | (simp [AV.leaf] at h; done) | (simp only [impR]; exact Does.ret _) | exact absurd rfl (hs _ _)
theorem mapI_leaf {f k : Nat} : ∀ {as : List AV}, (∀ a ∈ as, a.leaf = true ∧ ∀ w xs, a ≠ .sl w xs) → Does (mapI (impR t (f + 1)) k as) σ (as, [], k) K
  | [], _ => Does.ret _
  | a :: as, h => by
    simp only [mapI]
    exact Does.bind (impR_leaf (h a (by simp)).1 (h a (by simp)).2) (Does.bind (mapI_leaf (fun x hx => h x (by simp [hx]))) (Does.ret _))
theorem mapI_one {g : Nat → AV → R (AV × List W × Nat)} {a b : AV} {k k1 : Nat} {ws : List W} (h : Does (g k a) σ (b, ws, k1) K) : Does (mapI g k [a]) σ ([b], ws, k1) K := by
  simp only [mapI]
  exact Does.bind h (Does.bind (Does.ret ([], [], k1)) (by simp; exact Does.ret _))
theorem Ty.flat_cells : ∀ (t : Ty) (x : t.D), t.flat = true → ∀ a ∈ t.cells x, ∀ w xs, a ≠ .sl w xs
  | .int _, _, _ => by simp [Ty.cells]
  | .bool, _, _ => by simp [Ty.cells]
  | .str, _, _ => by simp [Ty.cells]
  | .list _, _, h => by simp [Ty.flat] at h
  | .st b, x, h => by
    have h' : b.flat = true := by simpa [Ty.flat] using h
    exact b.flat_cells x h'
  | .pair a b, x, h => by
    simp only [Ty.flat, Bool.and_eq_true] at h
    intro y hy
    simp only [Ty.cells, List.mem_append] at hy
    rcases hy with hy | hy
    · exact a.flat_cells _ h.1 y hy
    · exact b.flat_cells _ h.2 y hy
  | .arr n e, l, h => by
    have h' : e.flat = true := by simpa [Ty.flat] using h
    intro y hy
    simp only [Ty.cells, List.mem_flatten, List.mem_map] at hy
    obtain ⟨_, ⟨z, _, rfl⟩, hy⟩ := hy
    exact e.flat_cells z h' y hy

theorem impC_le {mn : Bool} {k k1 : Nat} {r : RK} {pl rest : List DP} {c : TC} {os : List (Nat × List Slot × TO)} (hi : impC t mn k r pl = some (c, os, k1, rest)) : k1 = k + countL [r] := by
  unfold impC at hi
  split at hi
  · split at hi
    · simp only [Option.some.injEq, Prod.mk.injEq] at hi; simp [countL, hi.2.2.1]
    · cases hi
  · split at hi
    · simp only [Option.some.injEq, Prod.mk.injEq] at hi; simp [countL, hi.2.2.1]
    · cases hi
  · split at hi
    · simp only [Option.some.injEq, Prod.mk.injEq] at hi; simp [countL, hi.2.2.1]
    · cases hi
  · cases hi
theorem countL_cons (r : RK) (ks : List RK) : countL (r :: ks) = countL [r] + countL ks := by
  cases r <;> simp [countL] <;> omega
theorem impL_le {mn : Bool} : ∀ {ks : List RK} {k k1 : Nat} {pl rest : List DP} {cs : List TC} {os : List (Nat × List Slot × TO)}, impL t mn k ks pl = some (cs, os, k1, rest) → k1 = k + countL ks
  | [], k, k1, pl, rest, cs, os, hi => by
    simp only [impL, Option.some.injEq, Prod.mk.injEq] at hi
    simp [countL, hi.2.2.1]
  | r :: ks, k, k2, pl, rest, cs, os, hi => by
    simp only [impL] at hi
    split at hi
    · rename_i c o k1 l1 e1
      split at hi
      · rename_i cs' os' k2' l2 e2
        simp only [Option.some.injEq, Prod.mk.injEq] at hi
        obtain ⟨rfl, rfl, rfl, rfl⟩ := hi
        rw [countL_cons, impL_le e2, impC_le e1]
        omega
      · cases hi
    · cases hi

theorem impC_ok {f k k1 : Nat} {mn strict : Bool} {r : RK} {p : DP} {pl rest : List DP} {as : List AV} {c : TC} {os : List (Nat × List Slot × TO)} (hi : impC t mn k r (p :: pl) = some (c, os, k1, rest)) (hr : KR strict r p as) (hs : strict = true ∨ mn = true)
    (hk : ∀ j, k ≤ j → j < k1 → Key.o (64 * t + j) ∈ K) :
    rest = pl ∧ k ≤ k1 ∧ ∃ bs ws, Does (mapI (impR t (f + 1)) k as) σ (bs, ws, k1) K ∧ InR t k k1 ws ∧ OsOK t k k1 os ∧ (∀ b ∈ bs, b.one = true) ∧ Come os ws fun τ' σ' m' => RC τ' σ' m' c bs := by
  cases r with
  | v ty =>
    obtain ⟨x, rfl, rfl⟩ := hr
    simp only [impC] at hi
    split at hi
    · rename_i hh
      simp only [Option.some.injEq, Prod.mk.injEq] at hi
      obtain ⟨rfl, rfl, rfl, rfl⟩ := hi
      refine ⟨rfl, Nat.le_refl _, ty.cells x, [], mapI_leaf fun a ha => ⟨ty.cells_leaf x a ha, ty.flat_cells x hh.2 a ha⟩, .nil, .nil, fun b hb => AV.leaf_one (ty.cells_leaf x b hb), fun τ' σ' m' _ _ => ⟨rfl, by simp⟩⟩
    · cases hi
  | lst e =>
    obtain ⟨l, rfl, a, rfl, ha⟩ := hr
    simp only [impC] at hi
    simp only [if_true, Option.some.injEq, Prod.mk.injEq] at hi
    obtain ⟨rfl, rfl, rfl, rfl⟩ := hi
    refine ⟨rfl, by omega, ?_⟩
    rcases ha with rfl | rfl | ⟨_, rfl, rfl⟩
    · refine ⟨[.sl e.width (l.map e.enc)], [], mapI_one (by simp only [impR]; exact Does.ret _), .nil, .nil, by simp [AV.one], fun τ' σ' m' _ _ => ⟨⟨_, rfl, .inl rfl⟩, by simp⟩⟩
    · refine ⟨[_], _, mapI_one (by simp only [impR]; exact Does.getO (hk k (Nat.le_refl _) (by omega)) (Does.ret _)), ⟨?_, ?_⟩, .nil, by simp [AV.one], fun τ' σ' m' hw _ => ⟨⟨_, rfl, .inr (.inr ⟨64 * t + k, by simp, (σ.getO (64 * t + k)).st + 1, _, 0, _, _, show σ'.getO _ = _ from hw (.o _ _) List.mem_cons_self, Nat.le_refl _, Nat.le_of_eq (Nat.zero_add _), by rw [List.drop_zero, List.take_length], by simp⟩)⟩, by simp⟩⟩
      · intro w hw
        simp only [List.mem_cons, List.not_mem_nil, or_false] at hw
        rcases hw with rfl | rfl
        · exact ⟨⟨k, Nat.le_refl _, by omega, rfl⟩, rfl⟩
        · exact ⟨rfl, k, Nat.le_refl _, by omega, rfl⟩
      · simp [madeAt]
    · exact ⟨[.nil], [], mapI_one (by simp only [impR]; exact Does.ret _), .nil, .nil, by simp [AV.one], fun τ' σ' m' _ _ => ⟨⟨_, rfl, .inr (.inl ⟨rfl, rfl⟩)⟩, by simp⟩⟩
  | own e =>
    obtain ⟨l, rfl, a, rfl, ha⟩ := hr
    simp only [impC] at hi
    simp only [if_true, Option.some.injEq, Prod.mk.injEq] at hi
    obtain ⟨rfl, rfl, rfl, rfl⟩ := hi
    have hos : OsOK t k (k + 1) [(64 * t + k, [64 * t + k], TO.sl e l (if mn = true then none else some l.length) false false)] := ⟨by
      intro p hp
      simp only [List.mem_cons, List.not_mem_nil, or_false] at hp
      subst hp
      exact ⟨⟨k, Nat.le_refl _, by omega, rfl⟩, rfl⟩, by simp⟩
    refine ⟨rfl, by omega, ?_⟩
    rcases ha with rfl | ⟨hst, rfl, rfl⟩
    · refine ⟨[_], _, mapI_one (by simp only [impR]; exact Does.getO (hk k (Nat.le_refl _) (by omega)) (Does.ret _)), ⟨?_, ?_⟩, hos, by simp [AV.one], fun τ' σ' m' hw ho => ?_⟩
      · intro w hw
        simp only [List.mem_cons, List.not_mem_nil, or_false] at hw
        rcases hw with rfl | rfl
        · exact ⟨⟨k, Nat.le_refl _, by omega, rfl⟩, rfl⟩
        · exact ⟨rfl, k, Nat.le_refl _, by omega, rfl⟩
      · simp [madeAt]
      · have h1 : σ'.getO (64 * t + k) = _ := hw _ List.mem_cons_self
        have h2 : σ'.getF (64 * t + k) = false := hw (.f (64 * t + k) false) (by simp)
        obtain ⟨ho1, ho2⟩ := ho _ List.mem_cons_self
        simp only at ho1 ho2
        have hsl : SlR σ' (64 * t + k) e l (if mn = true then none else some l.length) false := ⟨⟨_, _, h1, by simp, fun c' hc => by
          split at hc
          · cases hc
          · simp at hc; simp [hc]⟩, fun _ => h2⟩
        refine ⟨⟨_, rfl, e, l, _, false, false, ho1, .inl ⟨by rw [ho2]; exact hsl, by simp only [ho2, h1, List.length_map]⟩⟩, ?_⟩
        intro p hp
        simp only [List.mem_cons, List.not_mem_nil, or_false] at hp
        subst hp
        exact ⟨.inl hsl, fun h => by cases h⟩
    · have hmn : mn = true := by
        rcases hs with h | h
        · rw [h] at hst; cases hst
        · exact h
      refine ⟨[.nil], [], mapI_one (by simp only [impR]; exact Does.ret _), .nil, hos, by simp [AV.one], fun τ' σ' m' _ ho => ?_⟩
      obtain ⟨ho1, ho2⟩ := ho _ List.mem_cons_self
      refine ⟨⟨_, rfl, e, [], _, false, false, ho1, .inr ⟨hmn, rfl, rfl, by simp⟩⟩, ?_⟩
      intro p hp
      simp only [List.mem_cons, List.not_mem_nil, or_false] at hp
      subst hp
      exact ⟨.inr ⟨rfl, rfl⟩, fun h => by cases h⟩

theorem Come.append {os os' : List (Nat × List Slot × TO)} {ws ws' : List W} {f g : TState → State → (Nat → Slot) → Prop} (h : Come os ws f) (h' : Come os' ws' g) : Come (os ++ os') (ws ++ ws') fun τ σ m => f τ σ m ∧ g τ σ m := by
  intro τ' σ' m' hw ho
  obtain ⟨a, b⟩ := h τ' σ' m' (fun w h => hw w (by simp [h])) (fun p h => ho p (by simp [h]))
  obtain ⟨c, d⟩ := h' τ' σ' m' (fun w h => hw w (by simp [h])) (fun p h => ho p (by simp [h]))
  exact ⟨⟨a, c⟩, fun p hp => (List.mem_append.1 hp).elim (b p) (d p)⟩
theorem Come.imp {os : List (Nat × List Slot × TO)} {ws : List W} {f g : TState → State → (Nat → Slot) → Prop} (h : Come os ws f) (k : ∀ τ σ m, f τ σ m → g τ σ m) : Come os ws g := fun τ' σ' m' hw ho => ⟨k _ _ _ (h τ' σ' m' hw ho).1, (h τ' σ' m' hw ho).2⟩

theorem impL_ok {f : Nat} {mn strict : Bool} (hs : strict = true ∨ mn = true) : ∀ {ks : List RK} {k k1 : Nat} {pl pl0 rest0 rest : List DP} {as : List AV} {cs : List TC} {os : List (Nat × List Slot × TO)}, impL t mn k ks pl = some (cs, os, k1, rest) → pl = pl0 ++ rest0 → KRs strict ks pl0 as →
    (∀ j, k ≤ j → j < k1 → Key.o (64 * t + j) ∈ K) →
    rest = rest0 ∧ k ≤ k1 ∧ ∃ bs ws, Does (mapI (impR t (f + 1)) k as) σ (bs, ws, k1) K ∧ InR t k k1 ws ∧ OsOK t k k1 os ∧ (∀ b ∈ bs, b.one = true) ∧ Come os ws fun τ' σ' m' => RCs τ' σ' m' cs bs
  | [], k, k1, pl, pl0, rest0, rest, as, cs, os, hi, hp, hr, _ => by
    simp only [impL, Option.some.injEq, Prod.mk.injEq] at hi
    obtain ⟨rfl, rfl, rfl, rfl⟩ := hi
    obtain ⟨rfl, rfl⟩ := hr
    exact ⟨hp, Nat.le_refl _, [], [], Does.ret _, .nil, .nil, by simp, fun τ' σ' m' _ _ => ⟨rfl, by simp⟩⟩
  | r :: ks, k, k2, pl, pl0, rest0, rest, as, cs, os, hi, hp, ⟨p, pr, q, s, hpl, has, h1, h2⟩, hk => by
    subst hpl
    subst has
    subst hp
    simp only [impL, List.cons_append] at hi
    split at hi
    · rename_i c o k1 l1 e1
      split at hi
      · rename_i cs' os' k2' l2 e2
        simp only [Option.some.injEq, Prod.mk.injEq] at hi
        obtain ⟨rfl, rfl, rfl, rfl⟩ := hi
        have hle : k ≤ k1 := by rw [impC_le e1]; omega
        have hle2 : k1 ≤ k2' := by rw [impL_le e2]; omega
        obtain ⟨rfl, _, bs, ws, d1, d2, d3, d4, d5⟩ := impC_ok (σ := σ) (K := K) (f := f) e1 h1 hs (fun j a b => hk j a (by omega))
        obtain ⟨rfl, _, bs', ws', g1, g2, g3, g4, g5⟩ := impL_ok hs (f := f) e2 rfl h2 (fun j a b => hk j (by omega) b)
        refine ⟨rfl, by omega, bs ++ bs', ws ++ ws', mapI_append _ d1 g1, d2.append g2 hle hle2, d3.append g3 hle hle2, fun b hb => ?_, (d5.append g5).imp fun τ' σ' m' h => ⟨bs, bs', rfl, h.1, h.2⟩⟩
        rcases List.mem_append.1 hb with hb | hb
        · exact d4 b hb
        · exact g4 b hb
      · cases hi
    · cases hi
end
end Go.Vm
/- Arguments and results of a function; how a result is taken in. -/
namespace Go.Vm

/-- Variables captured by value. -/
def roRs : List Ty → List DP → List AV → Prop
  | [], p, as => p = [] ∧ as = []
  | t :: ts, p, as => ∃ (x : t.D) (pr : List DP) (fs r as' : List AV), p = ⟨.ty t, x⟩ :: pr ∧ as = .ro (fs ++ r) :: as' ∧ RC.RpL (t.tcs x) fs ∧ roRs ts pr as'

/-- An argument. -/
def AR : AT → List DP → AV → Prop
  | .val t, p, a => ∃ x : t.D, p = [⟨.ty t, x⟩] ∧ a = t.enc x
  | .io cin _, p, a => ∃ as, a = .inout as ∧ KRs false cin p as
  | .own e _, p, a => ∃ l : List e.D, p = [dpl e l] ∧ a = .fresh e.width (l.map e.enc)
  | .oagg ks, p, a => ∃ as, a = .agg as ∧ KRs true ks p as
  | .ro t, p, a => roRs [t] p [a]
  | .fn g fs cs, p, a => ∃ x y p1 p2, p = p1 ++ p2 ∧ a = .fn g x y ∧ roRs fs p1 x ∧ roRs cs p2 y
def ARs : List AT → List DP → List AV → Prop
  | [], p, as => p = [] ∧ as = []
  | t :: ts, p, as => ∃ p1 p2 a as', p = p1 ++ p2 ∧ as = a :: as' ∧ AR t p1 a ∧ ARs ts p2 as'

/-- A result. -/
def RR : RTag → List RK → List DP → AV → Prop
  | .one, ks, p, a => KRs true ks p [a]
  | .agg, ks, p, a => ∃ as, a = .agg as ∧ KRs true ks p as
  | .ptr, ks, p, a => ∃ as, a = .inout as ∧ KRs false ks p as
def RRs : List (RTag × List RK) → List DP → List AV → Prop
  | [], p, as => p = [] ∧ as = []
  | t :: ts, p, as => ∃ p1 p2 a as', p = p1 ++ p2 ∧ as = a :: as' ∧ RR t.1 t.2 p1 a ∧ RRs ts p2 as'
/-- What comes back of an argument. -/
def BR : AT → AV → List DP → Option AV → Prop
  | .io _ cout, _, p, b => ∃ as, b = some (.inout as) ∧ KRs false cout p as
  | .own e true, a, p, b => ∃ l l0 : List e.D, p = [dpl e l] ∧ b = some (.fresh e.width (l.map e.enc)) ∧ a = .fresh e.width (l0.map e.enc) ∧ l.length = l0.length
  | _, _, p, b => p = [] ∧ b = none
def BRs : List AT → List AV → List DP → List (Option AV) → Prop
  | [], as, p, bs => p = [] ∧ bs = [] ∧ as = []
  | t :: ts, as, p, bs => ∃ a as' p1 p2 b bs', as = a :: as' ∧ p = p1 ++ p2 ∧ bs = b :: bs' ∧ BR t a p1 b ∧ BRs ts as' p2 bs'

/-- The function, called with such arguments, answers so. -/
def FnOK (o : Oracle) (g : Nat) (F : FnT) : Prop :=
  ∀ (x : pd F.sig.apt) (y : pd F.sig.rpt) (args : List AV), ARs F.sig.args (pd.to _ x) args → F.f x = some y →
    ∃ vs bs p1 p2, o (.call g args) = some (.res ⟨tupA vs, bs⟩) ∧ pd.to _ y = p1 ++ p2 ∧ RRs F.sig.res p1 vs ∧ BRs F.sig.args args p2 bs

section
variable {σ : State} {K : List Key} {t : Nat}
theorem mapI_single {g : Nat → AV → R (AV × List W × Nat)} {a : AV} {bs : List AV} {k k1 : Nat} {ws : List W} (h : Does (mapI g k [a]) σ (bs, ws, k1) K) : ∃ b, bs = [b] ∧ Does (g k a) σ (b, ws, k1) K := by
  have h1 := h.1
  have h2 := h.2
  simp only [mapI, R.run_bind] at h1
  cases ha : (g k a).run σ with
  | none => simp [ha] at h1
  | some p =>
    simp only [ha, Option.bind_some, R.run_ret, Option.some.injEq, Prod.mk.injEq, List.append_nil] at h1
    obtain ⟨rfl, rfl, rfl⟩ := h1
    exact ⟨p.1, rfl, ha, fun z hz => h2 z (by simp only [mapI]; rw [R.foot_bind]; exact List.mem_append_left _ hz)⟩

/-- One result. -/
theorem RR.imp {f k k1 : Nat} {ag : RTag} {ks : List RK} {pl pl0 rest0 rest : List DP} {a : AV} {c : List TC} {o : List (Nat × List Slot × TO)}
    (hi : impL t (ag = .ptr) (if ag = .ptr then k + 1 else k) ks pl = some (c, o, k1, rest)) (hp : pl = pl0 ++ rest0) (hr : RR ag ks pl0 a) (hk : ∀ j, k ≤ j → j < k1 → Key.o (64 * t + j) ∈ K) :
    rest = rest0 ∧ k ≤ k1 ∧ ∃ b ws, Does (impR t (f + 2) k a) σ (b, ws, k1) K ∧ InR t k k1 ws ∧
      match ag with
      | .ptr => OsOK t k k1 ((64 * t + k, [64 * t + k], .var true c false false) :: o) ∧ Come ((64 * t + k, [64 * t + k], .var true c false false) :: o) ws fun τ' σ' m' => RT τ' σ' m' (.c (.vref (64 * t + k) 0)) b
      | .agg => OsOK t k k1 o ∧ Come o ws fun τ' σ' m' => RT τ' σ' m' (.agg c) b
      | .one => OsOK t k k1 o ∧ Come o ws fun τ' σ' m' => RCs τ' σ' m' c [b] := by
  cases ag with
  | one =>
    simp only [reduceCtorEq, decide_false, if_false] at hi
    obtain ⟨e1, e2, bs, ws, d1, d2, d3, d4, d5⟩ := impL_ok (σ := σ) (K := K) (f := f + 1) (strict := true) (.inl rfl) hi hp hr hk
    obtain ⟨b, rfl, d1'⟩ := mapI_single d1
    exact ⟨e1, e2, b, ws, d1', d2, d3, d5⟩
  | agg =>
    simp only [reduceCtorEq, decide_false, if_false] at hi
    obtain ⟨as, rfl, hr⟩ := hr
    obtain ⟨e1, e2, bs, ws, d1, d2, d3, d4, d5⟩ := impL_ok (σ := σ) (K := K) (f := f) (strict := true) (.inl rfl) hi hp hr hk
    refine ⟨e1, e2, .agg bs, ws, ?_, d2, d3, d5.imp fun τ' σ' m' h => ⟨bs, rfl, h⟩⟩
    simp only [impR]
    exact Does.bind d1 (Does.ret _)
  | ptr =>
    simp only [decide_true, if_true] at hi
    obtain ⟨as, rfl, hr⟩ := hr
    have hle := impL_le hi
    obtain ⟨e1, e2, bs, ws, d1, d2, d3, d4, d5⟩ := impL_ok (σ := σ) (K := K) (f := f) (strict := false) (.inr rfl) hi hp hr (fun j a b => hk j (by omega) b)
    have hin : InR t k (k + 1) [.o (64 * t + k) ⟨(σ.getO (64 * t + k)).st + 1, some ⟨bs.length, [.agg bs], true, 1⟩⟩, .f (64 * t + k) false] := by
      refine ⟨fun w hw => ?_, by simp [madeAt]⟩
      simp only [List.mem_cons, List.not_mem_nil, or_false] at hw
      rcases hw with rfl | rfl
      · exact ⟨⟨k, Nat.le_refl _, by omega, rfl⟩, rfl⟩
      · exact ⟨rfl, k, Nat.le_refl _, by omega, rfl⟩
    have hos : OsOK t k (k + 1) [(64 * t + k, [64 * t + k], TO.var true c false false)] := ⟨by
      intro p hp
      simp only [List.mem_cons, List.not_mem_nil, or_false] at hp
      subst hp
      exact ⟨⟨k, Nat.le_refl _, by omega, rfl⟩, rfl⟩, by simp⟩
    refine ⟨e1, by omega, .ref (64 * t + k) ((σ.getO (64 * t + k)).st + 1) 0 0, .o (64 * t + k) ⟨(σ.getO (64 * t + k)).st + 1, some ⟨bs.length, [.agg bs], true, 1⟩⟩ :: .f (64 * t + k) false :: ws, ?_, hin.append d2 (by omega) e2, hos.append d3 (by omega) e2, ?_⟩
    · simp only [impR]
      exact Does.getO (hk k (Nat.le_refl _) (by omega)) (Does.bind d1 (Does.ret _))
    · intro τ' σ' m' hw ho
      obtain ⟨q1, q2⟩ := d5 τ' σ' m' (fun w h => hw w (by simp [h])) (fun p h => ho p (by simp [h]))
      have h1 : σ'.getO (64 * t + k) = _ := hw _ List.mem_cons_self
      have h2 : σ'.getF (64 * t + k) = false := hw (.f (64 * t + k) false) (by simp)
      obtain ⟨ho1, ho2⟩ := ho _ List.mem_cons_self
      simp only at ho1 ho2
      refine ⟨⟨⟨_, _, _, _, ho1⟩, by rw [ho2, h1]⟩, fun p hp => ?_⟩
      simp only [List.mem_cons] at hp
      rcases hp with rfl | hp
      · exact ⟨⟨_, _, _, _, h1, ⟨bs, rfl, q1⟩, fun h => by cases h⟩, fun _ => h2, fun h => by cases h⟩
      · exact q2 p hp

theorem impRs_le : ∀ {rs : List (RTag × List RK)} {k k1 : Nat} {pl rest : List DP} {vs : List (Bool × List TC)} {os : List (Nat × List Slot × TO)}, impRs t k rs pl = some (vs, os, k1, rest) → k1 = k + (rs.map fun p => countL p.2 + (if p.1 = .ptr then 1 else 0)).sum
  | [], k, k1, pl, rest, vs, os, hi => by
    simp only [impRs, Option.some.injEq, Prod.mk.injEq] at hi
    simp [hi.2.2.1]
  | (ag, ks) :: rs, k, k1, pl, rest, vs, os, hi => by
    simp only [impRs] at hi
    split at hi
    · rename_i c o ka l1 e1
      split at hi
      · rename_i cs' os' k2' l2 e2
        have h1 := impL_le e1
        have h2 := impRs_le e2
        have : k1 = k2' := by
          split at hi
          · simp only [Option.some.injEq, Prod.mk.injEq] at hi; exact hi.2.2.1.symm
          · simp only [Option.some.injEq, Prod.mk.injEq] at hi; exact hi.2.2.1.symm
          · split at hi
            · simp only [Option.some.injEq, Prod.mk.injEq] at hi; exact hi.2.2.1.symm
            · cases hi
        simp only [List.map_cons, List.sum_cons]
        rw [this, h2, h1]
        split <;> omega
      · cases hi
    · cases hi

theorem impRs_ok {f : Nat} : ∀ {rs : List (RTag × List RK)} {k k1 : Nat} {pl pl0 rest0 rest : List DP} {as : List AV} {vs : List (Bool × List TC)} {os : List (Nat × List Slot × TO)}, impRs t k rs pl = some (vs, os, k1, rest) → pl = pl0 ++ rest0 → RRs rs pl0 as →
    (∀ j, k ≤ j → j < k1 → Key.o (64 * t + j) ∈ K) →
    rest = rest0 ∧ k ≤ k1 ∧ ∃ bs ws, Does (mapI (impR t (f + 2)) k as) σ (bs, ws, k1) K ∧ (bs.length = vs.length ∧ as.length = vs.length) ∧ InR t k k1 ws ∧ OsOK t k k1 os ∧ Come os ws fun τ' σ' m' => ∀ (j : Nat) (p : Bool × List TC) (u : AV), vs[j]? = some p → bs[j]? = some u → RX τ' σ' m' p.1 p.2 u
  | [], k, k1, pl, pl0, rest0, rest, as, vs, os, hi, hp, hr, _ => by
    simp only [impRs, Option.some.injEq, Prod.mk.injEq] at hi
    obtain ⟨rfl, rfl, rfl, rfl⟩ := hi
    obtain ⟨rfl, rfl⟩ := hr
    exact ⟨hp, Nat.le_refl _, [], [], Does.ret _, ⟨rfl, rfl⟩, .nil, .nil, fun τ' σ' m' _ _ => ⟨by simp, by simp⟩⟩
  | (ag, ks) :: rs, k, k1, pl, pl0, rest0, rest, as, vs, os, hi, hp, ⟨p1, p2, a, as', hpl, has, h1, h2⟩, hk => by
    subst hpl
    subst has
    have hk1 := impRs_le hi
    simp only [impRs] at hi
    split at hi
    · rename_i c o ka l1 e1
      split at hi
      · rename_i cs' os' k2' l2 e2
        have hk2 := impRs_le e2
        have fin : k1 = k2' ∧ rest = l2 := by
          split at hi
          · simp only [Option.some.injEq, Prod.mk.injEq] at hi; exact ⟨hi.2.2.1.symm, hi.2.2.2.symm⟩
          · simp only [Option.some.injEq, Prod.mk.injEq] at hi; exact ⟨hi.2.2.1.symm, hi.2.2.2.symm⟩
          · split at hi
            · simp only [Option.some.injEq, Prod.mk.injEq] at hi; exact ⟨hi.2.2.1.symm, hi.2.2.2.symm⟩
            · cases hi
        obtain ⟨rfl, rfl⟩ := fin
        obtain ⟨rfl, hle, b, ws, d1, d2, d3⟩ := RR.imp (σ := σ) (K := K) (f := f) e1 (by rw [hp, List.append_assoc]) h1 (fun j x y => hk j x (by omega))
        obtain ⟨rfl, hle2, bs', ws', g1, g2, g3, g4, g5⟩ := impRs_ok (f := f) e2 rfl h2 (fun j x y => hk j (by omega) y)
        have hd : Does (mapI (impR t (f + 2)) k (a :: as')) σ (b :: bs', ws ++ ws', k1) K := mapI_append _ (a := [a]) (mapI_one d1) g1
        have step : ∀ {q : Bool × List TC} {o1 : List (Nat × List Slot × TO)}, OsOK t k ka o1 → Come o1 ws (fun τ' σ' m' => RX τ' σ' m' q.1 q.2 b) → vs = q :: cs' → os = o1 ++ os' →
            rest = rest ∧ k ≤ k1 ∧ ∃ bs ws, Does (mapI (impR t (f + 2)) k (a :: as')) σ (bs, ws, k1) K ∧ (bs.length = vs.length ∧ (a :: as').length = vs.length) ∧ InR t k k1 ws ∧ OsOK t k k1 os ∧ Come os ws fun τ' σ' m' => ∀ (j : Nat) (p : Bool × List TC) (u : AV), vs[j]? = some p → bs[j]? = some u → RX τ' σ' m' p.1 p.2 u := by
          intro q o1 r1 r2 r3 r4
          subst r3 r4
          refine ⟨rfl, by omega, b :: bs', ws ++ ws', hd, by simp [g2.1, g2.2], d2.append g3 hle hle2, r1.append g4 hle hle2, (r2.append g5).imp fun τ' σ' m' h j p u e3 e4 => ?_⟩
          cases j with
          | zero =>
            simp only [List.getElem?_cons_zero, Option.some.injEq] at e3 e4
            subst e3 e4
            exact h.1
          | succ j =>
            simp only [List.getElem?_cons_succ] at e3 e4
            exact h.2 j p u e3 e4
        cases ag with
        | ptr =>
          simp only [Option.some.injEq, Prod.mk.injEq] at hi
          exact step (q := (false, [.vref (64 * t + k) 0])) d3.1 (d3.2.imp fun τ' σ' m' h => ⟨⟨_, rfl⟩, RCs.single.2 h⟩) hi.1.symm hi.2.1.symm
        | agg =>
          simp only [Option.some.injEq, Prod.mk.injEq] at hi
          exact step (q := (true, c)) d3.1 (d3.2.imp fun τ' σ' m' h => h) hi.1.symm hi.2.1.symm
        | one =>
          simp only at hi
          split at hi
          · rename_i x
            simp only [Option.some.injEq, Prod.mk.injEq] at hi
            exact step (q := (false, [x])) d3.1 (d3.2.imp fun τ' σ' m' h => ⟨⟨_, rfl⟩, h⟩) hi.1.symm hi.2.1.symm
          · cases hi
      · cases hi
    · cases hi

/-- The whole result. -/
theorem res_ok {f : Nat} {rs : List (RTag × List RK)} {k1 : Nat} {pl pl0 rest0 rest : List DP} {as : List AV} {vs : List (Bool × List TC)} {os : List (Nat × List Slot × TO)} {tv : TV} (hi : impRs t 0 rs pl = some (vs, os, k1, rest)) (hp : pl = pl0 ++ rest0) (hr : RRs rs pl0 as) (ht : tupT vs = some tv)
    (hk : ∀ j, j < k1 → Key.o (64 * t + j) ∈ K) :
    rest = rest0 ∧ ∃ b ws, Does (impR t (f + 3) 0 (tupA as)) σ (b, ws, k1) K ∧ InR t 0 k1 ws ∧ OsOK t 0 k1 os ∧ Come os ws fun τ' σ' m' => RT τ' σ' m' tv b := by
  obtain ⟨e1, _, bs, ws, d1, d2, d3, d4, d5⟩ := impRs_ok (σ := σ) (K := K) (f := f) hi hp hr (fun j _ h => hk j h)
  obtain ⟨_, _, bs1, ws1, g1, g2, g3, g4, g5⟩ := impRs_ok (σ := σ) (K := K) (f := f + 1) hi hp hr (fun j _ h => hk j h)
  have tupC : (∀ v, vs ≠ [v]) → tv = .tup vs → ∃ b ws, Does (impR t (f + 3) 0 (tupA as)) σ (b, ws, k1) K ∧ InR t 0 k1 ws ∧ OsOK t 0 k1 os ∧ Come os ws fun τ' σ' m' => RT τ' σ' m' tv b := by
    intro hn e
    subst e
    have hta : tupA as = .tuple as := by
      have hl : as.length = vs.length := d2.2
      match as, vs, hl with
      | [], _, _ => rfl
      | [_], [v], _ => exact absurd rfl (hn v)
      | _ :: _ :: _, _, _ => rfl
    rw [hta]
    refine ⟨.tuple bs, ws, ?_, d3, d4, d5.imp fun τ' σ' m' h => ⟨bs, rfl, d2.1, h⟩⟩
    simp only [impR]
    exact Does.bind d1 (Does.ret _)
  have oneC : ∀ q, vs = [q] → ∃ b ws, Does (impR t (f + 3) 0 (tupA as)) σ (b, ws, k1) K ∧ InR t 0 k1 ws ∧ OsOK t 0 k1 os ∧ Come os ws fun τ' σ' m' => RX τ' σ' m' q.1 q.2 b := by
    intro q e
    subst e
    have hl : ∃ a, as = [a] := List.length_eq_one_iff.1 d2.2
    obtain ⟨a, rfl⟩ := hl
    obtain ⟨b, rfl, g1'⟩ := mapI_single g1
    exact ⟨b, ws1, g1', g3, g4, g5.imp fun τ' σ' m' h => h 0 q b rfl rfl⟩
  refine ⟨e1, ?_⟩
  unfold tupT at ht
  split at ht
  · rename_i cs
    cases ht
    obtain ⟨b, ws, q1, q2, q3, q4⟩ := oneC _ rfl
    exact ⟨b, ws, q1, q2, q3, q4⟩
  · rename_i c
    cases ht
    obtain ⟨b, ws, q1, q2, q3, q4⟩ := oneC _ rfl
    exact ⟨b, ws, q1, q2, q3, q4.imp fun τ' σ' m' h => RCs.single.1 h.2⟩
  · cases ht
  · rename_i h1 h2 h3
    cases ht
    refine tupC (fun v e => ?_) rfl
    subst e
    obtain ⟨g, c⟩ := v
    cases g with
    | true => exact h1 c rfl
    | false => exact h3 c rfl
end
end Go.Vm
/- What is sent with a call. -/
namespace Go.Vm
section
variable {τ : TState} {σ : State} {m : Nat → Slot} {K : List Key}

structure SendOK (m : Nat → Slot) (τ : TState) (σ : State) (a : AT) (s : SentT) (u : Sent) : Prop where
  ar : AR a s.pl u.a
  pk : ∃ rd, Picks m s.mvN s.mvS u.moved rd ∧ ∀ x ∈ u.read, x ∈ s.rdS ∨ (x ∈ rd ∧ x ∈ s.mrS)
  nm : ∀ n ∈ s.mvN, τ.getO n ≠ none
  ky : ∀ z ∈ nameKeys τ s.mvN ++ s.mvS, z ∈ s.keys
  bk : match a with
    | .io _ _ => ∃ d off n g cs s1, s.back = some (d, off, n) ∧ d ∈ s.mvN ∧ τ.getO d = some (.var g cs false s1) ∧ 0 < n ∧ off + n ≤ widths cs ∧ u.back = .part (m d) (σ.getO (m d)).st 0 off n
    | .own e true => ∃ d l cap s1, s.back = some (d, 0, 0) ∧ d ∈ s.mvN ∧ τ.getO d = some (.sl e l cap false s1) ∧ SlR σ (m d) e l cap false ∧ u.a = .fresh e.width (l.map e.enc) ∧ u.back = .whole (m d) (σ.getO (m d)).st
    | _ => s.back = none ∧ (u.back = .no ∨ ∃ d st, u.back = .whole d st)

theorem take_rpl : ∀ (t : Ty) (cs rest : List TC) (y : t.D) (as : List AV), t.take cs = some (y, rest) → t.aflat = true → RCs τ σ m cs as → (∀ e l ds, TC.lst e l ds ∈ cs → ds = []) →
      ∃ p q, as = p ++ q ∧ RC.RpL (t.tcs y) p ∧ RCs τ σ m rest q ∧ ∀ e l ds, TC.lst e l ds ∈ rest → ds = []
  | .bool, cs, rest, y, as, h, _, hc, hz => by
    obtain ⟨p, q, h1, _, _, h2, h3, _⟩ := Ty.take_ok .bool cs rest y as h hc (.inr rfl)
    refine ⟨p, q, h1, ⟨[], by rw [h2 rfl, List.append_nil], rfl⟩, h3, fun e l ds hm => ?_⟩
    cases cs with
    | nil => simp [Ty.take] at h
    | cons c cs =>
      simp only [Ty.take] at h
      split at h <;> first | (cases h; done) | (cases h; exact hz e l ds (List.mem_cons_of_mem _ hm))
  | .int k, cs, rest, y, as, h, _, hc, hz => by
    obtain ⟨p, q, h1, _, _, h2, h3, _⟩ := Ty.take_ok (.int k) cs rest y as h hc (.inr rfl)
    refine ⟨p, q, h1, ⟨[], by rw [h2 rfl, List.append_nil], rfl⟩, h3, fun e l ds hm => ?_⟩
    cases cs with
    | nil => simp [Ty.take] at h
    | cons c cs =>
      simp only [Ty.take] at h
      split at h
      · split at h
        · cases h; exact hz e l ds (List.mem_cons_of_mem _ hm)
        · cases h
      · cases h
  | .str, cs, rest, y, as, h, _, hc, hz => by
    obtain ⟨p, q, h1, _, _, h2, h3, _⟩ := Ty.take_ok .str cs rest y as h hc (.inr rfl)
    refine ⟨p, q, h1, ⟨[], by rw [h2 rfl, List.append_nil], rfl⟩, h3, fun e l ds hm => ?_⟩
    cases cs with
    | nil => simp [Ty.take] at h
    | cons c cs =>
      simp only [Ty.take] at h
      split at h
      · cases h; exact hz e l ds (List.mem_cons_of_mem _ hm)
      · cases h
  | .list e, cs, rest, y, as, h, _, hc, hz => by
    cases cs with
    | nil => simp [Ty.take] at h
    | cons c cs =>
      simp only [Ty.take] at h
      obtain ⟨p, q, h1, h2, h3⟩ := hc
      split at h
      · rename_i e' l ds
        split at h
        · rename_i he
          subst he
          cases h
          have hds := hz _ _ _ (List.mem_cons_self)
          subst hds
          obtain ⟨a, rfl, h2⟩ := h2
          refine ⟨[a], q, h1, ⟨a, [], rfl, ?_, rfl⟩, h3, fun e l ds hm => hz e l ds (List.mem_cons_of_mem _ hm)⟩
          rcases h2 with h2 | h2 | ⟨s, hs, _⟩
          · exact .inl h2
          · exact .inr h2
          · cases hs
        · cases h
      · cases h
        have : p = [.nil] := h2
        subst this
        exact ⟨[.nil], q, h1, ⟨.nil, [], rfl, .inr ⟨rfl, rfl⟩, rfl⟩, h3, fun e l ds hm => hz e l ds (List.mem_cons_of_mem _ hm)⟩
      · cases h
  | .st b, cs, rest, y, as, h, hf, hc, hz => take_rpl b cs rest y as h hf hc hz
  | .pair a b, cs, rest, y, as, h, hf, hc, hz => by
    simp only [Ty.aflat, Bool.and_eq_true] at hf
    simp only [Ty.take] at h
    split at h
    · rename_i x r e1
      split at h
      · rename_i x2 r2 e2
        cases h
        obtain ⟨p, q, rfl, g1, g2, g3⟩ := take_rpl a cs r x as e1 hf.1 hc hz
        obtain ⟨p', q', rfl, k1, k2, k3⟩ := take_rpl b r _ x2 q e2 hf.2 g2 g3
        exact ⟨p ++ p', q', by rw [List.append_assoc], op_ixA.RpL_append g1 k1, k2, k3⟩
      · cases h
    · cases h
  | .arr n e, cs, rest, y, as, h, hf, hc, hz => by
    have hf' : (Ty.arr n e).flat = true := hf
    obtain ⟨p, q, h1, _, _, h2, h3, _⟩ := Ty.take_ok (.arr n e) cs rest y as h hc (.inr hf')
    refine ⟨p, q, h1, ⟨[], by rw [h2 hf', List.append_nil], rfl⟩, h3, fun e' l ds hm => hz e' l ds ?_⟩
    exact take_sub h _ hm
  where
  rep_sub {α : Type} {f : List TC → Option (α × List TC)} (hf : ∀ cs x r, f cs = some (x, r) → ∀ c ∈ r, c ∈ cs) : ∀ (n : Nat) (cs : List TC) (x : { l : List α // l.length = n }) (r : List TC), repT f n cs = some (x, r) → ∀ c ∈ r, c ∈ cs
    | 0, cs, x, r, h => by simp only [repT] at h; cases h; exact fun _ h => h
    | n + 1, cs, x, r, h => by
      simp only [repT] at h
      split at h
      · rename_i y r1 e1
        split at h
        · rename_i l q e2
          cases h
          exact fun c hc => hf _ _ _ e1 c (rep_sub hf n r1 l _ e2 c hc)
        · cases h
      · cases h
  take_sub : ∀ {t : Ty} {cs rest : List TC} {y : t.D}, t.take cs = some (y, rest) → ∀ c ∈ rest, c ∈ cs
    | .bool, cs, rest, y, h => by
      cases cs with
      | nil => simp [Ty.take] at h
      | cons c cs =>
        simp only [Ty.take] at h
        split at h <;> first | (cases h; done) | (cases h; exact fun c hc => List.mem_cons_of_mem _ hc)
    | .int k, cs, rest, y, h => by
      cases cs with
      | nil => simp [Ty.take] at h
      | cons c cs =>
        simp only [Ty.take] at h
        split at h
        · split at h
          · cases h; exact fun c hc => List.mem_cons_of_mem _ hc
          · cases h
        · cases h
    | .str, cs, rest, y, h => by
      cases cs with
      | nil => simp [Ty.take] at h
      | cons c cs =>
        simp only [Ty.take] at h
        split at h
        · cases h; exact fun c hc => List.mem_cons_of_mem _ hc
        · cases h
    | .list e, cs, rest, y, h => by
      cases cs with
      | nil => simp [Ty.take] at h
      | cons c cs =>
        simp only [Ty.take] at h
        split at h
        · split at h
          · cases h; exact fun c hc => List.mem_cons_of_mem _ hc
          · cases h
        · cases h; exact fun c hc => List.mem_cons_of_mem _ hc
        · cases h
    | .st b, cs, rest, y, h => take_sub (t := b) h
    | .pair a b, cs, rest, y, h => by
      simp only [Ty.take] at h
      split at h
      · rename_i x r e1
        split at h
        · rename_i x2 r2 e2
          cases h
          exact fun c hc => take_sub e1 c (take_sub e2 c hc)
        · cases h
      · cases h
    | .arr n e, cs, rest, y, h => by
      simp only [Ty.take] at h
      split at h
      · split at h
        · cases h; exact fun c hc => List.mem_cons_of_mem _ hc
        · cases h
      · exact rep_sub (fun cs x r h => take_sub h) n _ _ _ h

theorem capPl_ok (h : Rel m τ σ) {f : Nat} : ∀ {ts : List Ty} {cs : List TC} {as : List AV} {pl : List DP} {rd : List Slot}, capPl τ ts cs = some (pl, rd) → as.length = cs.length → (∀ (j : Nat) (c : TC) (u : AV), cs[j]? = some c → as[j]? = some u → RC τ σ m c [u]) → (∀ s ∈ rd, Key.o s ∈ K) →
    ∃ bs r, Does (mapV (valR (f + 2)) as) σ (bs, r) K ∧ roRs ts pl bs ∧ ∀ s ∈ r, s ∈ rd
  | [], [], as, pl, rd, he, hl, _, _ => by
    simp only [capPl, Option.some.injEq, Prod.mk.injEq] at he
    obtain ⟨rfl, rfl⟩ := he
    have : as = [] := List.length_eq_zero_iff.1 hl
    subst this
    exact ⟨[], [], Does.ret _, ⟨rfl, rfl⟩, by simp⟩
  | [], _ :: _, _, _, _, he, _, _, _ => by simp [capPl] at he
  | _ :: _, [], _, _, _, he, _, _, _ => by simp [capPl] at he
  | t :: ts, c :: cs, [], _, _, _, hl, _, _ => by simp at hl
  | t :: ts, c :: cs, a :: as, pl, rd, he, hl, hc, hk => by
    have h0 : RC τ σ m c [a] := hc 0 c a rfl rfl
    have hr : ∀ (j : Nat) (c : TC) (u : AV), cs[j]? = some c → as[j]? = some u → RC τ σ m c [u] := fun j c u h1 h2 => hc (j + 1) c u h1 h2
    have hl' : as.length = cs.length := by simpa using hl
    unfold capPl at he
    split at he
    · rename_i heq _; cases heq
    · rename_i t0 ts0 d off cs0 heq1 heq2
      cases heq1; cases heq2
      split at he
      · rename_i g vs0 fz s1 ho
        split at he
        · rename_i vs1 hd
          split at he
          · rename_i vs2 rd1 hv
            split at he
            · rename_i y l r ht hcp
              split at he
              · rename_i hb
                simp only [Bool.and_eq_true] at hb
                cases he
                obtain ⟨bs, q, g1, g2, g3⟩ := capPl_ok h (f := f) hcp hl' hr (fun s hs => hk s (by simp [hs]))
                obtain ⟨_, h0⟩ := h0
                simp only [List.cons.injEq, and_true] at h0
                subst h0
                obtain ⟨⟨st, e, c, x, k1, k2, k3⟩, k4, k5⟩ := h.ob d _ ho
                have hx : RCs τ σ m vs0 x.cells := by
                  unfold RX at k2
                  cases g with
                  | true => obtain ⟨as, rfl, k2⟩ := k2; exact k2
                  | false =>
                    simp only [Bool.false_eq_true, if_false] at k2
                    rw [AV.plain_cells (k3 rfl)]; exact k2.2
                obtain ⟨hx1, hx2⟩ := hx.dropW hd
                obtain ⟨b1, q1, p1, p2, p3, _⟩ := vals_ok h (f := f) hx1 hv hb.1 (fun s hs => hk s (by simp [hs]))
                have hnds : ∀ e l ds, TC.lst e l ds ∈ vs2 → ds = [] := valsC_nods hv
                have hfin : ∃ fs, b1 = fs ∧ RC.RpL (t.tcs y) fs := by
                  unfold Ty.of at ht
                  split at ht
                  · rename_i x0 e1
                    cases ht
                    obtain ⟨p, q, e2, e3, e4, _⟩ := take_rpl t _ _ _ _ e1 hb.2 p2 hnds
                    rw [show q = [] from e4, List.append_nil] at e2
                    exact ⟨p, e2, e3⟩
                  · cases ht
                obtain ⟨fs, rfl, hfs⟩ := hfin
                refine ⟨.ro b1 :: bs, m d :: q1 ++ q, ?_, ⟨y, l, b1, [], bs, rfl, by rw [List.append_nil], hfs, g2⟩, ?_⟩
                · simp only [mapV]
                  refine Does.bind (a := (.ro b1, m d :: q1)) ?_ (Does.bind g1 (Does.ret _))
                  simp only [valR, k1]
                  refine Does.bind (Does.theObj (hk _ (by simp [h.at_ d (by rw [ho]; simp)])) k1) ?_
                  simp only [List.getElem?_cons_zero]
                  exact Does.bind p1 (Does.ret _)
                · intro s hs
                  simp only [List.cons_append, List.mem_cons, List.mem_append] at hs ⊢
                  rcases hs with rfl | hs | hs
                  · exact .inl (.inl (h.at_ d (by rw [ho]; simp)))
                  · exact .inl (.inr (p3 s hs))
                  · exact .inr (g3 s hs)
              · cases he
            · cases he
          · cases he
        · cases he
      · cases he
    · rename_i t0 ts0 t' x cs0 heq1 heq2
      cases heq1; cases heq2
      split at he
      · rename_i ht
        subst ht
        split at he
        · rename_i l r hcp
          cases he
          obtain ⟨bs, q, g1, g2, g3⟩ := capPl_ok h (f := f) hcp hl' hr hk
          rcases h0 with ⟨fs, r, h1, h2⟩ | ⟨s, hs, _⟩
          · simp only [List.drop_zero, List.cons.injEq, and_true] at h2
            subst h2
            refine ⟨.ro (fs ++ r) :: bs, q, ?_, ⟨x, l, fs, r, bs, rfl, rfl, h1, g2⟩, g3⟩
            simp only [mapV]
            refine Does.bind (a := (.ro (fs ++ r), [])) (by simp only [valR]; exact Does.ret _) (Does.bind g1 (Does.ret _))
          · cases hs
        · cases he
      · cases he
    · cases he
  where
  valsC_nods : ∀ {cs xs : List TC} {rd : List Slot}, valsC τ cs = some (xs, rd) → ∀ e l ds, TC.lst e l ds ∈ xs → ds = []
    | [], xs, rd, h => by simp only [valsC] at h; cases h; simp
    | c :: cs, xs, rd, h => by
      simp only [valsC] at h
      split at h
      · rename_i x a ys b e1 e2
        cases h
        intro e l ds hm
        simp only [List.mem_cons] at hm
        rcases hm with rfl | hm
        · cases c with
          | own d w mn =>
            simp only [TC.val] at e1
            split at e1
            · cases w <;> (simp only [Option.some.injEq, Prod.mk.injEq, TC.lst.injEq] at e1; exact e1.1.2.2.symm)
            · cases e1
          | lst e' l' ds' => simp only [TC.val, Option.some.injEq, Prod.mk.injEq, TC.lst.injEq] at e1; exact e1.1.2.2.symm
          | _ => first | (simp only [TC.val, Option.some.injEq, Prod.mk.injEq, reduceCtorEq, false_and] at e1; done) | cases e1
        · exact valsC_nods e2 e l ds hm
      · cases h
end
end Go.Vm
/- Sends. -/
namespace Go.Vm
section
variable {τ : TState} {σ : State} {m : Nat → Slot} {K : List Key}

theorem nameKeys_cons (d : Nat) (ns : List Nat) : nameKeys τ (d :: ns) = τ.at_ d ++ nameKeys τ ns := by simp [nameKeys]

/-- A variable's cells. -/
theorem RX.cellsOK {g : Bool} {cs : List TC} {x : AV} (h : RX τ σ m g cs x) (hp : g = false → x.plain = true) : RCs τ σ m cs x.cells := by
  unfold RX at h
  cases g with
  | true => obtain ⟨as, rfl, h⟩ := h; exact h
  | false =>
    simp only [Bool.false_eq_true, if_false] at h
    rw [AV.plain_cells (hp rfl)]; exact h.2

theorem sendIoT_ok (h : Rel m τ σ) {d off n : Nat} {cin cout : List RK} {s : SentT} (hs : sendIoT τ d off n cin = some s) (hk : ∀ z ∈ oKeys s.keys, z ∈ K) :
    ∃ u, Does (sendIo (m d) (σ.getO (m d)).st 0 off n) σ u K ∧ SendOK m τ σ (.io cin cout) s u := by
  unfold sendIoT at hs
  split at hs
  · rename_i g cs s1 ho
    split at hs
    · rename_i cs1 e1
      split at hs
      · rename_i cs2 e2
        split at hs
        · rename_i pl ns ss mr e3
          split at hs
          · rename_i hn
            cases hs
            have hat := h.at_ d (by rw [ho]; simp)
            obtain ⟨⟨st, e, c, x, k1, k2, k3⟩, k4, k5⟩ := h.ob d _ ho
            have hx := k2.cellsOK k3
            obtain ⟨a1, a2⟩ := hx.dropW e1
            obtain ⟨b1, b2⟩ := a1.takeW e2
            have kd : Key.o (m d) ∈ K := hk _ (oKeys_o (by simp [nameKeys_cons, hat]))
            have kf : Key.f (m d) ∈ K := hk _ (oKeys_f (by simp [nameKeys_cons, hat]))
            obtain ⟨bs, mv, rd, p1, p2, p3, p4, p5, p6⟩ := expF_ok h (f := 5) b1 e3 (fun z hz => hk z (oKeys_sub (fun s hs => by simp only [nameKeys_cons, List.mem_append] at hs ⊢; rcases hs with hs | hs <;> simp [hs]) z hz))
            have hlen : off + n ≤ x.cells.length := by
              rw [List.length_drop] at b2; omega
            refine ⟨⟨.inout bs, m d :: mv, rd, .part (m d) (σ.getO (m d)).st 0 off n⟩, ?_, ⟨⟨bs, rfl, p2⟩, ⟨rd, .mvN d p3, fun x hx => .inr ⟨hx, p4 x hx⟩⟩, ?_, fun z hz => hz, ⟨d, off, n, g, cs, s1, rfl, by simp, ho, hn, by rw [← hx.length]; exact hlen, rfl⟩⟩⟩
            · unfold sendIo
              rw [k1]
              refine Does.bind (Does.theObj kd k1) (Does.bind (Does.frz kf) ?_)
              simp only [k4 rfl, List.getElem?_cons_zero, Bool.not_false, Bool.true_and, decide_eq_true (show 0 < n ∧ off + n ≤ x.cells.length from ⟨hn, hlen⟩), if_true]
              exact Does.bind p1 (Does.ret _)
            · intro y hy
              simp only [List.mem_cons] at hy
              rcases hy with rfl | hy
              · rw [ho]; simp
              · exact p5 y hy
          · cases hs
        · cases hs
      · cases hs
    · cases hs
  · cases hs

theorem nfL_leaf : ∀ (s : Shape) (as : List AV), (∀ a ∈ as, a.leaf = true) → nfL s as = as
  | [], as, _ => by cases as <;> rfl
  | h :: s, [], _ => rfl
  | h :: s, a :: as, ha => by
    have h1 := ha a (by simp)
    simp only [nfL]
    rw [nfL_leaf s as (fun x hx => ha x (by simp [hx]))]
    congr 1
    cases a <;> first | (simp [AV.leaf] at h1; done) | (cases h <;> rfl)
theorem nfL_append : ∀ {s1 s2 : Shape} {p q : List AV}, s1.length = p.length → nfL (s1 ++ s2) (p ++ q) = nfL s1 p ++ nfL s2 q
  | [], _, [], _, _ => rfl
  | [], _, _ :: _, _, h => by simp at h
  | _ :: _, _, [], _, h => by simp at h
  | x :: s1, s2, a :: p, q, h => by simp only [List.cons_append, nfL, nfL_append (s1 := s1) (p := p) (by simpa using h)]
/-- Nil lists made empty ones of their own. -/
theorem KRs.nf : ∀ {ks : List RK} {ps : List DP} {as : List AV}, KRs false ks ps as → ks.all RK.okW = true → KRs true ks ps (nfL (ks.flatMap fun k => k.ty.shape) as)
  | [], ps, as, ⟨h1, h2⟩, _ => by subst h1 h2; exact ⟨rfl, rfl⟩
  | k :: ks, ps, as, ⟨p, pr, q, r, h1, h2, h3, h4⟩, hw => by
    subst h1 h2
    simp only [List.all_cons, Bool.and_eq_true] at hw
    have ih := KRs.nf h4 hw.2
    simp only [List.flatMap_cons]
    cases k with
    | v t =>
      obtain ⟨x, rfl, rfl⟩ := h3
      simp only [RK.ty]
      rw [nfL_append (by rw [t.len_shape, t.len_cells]), nfL_leaf _ _ (t.cells_leaf x)]
      exact ⟨_, _, _, _, rfl, rfl, ⟨x, rfl, rfl⟩, ih⟩
    | lst e =>
      obtain ⟨l, rfl, a, rfl, h3⟩ := h3
      have hw1 : e.width ≠ 0 := by simpa [RK.okW] using hw.1
      refine ⟨_, _, [nf1 (some e.width) a], _, rfl, rfl, ⟨l, rfl, _, rfl, ?_⟩, ih⟩
      rcases h3 with rfl | rfl | ⟨_, rfl, rfl⟩
      · exact .inl rfl
      · exact .inr (.inl rfl)
      · exact .inr (.inl (by simp [nf1, hw1]))
    | own e =>
      obtain ⟨l, rfl, a, rfl, h3⟩ := h3
      have hw1 : e.width ≠ 0 := by simpa [RK.okW] using hw.1
      refine ⟨_, _, [nf1 (some e.width) a], _, rfl, rfl, ⟨l, rfl, _, rfl, ?_⟩, ih⟩
      rcases h3 with rfl | ⟨_, rfl, rfl⟩
      · exact .inl rfl
      · exact .inl (by simp [nf1, hw1])

theorem sendR_ok {c : CArg} {a : AV} {u : Sent} (hk : ∀ k ∈ c.x.keys, k ∈ K) (ha : a = c.x.val σ) (hd : Does (match c.mode, a with
    | .io n, .ref d st i off => sendIo d st i off n
    | .own, .sref d st lo len => (theObj d st).bind fun o => (frz d).bind fun z =>
        if !o.var && !z && lo == 0 && len == o.xs.length then .ret ⟨.fresh o.e o.xs, [d], [], .whole d st⟩
        else (valR depth a).bind fun q => .ret ⟨nz c.sh q.1, [], q.2, .no⟩
    | .own, .nil => .ret ⟨nf c.sh a, [], [], .no⟩
    | .own, .agg cs => (expR depth (.agg cs)).bind fun q => .ret ⟨nf c.sh q.1, q.2.1, q.2.2, .no⟩
    | _, a => (valR depth a).bind fun q => .ret ⟨nz c.sh q.1, [], q.2, .no⟩) σ u K) : Does (sendR c) σ u K := by
  subst ha
  unfold sendR
  exact Does.bind (Does.opnd c.x hk) hd

theorem nz_fn (sh : Shape) (g : Nat) (a b : List AV) : nz sh (.fn g a b) = .fn g a b := by
  simp only [nz]
  cases sh.headD none <;> rfl

theorem sendT_ok (h : Rel m τ σ) {a : AT} {c : CArg} {s : SentT} (hs : sendT τ a c = some s) (hk1 : ∀ k ∈ c.x.keys, k ∈ K) (hk : ∀ z ∈ oKeys s.keys, z ∈ K) :
    ∃ u, Does (sendR c) σ u K ∧ SendOK m τ σ a s u := by
  have hx := h.val c.x
  unfold sendT at hs
  split at hs
  · -- by value
    rename_i t hm
    split at hs
    · rename_i ag cs ec
      split at hs
      · rename_i cs1 rd ev
        split at hs
        · rename_i y et
          split at hs
          · rename_i hh
            cases hs
            obtain ⟨b, bs, q, g1, g2, g3, g4, g5, g6⟩ := valR_cells h (f := 4) hx ec ev hh.2.2 (fun s hs => hk _ (oKeys_o hs))
            obtain ⟨k1, k2, _⟩ := Ty.of_ok et g3 (.inl hh.2.2)
            refine ⟨⟨nz c.sh b, [], q, .no⟩, ?_, ⟨⟨y, rfl, by rw [hh.2.1]; exact nz_enc g2 g6 hh.1 k2 k1⟩, ⟨[], .nil, fun x hx => .inl (g4 x hx)⟩, by simp, by simp [nameKeys], ⟨rfl, .inl rfl⟩⟩⟩
            refine sendR_ok hk1 rfl ?_
            rw [hm]
            exact Does.bind g1 (Does.ret _)
          · cases hs
        · cases hs
      · cases hs
    · cases hs
  · -- a part of a variable
    rename_i cin cout n d off hm ex
    rw [ex] at hx
    obtain ⟨_, hx⟩ := hx
    simp only [List.cons.injEq, and_true] at hx
    obtain ⟨u, g1, g2⟩ := sendIoT_ok h (cout := cout) hs hk
    refine ⟨u, sendR_ok hk1 rfl ?_, g2⟩
    rw [hm, hx]
    exact g1
  · -- a list
    rename_i e back d hm ex
    rw [ex] at hx
    split at hs
    · rename_i e' l cap s1 ho
      split at hs
      · rename_i he
        subst he
        cases hs
        have hat := h.at_ d (by rw [ho]; simp)
        obtain ⟨a, ea, e0, l0, cap0, fz0, s10, ho0, hc⟩ := hx
        rw [ho] at ho0
        simp only [Option.some.injEq, TO.sl.injEq] at ho0
        obtain ⟨rfl, hll, rfl, rfl, rfl⟩ := ho0
        cases hll
        simp only [List.cons.injEq, and_true] at ea
        rcases hc with ⟨hsl, hw⟩ | ⟨hf, _⟩
        · have hsl' := hsl
          obtain ⟨⟨st, cp, g1, g2, g3⟩, g4⟩ := hsl
          simp only at hw
          subst hw
          refine ⟨⟨.fresh e'.width (l.map e'.enc), [m d], [], .whole (m d) (σ.getO (m d)).st⟩, ?_, ⟨⟨l, rfl, rfl⟩, ⟨[], .mvN d .nil, by simp⟩, by simp [ho], by simp [nameKeys], ?_⟩⟩
          · refine sendR_ok hk1 rfl ?_
            rw [hm, ea, g1]
            refine Does.bind (Does.theObj (hk _ (oKeys_o hat)) g1) (Does.bind (Does.frz (hk _ (oKeys_f hat))) ?_)
            simp only [g4 rfl, Bool.not_false, Bool.true_and, List.length_map, BEq.rfl, if_true]
            exact Does.ret _
          · cases back with
            | true => exact ⟨d, l, cap, s1, rfl, by simp, ho, hsl', rfl, rfl⟩
            | false => exact ⟨rfl, .inr ⟨_, _, rfl⟩⟩
        · cases hf
      · cases hs
    · cases hs
  · -- a struct with lists of its own
    rename_i ks cs hm ex
    rw [ex] at hx
    obtain ⟨as, ea, hx⟩ := hx
    split at hs
    · rename_i pl ns ss mr e3
      split at hs
      · rename_i hh
        cases hs
        obtain ⟨bs, mv, rd, p1, p2, p3, p4, p5, p6⟩ := expF_ok h (f := 4) hx e3 hk
        refine ⟨⟨nf c.sh (.agg bs), mv, rd, .no⟩, ?_, ⟨⟨nfL c.sh bs, rfl, by rw [hh.1]; exact p2.nf hh.2⟩, ⟨rd, p3, fun x hx => .inr ⟨hx, p4 x hx⟩⟩, p5, fun z hz => hz, ⟨rfl, .inl rfl⟩⟩⟩
        refine sendR_ok hk1 rfl ?_
        rw [hm, ea]
        refine Does.bind (a := (.agg bs, mv, rd)) ?_ (Does.ret _)
        show Does (expR 6 (.agg as)) σ (.agg bs, mv, rd) K
        simp only [expR]
        exact Does.bind p1 (Does.ret _)
      · cases hs
    · cases hs
  · -- nil
    rename_i e hm ex
    rw [ex] at hx
    split at hs
    · rename_i hh
      cases hs
      have hx' : [c.x.val σ] = [.nil] := hx
      simp only [List.cons.injEq, and_true] at hx'
      refine ⟨⟨nf c.sh .nil, [], [], .no⟩, ?_, ⟨⟨[], rfl, ?_⟩, ⟨[], .nil, by simp⟩, by simp, by simp [nameKeys], ⟨rfl, .inl rfl⟩⟩⟩
      · refine sendR_ok hk1 rfl ?_
        rw [hm, hx']
        exact Does.ret _
      · rw [hh.1]; simp [nf, nf1, hh.2]
    · cases hs
  · -- a function
    rename_i g ta tc g' fs cs hm ex
    rw [ex] at hx
    split at hs
    · rename_i hg
      subst hg
      split at hs
      · rename_i x r1 y r2 e1 e2
        cases hs
        obtain ⟨ax, ay, ea, l1, l2, h1, h2⟩ := hx
        obtain ⟨b1, q1, g1, g2, g3⟩ := capPl_ok h (f := 3) e1 l1 h1 (fun s hs => hk _ (oKeys_o (List.mem_append_left _ hs)))
        obtain ⟨b2, q2, k1, k2, k3⟩ := capPl_ok h (f := 3) e2 l2 h2 (fun s hs => hk _ (oKeys_o (List.mem_append_right _ hs)))
        refine ⟨⟨.fn g' b1 b2, [], q1 ++ q2, .no⟩, ?_, ⟨⟨b1, b2, x, y, rfl, rfl, g2, k2⟩, ⟨[], .nil, fun z hz => .inl ?_⟩, by simp, by simp [nameKeys], ⟨rfl, .inl rfl⟩⟩⟩
        · refine sendR_ok hk1 rfl ?_
          rw [hm, ea]
          refine Does.bind (a := (.fn g' b1 b2, q1 ++ q2)) ?_ (by rw [nz_fn]; exact Does.ret _)
          show Does (valR 6 (.fn g' ax ay)) σ _ K
          simp only [valR]
          exact Does.bind g1 (Does.bind k1 (Does.ret _))
        · rcases List.mem_append.1 hz with hz | hz
          · exact List.mem_append_left _ (g3 z hz)
          · exact List.mem_append_right _ (k3 z hz)
      · cases hs
    · cases hs
  · cases hs

theorem sendCap_val {a : AV} {b : AV} {q : List Slot} (hn : ∀ d st i off, a ≠ .ref d st i off) (h : Does (valR depth a) σ (b, q) K) : Does (sendCap a) σ ⟨b, [], q, .no⟩ K := by
  unfold sendCap
  split
  · exact absurd rfl (hn _ _ _ _)
  · exact Does.bind h (Does.ret _)
theorem val_noref {c x : TC} {rd : List Slot} {d st i off : Nat} (hx : RC τ σ m c [.ref d st i off]) (h : c.val τ = some (x, rd)) (hb : x.byv = true) : False := by
  cases c with
  | any => cases h
  | v t y =>
    have : [AV.ref d st i off] = t.cells y := hx
    have := t.cells_leaf y (.ref d st i off) (by rw [← this]; simp)
    cases this
  | bc b => simp [RC] at hx
  | nil => simp [RC] at hx
  | lst e l ds =>
    obtain ⟨a, ha, hx⟩ := hx
    simp only [List.cons.injEq, and_true] at ha
    subst ha
    rcases hx with hx | hx | ⟨_, _, _, _, _, _, _, _, _, _, _, hx⟩
    · cases hx
    · cases hx.2
    · cases hx
  | own d w mn =>
    obtain ⟨a, ha, e, l, cap, fz, s1, _, hx⟩ := hx
    simp only [List.cons.injEq, and_true] at ha
    subst ha
    rcases hx with ⟨_, hx⟩ | ⟨_, hx, _⟩
    · cases w with
      | none => cases hx
      | some p => cases hx.2
    · cases hx
  | rp t y o ds => simp only [TC.val] at h; cases h; cases hb
  | spare d => cases h
  | vref d off => cases h
  | eref d i off => cases h
  | aref => cases h
theorem sendCapT_ok (h : Rel m τ σ) {a : AT} {c : TC} {v : AV} {s : SentT} (hs : sendCapT τ a c = some s) (hx : RC τ σ m c [v]) (hk : ∀ z ∈ oKeys s.keys, z ∈ K) :
    ∃ u, Does (sendCap v) σ u K ∧ SendOK m τ σ a s u := by
  unfold sendCapT at hs
  split at hs
  · rename_i cin cout d
    obtain ⟨_, hx⟩ := hx
    simp only [List.cons.injEq, and_true] at hx
    subst hx
    split at hs
    · rename_i g cs s1 ho
      obtain ⟨u, g1, g2⟩ := sendIoT_ok h (cout := cout) hs hk
      refine ⟨u, ?_, g2⟩
      obtain ⟨⟨st, e, c, x, k1, k2, k3⟩, k4, k5⟩ := h.ob d _ ho
      have hx := k2.cellsOK k3
      have hkd : Key.o (m d) ∈ K := by
        obtain ⟨rd, p1, _⟩ := g2.pk
        obtain ⟨d', off, n, g', cs', s1', b1, b2, b3, b4', b4, b5⟩ := g2.bk
        have hd : s.back = some (d, 0, widths cs) := by
          unfold sendIoT at hs
          split at hs
          · split at hs
            · split at hs
              · split at hs
                · split at hs
                  · cases hs; rfl
                  · cases hs
                · cases hs
              · cases hs
            · cases hs
          · cases hs
        rw [hd] at b1
        simp only [Option.some.injEq, Prod.mk.injEq] at b1
        obtain ⟨rfl, rfl, rfl⟩ := b1
        refine hk _ (oKeys_o (g2.ky _ (List.mem_append_left _ ?_)))
        unfold nameKeys
        exact List.mem_flatMap.2 ⟨d, b2, h.at_ d (by rw [ho]; simp)⟩
      unfold sendCap
      simp only
      rw [k1]
      refine Does.bind (Does.theObj hkd k1) ?_
      simp only [List.getElem?_cons_zero]
      rw [k1] at g1
      rw [hx.length]
      exact g1
    · cases hs
  · rename_i t c
    split at hs
    · rename_i x rd e1
      split at hs
      · rename_i y e2
        split at hs
        · rename_i hh
          simp only [Bool.and_eq_true] at hh
          cases hs
          obtain ⟨bs, q, g1, g2, g3⟩ := val_ok h (f := 5) hx e1 hh.2 (fun s hs => hk _ (oKeys_o hs))
          have g1' := g1.1
          simp only [mapV, R.run_bind] at g1'
          cases ha : (valR 6 v).run σ with
          | none => simp [ha] at g1'
          | some p =>
            simp only [ha, Option.bind_some, R.run_ret, Option.some.injEq, Prod.mk.injEq, List.append_nil] at g1'
            obtain ⟨rfl, rfl⟩ := g1'
            obtain ⟨l1, l2, l3⟩ := Ty.of_ok e2 (RCs.single.2 g2) (.inr hh.1.2)
            have hcell := l3 hh.1.2
            obtain ⟨w, hw1, hw2⟩ := Ty.one_cells hh.1.1 y
            rw [hw1] at hcell
            simp only [List.cons.injEq, and_true] at hcell
            refine ⟨⟨p.1, [], p.2, .no⟩, sendCap_val ?_ ⟨ha, fun z hz => g1.2 z ?_⟩, ⟨⟨y, rfl, ?_⟩, ⟨[], .nil, fun x hx => .inl (g3 x (by simpa using hx))⟩, by simp, by simp [nameKeys], ⟨rfl, .inl rfl⟩⟩⟩
            · rintro d st i off rfl
              exact val_noref hx e1 hh.2
            · simp only [mapV]
              rw [R.foot_bind]
              exact List.mem_append_left _ hz
            · simp only [Ty.enc, enc1, hh.1.1, if_true, hw1, hcell, List.headD_cons]
        · cases hs
      · cases hs
    · cases hs
  · rename_i t t' x
    split at hs
    · rename_i ht
      subst ht
      cases hs
      rcases hx with ⟨fs, r, h1, h2⟩ | ⟨s, hs, _⟩
      · simp only [List.drop_zero, List.cons.injEq, and_true] at h2
        subst h2
        exact ⟨⟨.ro (fs ++ r), [], [], .no⟩, sendCap_val (by simp) (Does.ret _), ⟨⟨x, [], fs, r, [], rfl, rfl, h1, rfl, rfl⟩, ⟨[], .nil, by simp⟩, by simp, by simp [nameKeys], ⟨rfl, .inl rfl⟩⟩⟩
      · cases hs
    · cases hs
  · cases hs

/-- All of them. -/
inductive SendsOK (m : Nat → Slot) (τ : TState) (σ : State) : List AT → List SentT → List Sent → Prop
  | nil : SendsOK m τ σ [] [] []
  | cons {a : AT} {s : SentT} {u : Sent} {as : List AT} {ss : List SentT} {us : List Sent} : SendOK m τ σ a s u → SendsOK m τ σ as ss us → SendsOK m τ σ (a :: as) (s :: ss) (u :: us)
theorem SendsOK.append {as as' : List AT} {ss ss' : List SentT} {us us' : List Sent} (h : SendsOK m τ σ as ss us) (k : SendsOK m τ σ as' ss' us') : SendsOK m τ σ (as ++ as') (ss ++ ss') (us ++ us') := by
  induction h with
  | nil => exact k
  | cons h _ ih => exact .cons h ih
theorem sendsT_ok (h : Rel m τ σ) : ∀ {as : List AT} {cs : List CArg} {ss : List SentT}, sendsT τ as cs = some ss → (∀ c ∈ cs, ∀ k ∈ c.x.keys, k ∈ K) → (∀ z ∈ oKeys (ss.flatMap (·.keys)), z ∈ K) →
    ∃ us, Does (mapR sendR cs) σ us K ∧ SendsOK m τ σ as ss us
  | [], [], ss, hs, _, _ => by simp only [sendsT] at hs; cases hs; exact ⟨[], Does.ret _, .nil⟩
  | [], _ :: _, _, hs, _, _ => by simp [sendsT] at hs
  | _ :: _, [], _, hs, _, _ => by simp [sendsT] at hs
  | a :: as, c :: cs, ss, hs, hk1, hk => by
    simp only [sendsT] at hs
    split at hs
    · rename_i x xs e1 e2
      cases hs
      obtain ⟨u, g1, g2⟩ := sendT_ok h e1 (hk1 c (by simp)) (fun z hz => hk z (oKeys_sub (fun s hs => by simp [hs]) z hz))
      obtain ⟨us, k1, k2⟩ := sendsT_ok h e2 (fun c hc => hk1 c (by simp [hc])) (fun z hz => hk z (oKeys_sub (fun s hs => by simp only [List.flatMap_cons]; exact List.mem_append_right _ hs) z hz))
      exact ⟨u :: us, by simp only [mapR]; exact Does.bind g1 (Does.bind k1 (Does.ret _)), .cons g2 k2⟩
    · cases hs
theorem sendCapsT_ok (h : Rel m τ σ) : ∀ {as : List AT} {cs : List TC} {vs : List AV} {ss : List SentT}, sendCapsT τ as cs = some ss → vs.length = cs.length → (∀ (j : Nat) (c : TC) (u : AV), cs[j]? = some c → vs[j]? = some u → RC τ σ m c [u]) → (∀ z ∈ oKeys (ss.flatMap (·.keys)), z ∈ K) →
    ∃ us, Does (mapR sendCap vs) σ us K ∧ SendsOK m τ σ as ss us
  | [], [], vs, ss, hs, hl, _, _ => by
    simp only [sendCapsT] at hs; cases hs
    have : vs = [] := List.length_eq_zero_iff.1 hl
    subst this
    exact ⟨[], Does.ret _, .nil⟩
  | [], _ :: _, _, _, hs, _, _, _ => by simp [sendCapsT] at hs
  | _ :: _, [], _, _, hs, _, _, _ => by simp [sendCapsT] at hs
  | _ :: _, _ :: _, [], _, _, hl, _, _ => by simp at hl
  | a :: as, c :: cs, v :: vs, ss, hs, hl, hc, hk => by
    simp only [sendCapsT] at hs
    split at hs
    · rename_i x xs e1 e2
      cases hs
      obtain ⟨u, g1, g2⟩ := sendCapT_ok h e1 (hc 0 c v rfl rfl) (fun z hz => hk z (oKeys_sub (fun s hs => by simp [hs]) z hz))
      obtain ⟨us, k1, k2⟩ := sendCapsT_ok h e2 (by simpa using hl) (fun j c u h1 h2 => hc (j + 1) c u h1 h2) (fun z hz => hk z (oKeys_sub (fun s hs => by simp only [List.flatMap_cons]; exact List.mem_append_right _ hs) z hz))
      exact ⟨u :: us, by simp only [mapR]; exact Does.bind g1 (Does.bind k1 (Does.ret _)), .cons g2 k2⟩
    · cases hs
end
end Go.Vm
/- What comes back of the arguments. -/
namespace Go.Vm
section
variable {τ : TState} {σ : State} {m : Nat → Slot} {K : List Key} {t : Nat}

/-- What an argument was, for what comes back. -/
def BK (m : Nat → Slot) (τ : TState) (σ : State) (a : AT) (s : SentT) (u : Sent) : Prop := match a with
  | .io _ _ => ∃ d off n g cs s1, s.back = some (d, off, n) ∧ τ.getO d = some (.var g cs false s1) ∧ 0 < n ∧ off + n ≤ widths cs ∧ u.back = .part (m d) (σ.getO (m d)).st 0 off n
  | .own e true => ∃ d l cap s1, s.back = some (d, 0, 0) ∧ τ.getO d = some (.sl e l cap false s1) ∧ SlR σ (m d) e l cap false ∧ u.a = .fresh e.width (l.map e.enc) ∧ u.back = .whole (m d) (σ.getO (m d)).st
  | _ => s.back = none ∧ (u.back = .no ∨ ∃ d st, u.back = .whole d st)
inductive BKs (m : Nat → Slot) (τ : TState) (σ : State) : List AT → List SentT → List Sent → Prop
  | nil : BKs m τ σ [] [] []
  | cons {a : AT} {s : SentT} {u : Sent} {as : List AT} {ss : List SentT} {us : List Sent} : BK m τ σ a s u → BKs m τ σ as ss us → BKs m τ σ (a :: as) (s :: ss) (u :: us)

/-- It is still that object. -/
def KeepO : TO → TO → Prop
  | .var g _ fz s1, o => ∃ cs, o = .var g cs fz s1
  | .sl e l _ fz s1, o => ∃ l' : List e.D, o = .sl e l' none fz s1 ∧ l'.length = l.length
  | .gone, _ => False
theorem KeepO.fz {o o' : TO} (h : KeepO o o') : o'.fzOf = o.fzOf := by
  cases o with
  | var => obtain ⟨_, rfl⟩ := h; rfl
  | sl => obtain ⟨_, rfl, _⟩ := h; rfl
  | gone => cases h

theorem KRs.length : ∀ {b : Bool} {ks : List RK} {ps : List DP} {as : List AV}, KRs b ks ps as → as.length = (ks.map fun k => k.ty.width).sum
  | _, [], ps, as, ⟨_, h⟩ => by rw [h]; rfl
  | _, k :: ks, ps, as, ⟨p, pr, q, r, h1, h2, h3, h4⟩ => by
    rw [h2, List.length_append, KRs.length h4]
    simp only [List.map_cons, List.sum_cons, Nat.add_right_cancel_iff]
    cases k with
    | v t => obtain ⟨x, _, rfl⟩ := h3; exact t.len_cells x
    | lst e => obtain ⟨l, _, a, rfl, _⟩ := h3; rfl
    | own e => obtain ⟨l, _, a, rfl, _⟩ := h3; rfl
theorem impC_width {mn : Bool} {k k1 : Nat} {r : RK} {pl rest : List DP} {c : TC} {os : List (Nat × List Slot × TO)} (hi : impC t mn k r pl = some (c, os, k1, rest)) : c.width = r.ty.width := by
  unfold impC at hi
  split at hi
  · split at hi
    · rename_i hh; simp only [Option.some.injEq, Prod.mk.injEq] at hi; rw [← hi.1]; simp [TC.width, RK.ty, hh.1]
    · cases hi
  · split at hi
    · simp only [Option.some.injEq, Prod.mk.injEq] at hi; rw [← hi.1]; rfl
    · cases hi
  · split at hi
    · simp only [Option.some.injEq, Prod.mk.injEq] at hi; rw [← hi.1]; rfl
    · cases hi
  · cases hi
theorem impL_widths {mn : Bool} : ∀ {ks : List RK} {k k1 : Nat} {pl rest : List DP} {cs : List TC} {os : List (Nat × List Slot × TO)}, impL t mn k ks pl = some (cs, os, k1, rest) → widths cs = (ks.map fun k => k.ty.width).sum
  | [], k, k1, pl, rest, cs, os, hi => by
    simp only [impL, Option.some.injEq, Prod.mk.injEq] at hi
    rw [← hi.1]; rfl
  | r :: ks, k, k2, pl, rest, cs, os, hi => by
    simp only [impL] at hi
    split at hi
    · rename_i c o k1 l1 e1
      split at hi
      · rename_i cs' os' k2' l2 e2
        simp only [Option.some.injEq, Prod.mk.injEq] at hi
        obtain ⟨rfl, rfl, rfl, rfl⟩ := hi
        simp only [List.map_cons, List.sum_cons, ← impC_width e1, ← impL_widths e2]
        rfl
      · cases hi
    · cases hi

theorem TState.getO_cons (os : List (Nat × List Slot × TO)) (x : Nat) : ({ τ with ob := os ++ τ.ob } : TState).getO x = match lookT x os with
    | some p => some p.2
    | none => τ.getO x := by
  unfold TState.getO
  simp only [lookT_append]
  cases lookT x os <;> rfl
theorem TState.at_cons (os : List (Nat × List Slot × TO)) (x : Nat) : ({ τ with ob := os ++ τ.ob } : TState).at_ x = match lookT x os with
    | some p => p.1
    | none => τ.at_ x := by
  unfold TState.at_
  simp only [lookT_append]
  cases lookT x os <;> rfl
theorem lookT_none {α : Type} {d : Nat} {l : List (Nat × α)} (h : ∀ p ∈ l, p.1 ≠ d) : lookT d l = none := by
  cases e : lookT d l with
  | none => rfl
  | some x => exact absurd rfl (h _ (lookT_mem e))
theorem lookT_of_mem {α : Type} {d : Nat} {x : α} : ∀ {l : List (Nat × α)}, (l.map (·.1)).Nodup → (d, x) ∈ l → lookT d l = some x
  | [], _, h => by cases h
  | (d', s) :: r, hn, h => by
    simp only [List.map_cons, List.nodup_cons] at hn
    simp only [List.mem_cons, Prod.mk.injEq] at h
    simp only [lookT]
    rcases h with ⟨rfl, rfl⟩ | h
    · simp
    · have : (d' == d) = false := by
        simp only [beq_eq_false_iff_ne, ne_eq]
        rintro rfl
        exact hn.1 (List.mem_map.2 ⟨_, h, rfl⟩)
      simp only [this, Bool.false_eq_true, if_false]
      exact lookT_of_mem hn.2 h

def Rng (t k k1 x : Nat) : Prop := ∃ j, k ≤ j ∧ j < k1 ∧ x = 64 * t + j

/-- Facts on the writes. -/
def BW (t k k1 : Nat) (m : Nat → Slot) (D : List Nat) (ws : List W) : Prop :=
  (∀ w ∈ ws, match w with
    | .o d s => (Rng t k k1 d ∨ ∃ x ∈ D, d = m x) ∧ s.obj.isSome = true
    | .f d b => b = false ∧ Rng t k k1 d
    | .t _ _ => False) ∧ (madeAt ws).Nodup
theorem BW.made {k k1 : Nat} {D : List Nat} {ws : List W} (h : BW t k k1 m D ws) {d : Slot} (hd : d ∈ madeAt ws) : Rng t k k1 d ∨ ∃ x ∈ D, d = m x := by
  obtain ⟨s, hs⟩ := madeAt_mem hd
  exact (h.1 _ hs).1

/-- What the new state says of what came back. -/
structure Fin (t k k1 : Nat) (m : Nat → Slot) (D : List Nat) (τ : TState) (σ : State) (τb : TState) (ws : List W) (τ' : TState) (σ' : State) (m' : Nat → Slot) : Prop where
  held : ∀ w ∈ ws, w.holds σ'
  news : ∀ x, Rng t k k1 x → ∀ o, τb.getO x = some o → τ'.getO x = some o ∧ m' x = x
  keep : ∀ x ∈ D, m' x = m x
  olds : ∀ d ∈ D, ∀ g cs fz s1 as, τ.getO d = some (.var g cs fz s1) → RCs τ σ m cs as → RCs τ' σ' m' cs as
  flag : ∀ s, σ.getF s = false → σ'.getF s = false

theorem backT_le : ∀ {as : List AT} {ss : List SentT} {k k1 : Nat} {τa τb : TState} {l rest : List DP}, backT t k as ss τa l = some (τb, k1, rest) → k ≤ k1 ∧ k1 ≤ k + (as.map AT.count).sum
  | [], [], k, k1, τa, τb, l, rest, h => by
    simp only [backT, Option.some.injEq, Prod.mk.injEq] at h
    exact ⟨by omega, by simp; omega⟩
  | [], _ :: _, _, _, _, _, _, _, h => by simp [backT] at h
  | _ :: _, [], _, _, _, _, _, _, h => by simp [backT] at h
  | a :: as, s :: ss, k, k1, τa, τb, l, rest, h => by
    unfold backT at h
    simp only [List.map_cons, List.sum_cons]
    split at h
    · split at h
      · rename_i e1
        split at h
        · split at h
          · split at h
            · have h1 := backT_le h
              have h2 := impL_le e1
              simp only [AT.count]
              omega
            · cases h
          · cases h
        · cases h
      · cases h
    · split at h
      · split at h
        · split at h
          · have h1 := backT_le h
            omega
          · cases h
        · cases h
      · cases h
    · cases h
    · cases h
    · have h1 := backT_le h
      omega

/-- What is said of what came back. -/
def BackTOK (t k k1 : Nat) (m : Nat → Slot) (τ : TState) (σ : State) (K : List Key) (D : List Nat) (us : List Sent) (bs : List (Option AV)) (τa τb : TState) : Prop :=
  ∃ ws, Does (backR t k us bs) σ ws K ∧ τb.tm = τa.tm ∧
      (∀ x, x ∉ D → ¬ Rng t k k1 x → τb.getO x = τa.getO x ∧ τb.at_ x = τa.at_ x) ∧ BW t k k1 m D ws ∧
      (∀ x ∈ D, ∃ o o', τ.getO x = some o ∧ τb.getO x = some o' ∧ τb.at_ x = τ.at_ x ∧ KeepO o o') ∧
      (∀ x, Rng t k k1 x → ∀ o, τb.getO x = some o → τb.at_ x = [x]) ∧
      (∀ τ' σ' m', Fin t k k1 m D τ σ τb ws τ' σ' m' → (∀ x ∈ D, ∀ o, τb.getO x = some o → RO τ' σ' m' (m x) o) ∧ ∀ x, Rng t k k1 x → ∀ o, τb.getO x = some o → RO τ' σ' m' x o) ∧
      ∀ σ' : State, (∀ w ∈ ws, w.holds σ') → (∀ s, σ.getF s = false → σ'.getF s = false) → ∀ x ∈ D, (σ'.getO (m x)).st = (σ.getO (m x)).st ∧ ∀ e l cap fz s1, τb.getO x = some (.sl e l cap fz s1) → SlR σ' (m x) e l cap fz

theorem backT_ok (h : Rel m τ σ) : ∀ {as : List AT} {ss : List SentT} {us : List Sent} {k k1 N : Nat} {τa τb : TState} {l l0 rest rest0 : List DP} {bs : List (Option AV)},
    BKs m τ σ as ss us → backT t k as ss τa l = some (τb, k1, rest) → l = l0 ++ rest0 → BRs as (us.map (·.a)) l0 bs → (keepN ss).Nodup → k1 ≤ N →
    (∀ d ∈ keepN ss, τa.getO d = τ.getO d ∧ τa.at_ d = τ.at_ d) → (∀ x, Rng t k N x → τa.getO x = none) →
    (∀ d ∈ keepN ss, ¬ Rng t k N d ∧ ¬ Rng t k N (m d)) → (∀ d ∈ keepN ss, Key.o (m d) ∈ K) → (∀ x, Rng t k N x → Key.o x ∈ K) →
    rest = rest0 ∧ k ≤ k1 ∧ BackTOK t k k1 m τ σ K (keepN ss) us bs τa τb
  | [], [], [], k, k1, N, τa, τb, l, l0, rest, rest0, bs, _, hb, hl, hr, _, _, _, hna, _, _, _ => by
    simp only [backT, Option.some.injEq, Prod.mk.injEq] at hb
    obtain ⟨rfl, rfl, rfl⟩ := hb
    obtain ⟨rfl, rfl, _⟩ := hr
    refine ⟨hl, Nat.le_refl _, [], Does.ret _, rfl, fun x _ _ => ⟨rfl, rfl⟩, ⟨by simp, List.nodup_nil⟩, by simp [keepN], ?_, fun τ' σ' m' _ => ⟨by simp [keepN], ?_⟩, by simp [keepN]⟩
    · rintro x ⟨j, h1, h2, _⟩; omega
    · rintro x ⟨j, h1, h2, _⟩; omega
  | a :: as, s :: ss, u :: us, k, k1, N, τa, τb, l, l0, rest, rest0, bs, .cons hk0 hks, hb, hl, hr, hn, hN, hag, hna, hdj, hko, hkn => by
    obtain ⟨av, as', p1, p2, b, bs', ha, rfl, rfl, hb1, hb2⟩ := hr
    simp only [List.map_cons, List.cons.injEq] at ha
    obtain ⟨rfl, rfl⟩ := ha
    subst hl
    -- nothing comes back
    have none_case : s.back = none → (u.back = .no ∨ ∃ d st, u.back = .whole d st) → p1 = [] → b = none → backT t k as ss τa (p1 ++ p2 ++ rest0) = some (τb, k1, rest) → 
        rest = rest0 ∧ k ≤ k1 ∧ BackTOK t k k1 m τ σ K (keepN (s :: ss)) (u :: us) (b :: bs') τa τb := by
      intro h1 h2 h3 h4 h5
      subst h3 h4
      have hke : keepN (s :: ss) = keepN ss := by simp [keepN, h1]
      rw [hke] at hn hag hdj hko ⊢
      obtain ⟨e1, e2, ws, e3, e4, e5⟩ := backT_ok h hks h5 rfl hb2 hn hN hag hna hdj hko hkn
      refine ⟨e1, e2, ws, ?_, e4, e5⟩
      simp only [backR]
      rcases h2 with h2 | ⟨d, st, h2⟩ <;> (rw [h2]; exact e3)
    -- a list comes back
    have own_case : ∀ e, a = .own e true → rest = rest0 ∧ k ≤ k1 ∧ BackTOK t k k1 m τ σ K (keepN (s :: ss)) (u :: us) (b :: bs') τa τb := by
      intro e ea
      subst ea
      obtain ⟨d, l1, cap, s1, q1, q2, q3, q4, q5⟩ := hk0
      obtain ⟨lb, lb0, rfl, rfl, r3, r4⟩ := hb1
      have hlen : lb.length = l1.length := by
        rw [q4] at r3
        simp only [AV.fresh.injEq, true_and] at r3
        have := congrArg List.length r3
        simp only [List.length_map] at this
        omega
      have hke : keepN (s :: ss) = d :: keepN ss := by simp [keepN, q1]
      rw [hke] at hn hag hdj hko ⊢
      have hn' := List.nodup_cons.1 hn
      simp only [backT, q1, List.cons_append, List.nil_append, dpl, if_true] at hb
      have hd0 := hag d (by simp)
      rw [hd0.1, q2] at hb
      simp only at hb
      have hdd : d ∉ keepN ss := hn'.1
      have ne : ∀ x ∈ keepN ss, x ≠ d := fun x hx e => hdd (e ▸ hx)
      obtain ⟨e1, e2, ws, e3, e4, e5, e6, e7, e8, e9, e10⟩ := backT_ok h hks hb rfl hb2 hn'.2 hN
        (fun x hx => by rw [TState.getO_put, if_neg (ne x hx), TState.at_put, if_neg (ne x hx)]; exact hag x (by simp [hx]))
        (fun x hx => by rw [TState.getO_put, if_neg (fun (e : x = d) => (hdj d (by simp)).1 (e ▸ hx))]; exact hna x hx)
        (fun x hx => hdj x (by simp [hx])) (fun x hx => hko x (by simp [hx])) hkn
      have hdk1 : ¬ Rng t k k1 d := fun ⟨j, a, b, c⟩ => (hdj d (by simp)).1 ⟨j, a, by omega, c⟩
      obtain ⟨b1, b2⟩ := e5 d hdd hdk1
      rw [TState.getO_put, if_pos rfl] at b1
      rw [TState.at_put, if_pos rfl] at b2
      obtain ⟨⟨st, c, g1, g2, g3⟩, g4⟩ := q3
      refine ⟨e1, e2, .o (m d) ⟨(σ.getO (m d)).st, some ⟨e.width, lb.map e.enc, false, c⟩⟩ :: ws, ?_, ?_, ?_, ?_, ?_, e8, ?_, ?_⟩
      · simp only [backR, q5]
        rw [g1]
        refine Does.bind (Does.theObj (hko d (by simp)) g1) ?_
        simp only [BEq.rfl, List.length_map, hlen, Bool.true_and, if_true]
        exact Does.bind e3 (Does.ret _)
      · exact e4
      · intro x hx hx2
        simp only [List.mem_cons, not_or] at hx
        obtain ⟨c1, c2⟩ := e5 x hx.2 hx2
        rw [c1, c2, TState.getO_put, if_neg hx.1, TState.at_put, if_neg hx.1]
        exact ⟨rfl, rfl⟩
      · refine ⟨fun w hw => ?_, ?_⟩
        · simp only [List.mem_cons] at hw
          rcases hw with rfl | hw
          · exact ⟨.inr ⟨d, by simp, rfl⟩, rfl⟩
          · have := e6.1 w hw
            cases w with
            | o d' s' => exact ⟨this.1.imp id fun ⟨x, hx, e⟩ => ⟨x, by simp [hx], e⟩, this.2⟩
            | f d' b' => exact this
            | t => exact this
        · simp only [madeAt, Option.isSome_some, if_true]
          refine List.nodup_cons.2 ⟨fun hm => ?_, e6.2⟩
          rcases e6.made hm with ⟨j, j1, j2, j3⟩ | ⟨x, hx, e⟩
          · exact (hdj d (by simp)).2 ⟨j, j1, by omega, j3⟩
          · have hx0 : τ.getO x ≠ none := by
              obtain ⟨o, _, ho, _⟩ := e7 x hx
              rw [ho]; simp
            exact h.inj d x (fun e => hdd (e ▸ hx)) (by rw [q2]; simp) hx0 e
      · intro x hx
        simp only [List.mem_cons] at hx
        rcases hx with rfl | hx
        · exact ⟨_, _, q2, b1, b2.trans hd0.2, lb, rfl, hlen⟩
        · exact e7 x hx
      · intro τ' σ' m' hf
        have hf' : Fin t k k1 m (keepN ss) τ σ τb ws τ' σ' m' := ⟨fun w hw => hf.held w (by simp [hw]), hf.news, fun x hx => hf.keep x (by simp [hx]), fun x hx => hf.olds x (by simp [hx]), hf.flag⟩
        obtain ⟨i1, i2⟩ := e9 τ' σ' m' hf'
        refine ⟨fun x hx o ho => ?_, i2⟩
        simp only [List.mem_cons] at hx
        rcases hx with rfl | hx
        · rw [b1] at ho
          cases ho
          have h1 : σ'.getO (m x) = _ := hf.held _ List.mem_cons_self
          refine ⟨.inl ⟨⟨_, c, h1, by omega, by simp⟩, fun _ => hf.flag _ (g4 rfl)⟩, fun hs1 => ?_⟩
          rw [h1]
          have := (h.ob x _ q2).2 hs1
          exact this
        · exact i1 x hx o ho
      · intro σ' hw hfl x hx
        simp only [List.mem_cons] at hx
        rcases hx with rfl | hx
        · have h1 : σ'.getO (m x) = _ := hw _ List.mem_cons_self
          refine ⟨by rw [h1], fun e' l' cap' fz' s1' ho => ?_⟩
          rw [b1] at ho
          simp only [Option.some.injEq, TO.sl.injEq] at ho
          obtain ⟨rfl, hll, rfl, rfl, rfl⟩ := ho
          cases hll
          exact ⟨⟨_, c, h1, by omega, by simp⟩, fun _ => hfl _ (g4 rfl)⟩
        · exact e10 σ' (fun w h => hw w (by simp [h])) hfl x hx
    -- a part of a variable comes back
    have io_case : ∀ cin cout, a = .io cin cout → rest = rest0 ∧ k ≤ k1 ∧ BackTOK t k k1 m τ σ K (keepN (s :: ss)) (u :: us) (b :: bs') τa τb := by
      intro cin cout ea
      subst ea
      obtain ⟨d, off, n, g, cs, s1, q1, q2, q3, q4, q5⟩ := hk0
      obtain ⟨ab, rfl, hkr⟩ := hb1
      have hke : keepN (s :: ss) = d :: keepN ss := by simp [keepN, q1]
      rw [hke] at hn hag hdj hko ⊢
      have hn' := List.nodup_cons.1 hn
      have hdd : d ∉ keepN ss := hn'.1
      have ne : ∀ x ∈ keepN ss, x ≠ d := fun x hx e => hdd (e ▸ hx)
      simp only [backT, q1] at hb
      split at hb
      · rename_i cs1 os ka la ei
        have hd0 := hag d (by simp)
        rw [hd0.1, q2] at hb
        simp only at hb
        split at hb
        · rename_i new ep
          split at hb
          · rename_i hsg
            have hka := impL_le ei
            -- the state before the rest
            have hlook : ∀ x, ¬ Rng t k ka x → lookT x os = none := by
              intro x hx
              refine lookT_none fun p hp e => ?_
              obtain ⟨_, _, _, _, _, hos, _⟩ := (impL_ok (σ := σ) (K := (List.range ka).map fun j => Key.o (64 * t + j)) (f := 0) (strict := false) (.inr rfl) ei (by rw [List.append_assoc]) hkr (fun j _ hj => List.mem_map.2 ⟨j, List.mem_range.2 hj, rfl⟩)).2
              obtain ⟨⟨j, j1, j2, j3⟩, _⟩ := hos.1 p hp
              exact hx ⟨j, j1, j2, by omega⟩
            generalize hτ1 : ({ (τa.putO d (τa.at_ d) (.var g new false s1)) with ob := os ++ (τa.putO d (τa.at_ d) (.var g new false s1)).ob } : TState) = τ1 at hb
            have t1 : ∀ x, ¬ Rng t k ka x → τ1.getO x = (if x = d then some (.var g new false s1) else τa.getO x) ∧ τ1.at_ x = (if x = d then τa.at_ d else τa.at_ x) := by
              intro x hx
              rw [← hτ1, TState.getO_cons, TState.at_cons, hlook x hx]
              simp only [TState.getO_put, TState.at_put]
              exact ⟨trivial, trivial⟩
            have hle1 : k ≤ ka := by omega
            have lel : ka ≤ k1 := (backT_le hb).1
            have hdk1 : ¬ Rng t k N d := (hdj d (by simp)).1
            have sub : ∀ {x}, Rng t k ka x → Rng t k N x := fun ⟨j, a, b, c⟩ => ⟨j, a, by omega, c⟩
            obtain ⟨rfl, _, bs1, ws1, d1, d2, d3, d4, d5⟩ := impL_ok (σ := σ) (K := K) (f := 4) (strict := false) (.inr rfl) ei (by rw [List.append_assoc]) hkr (fun j j1 j2 => hkn _ ⟨j, j1, by omega, rfl⟩)
            obtain ⟨e1, e2, ws, e3, e4, e5, e6, e7, e8, e9, e10⟩ := backT_ok h hks hb rfl hb2 hn'.2 hN
              (fun x hx => by
                obtain ⟨c1, c2⟩ := t1 x (fun hr => (hdj x (by simp [hx])).1 (sub hr))
                rw [c1, c2, if_neg (ne x hx), if_neg (ne x hx)]; exact hag x (by simp [hx]))
              (fun x ⟨j, j1, j2, j3⟩ => by
                obtain ⟨c1, c2⟩ := t1 x (fun ⟨j', h1, h2, h3⟩ => by omega)
                have : ¬ x = d := fun e => hdk1 ⟨j, by omega, j2, e ▸ j3⟩
                rw [c1, if_neg this]; exact hna x ⟨j, by omega, j2, j3⟩)
              (fun x hx => ⟨fun ⟨j, a, b, c⟩ => (hdj x (by simp [hx])).1 ⟨j, by omega, b, c⟩, fun ⟨j, a, b, c⟩ => (hdj x (by simp [hx])).2 ⟨j, by omega, b, c⟩⟩) (fun x hx => hko x (by simp [hx])) (fun x ⟨j, a, b, c⟩ => hkn x ⟨j, by omega, b, c⟩)
            have hdka : ¬ Rng t ka k1 d := fun ⟨j, a, b, c⟩ => hdk1 ⟨j, by omega, by omega, c⟩
            have hdka' : ¬ Rng t k ka d := fun h => hdk1 (sub h)
            obtain ⟨b1, b2⟩ := e5 d hdd hdka
            rw [(t1 d hdka').1, if_pos rfl] at b1
            rw [(t1 d hdka').2, if_pos rfl, hd0.2] at b2
            obtain ⟨⟨st, e, c, x, k2, k3, k4⟩, k5, k6⟩ := h.ob d _ q2
            have hx := k3.cellsOK k4
            have hle3 : off + n ≤ x.cells.length := by rw [hx.length]; exact q4
            have habn : ab.length = n := by
              rw [hkr.length, ← impL_widths ei]
              unfold putW at ep
              split at ep
              · split at ep
                · assumption
                · cases ep
              · cases ep
            -- where the new names lie
            have tr : ∀ x, Rng t k ka x → τb.getO x = (lookT x os).map (·.2) ∧ ∀ o, τb.getO x = some o → τb.at_ x = [x] := by
              intro x hx
              have hxd : x ∉ keepN ss := fun hm => (hdj x (by simp [hm])).1 (sub hx)
              obtain ⟨c1, c2⟩ := e5 x hxd (fun ⟨j, a, b, c⟩ => by obtain ⟨j', a', b', c'⟩ := hx; omega)
              have hxn : ¬ x = d := fun e => hdk1 (sub (e ▸ hx))
              rw [c1, c2, ← hτ1, TState.getO_cons, TState.at_cons]
              cases el : lookT x os with
              | some p =>
                refine ⟨rfl, fun o _ => ?_⟩
                have := (d3.1 _ (lookT_mem el)).2
                exact this
              | none =>
                simp only [TState.getO_put, if_neg hxn, hna x (sub hx)]
                exact ⟨rfl, fun o ho => by cases ho⟩
            refine ⟨e1, by omega, .o (m d) ⟨(σ.getO (m d)).st, some ⟨e, [x.upd off bs1], true, c⟩⟩ :: ws1 ++ ws, ?_, ?_, ?_, ?_, ?_, ?_, ?_, ?_⟩
            · simp only [backR, q5, habn, BEq.rfl, if_true]
              refine Does.bind (a := (.agg bs1, ws1, ka)) ?_ ?_
              · show Does (impR t 6 k (.agg ab)) σ _ K
                simp only [impR]
                exact Does.bind d1 (Does.ret _)
              · simp only
                rw [k2]
                refine Does.bind (Does.theObj (hko d (by simp)) k2) ?_
                have hpl : bs1.all AV.plain = true := by
                  rw [List.all_eq_true]; intro b hb; exact AV.one_plain (d4 b hb)
                simp only [List.getElem?_cons_zero, hpl, Bool.not_true, Bool.false_eq_true, if_false]
                refine Does.bind e3 ?_
                exact Does.ret _
            · rw [e4, ← hτ1]; rfl
            · intro y hy hy2
              simp only [List.mem_cons, not_or] at hy
              have h1 : ¬ Rng t k ka y := fun ⟨j, a, b, c⟩ => hy2 ⟨j, a, by omega, c⟩
              have h2 : ¬ Rng t ka k1 y := fun ⟨j, a, b, c⟩ => hy2 ⟨j, by omega, b, c⟩
              obtain ⟨c1, c2⟩ := e5 y hy.2 h2
              obtain ⟨c3, c4⟩ := t1 y h1
              rw [c1, c2, c3, c4, if_neg hy.1, if_neg hy.1]
              exact ⟨rfl, rfl⟩
            · have up : ∀ {y}, Rng t k ka y → Rng t k k1 y := fun ⟨j, a, b, c⟩ => ⟨j, a, by omega, c⟩
              have up2 : ∀ {y}, Rng t ka k1 y → Rng t k k1 y := fun ⟨j, a, b, c⟩ => ⟨j, by omega, b, c⟩
              refine ⟨fun w hw => ?_, ?_⟩
              · simp only [List.cons_append, List.mem_cons, List.mem_append] at hw
                rcases hw with rfl | hw | hw
                · exact ⟨.inr ⟨d, by simp, rfl⟩, rfl⟩
                · have := d2.1 w hw
                  cases w with
                  | o d' s' => exact ⟨.inl (up this.1), this.2⟩
                  | f d' b' => exact ⟨this.1, up this.2⟩
                  | t => exact this
                · have := e6.1 w hw
                  cases w with
                  | o d' s' => exact ⟨this.1.imp up2 fun ⟨x, hx, e⟩ => ⟨x, by simp [hx], e⟩, this.2⟩
                  | f d' b' => exact ⟨this.1, up2 this.2⟩
                  | t => exact this
              · simp only [List.cons_append, madeAt, Option.isSome_some, if_true, madeAt_append]
                refine List.nodup_cons.2 ⟨fun hm => ?_, List.nodup_append.2 ⟨d2.2, e6.2, fun y hy z hz e => ?_⟩⟩
                · rcases List.mem_append.1 hm with hm | hm
                  · exact (hdj d (by simp)).2 (sub (d2.made hm))
                  · rcases e6.made hm with ⟨j, j1, j2, j3⟩ | ⟨x, hx, e⟩
                    · exact (hdj d (by simp)).2 ⟨j, by omega, by omega, j3⟩
                    · have hx0 : τ.getO x ≠ none := by
                        obtain ⟨o, _, ho, _⟩ := e7 x hx
                        rw [ho]; simp
                      exact h.inj d x (fun e => hdd (e ▸ hx)) (by rw [q2]; simp) hx0 e
                · subst e
                  obtain ⟨j, j1, j2, j3⟩ := d2.made hy
                  rcases e6.made hz with ⟨j', i1, i2, i3⟩ | ⟨x, hx, e⟩
                  · have : (64 * t + j : Nat) = 64 * t + j' := j3.symm.trans i3
                    omega
                  · exact (hdj x (by simp [hx])).2 ⟨j, j1, by omega, e.symm.trans j3⟩
            · intro y hy
              simp only [List.mem_cons] at hy
              rcases hy with rfl | hy
              · exact ⟨_, _, q2, b1, b2, new, rfl⟩
              · exact e7 y hy
            · rintro y ⟨j, j1, j2, j3⟩ o ho
              by_cases hj : j < ka
              · exact (tr y ⟨j, j1, hj, j3⟩).2 o ho
              · exact e8 y ⟨j, by omega, j2, j3⟩ o ho
            · intro τ' σ' m' hf
              have hf' : Fin t ka k1 m (keepN ss) τ σ τb ws τ' σ' m' := ⟨fun w hw => hf.held w (by simp [hw]), fun y ⟨j, a, b, c⟩ => hf.news y ⟨j, by omega, b, c⟩, fun x hx => hf.keep x (by simp [hx]), fun x hx => hf.olds x (by simp [hx]), hf.flag⟩
              obtain ⟨i1, i2⟩ := e9 τ' σ' m' hf'
              have hos : ∀ p ∈ os, Rng t k ka p.1 ∧ τb.getO p.1 = some p.2.2 := by
                intro p hp
                have hr : Rng t k ka p.1 := (d3.1 p hp).1
                refine ⟨hr, ?_⟩
                rw [(tr p.1 hr).1, lookT_of_mem d3.2 hp]; rfl
              obtain ⟨u1, u2⟩ := d5 τ' σ' m' (fun w hw => hf.held w (by simp [hw])) (fun p hp => by
                obtain ⟨⟨j, a, b, c⟩, hb⟩ := hos p hp
                exact hf.news p.1 ⟨j, a, by omega, c⟩ _ hb)
              refine ⟨fun y hy o ho => ?_, ?_⟩
              · simp only [List.mem_cons] at hy
                rcases hy with rfl | hy
                · rw [b1] at ho
                  cases ho
                  have h1 : σ'.getO (m y) = _ := hf.held _ List.mem_cons_self
                  refine ⟨⟨_, e, c, x.upd off bs1, h1, ?_, ?_⟩, fun _ => hf.flag _ (k5 rfl), fun hs1 => ?_⟩
                  · have hold := hf.olds y (by simp) _ _ _ _ _ q2 hx
                    obtain ⟨v1, v2, v3⟩ := hold.putW u1 ep
                    unfold RX
                    cases g with
                    | true =>
                      unfold RX at k3
                      obtain ⟨xs, rfl, k3⟩ := k3
                      refine ⟨_, rfl, ?_⟩
                      rw [repl_eq _ _ _ (by rw [v3]; exact v2), v3]
                      exact v1
                    | false =>
                      simp only [Bool.false_eq_true, if_false, Bool.false_or, beq_iff_eq] at hsg ⊢
                      refine ⟨List.length_eq_one_iff.1 hsg, ?_⟩
                      have hxc := AV.plain_cells (k4 rfl)
                      rw [hxc] at v1 v2 hle3
                      simp only [List.length_cons, List.length_nil] at v2 hle3
                      have ho0 : off = 0 := by omega
                      have hn1 : n = 1 := by omega
                      subst ho0 hn1
                      obtain ⟨b, rfl⟩ := List.length_eq_one_iff.1 v3
                      simp only [List.take_zero, List.nil_append, Nat.zero_add, List.drop_succ_cons, List.drop_zero, List.append_nil] at v1
                      have : x.upd 0 [b] = b := by cases x <;> first | rfl | (have := k4 rfl; cases this)
                      rw [this]; exact v1
                  · intro hg
                    subst hg
                    have hxc := AV.plain_cells (k4 rfl)
                    rw [hxc] at hle3
                    simp only [List.length_cons, List.length_nil] at hle3
                    have ho0 : off = 0 := by omega
                    have hn1 : n = 1 := by omega
                    subst ho0 hn1
                    have hb1 : bs1.length = 1 := by
                      rw [u1.length, impL_widths ei, ← hkr.length]; exact habn
                    obtain ⟨b, rfl⟩ := List.length_eq_one_iff.1 hb1
                    have : x.upd 0 [b] = b := by cases x <;> first | rfl | (have := k4 rfl; cases this)
                    rw [this]; exact AV.one_plain (d4 b (by simp))
                  · rw [h1]; exact k6 hs1
                · exact i1 y hy o ho
              · rintro y ⟨j, j1, j2, j3⟩ o ho
                by_cases hj : j < ka
                · have hr : Rng t k ka y := ⟨j, j1, hj, j3⟩
                  have ho' := ho
                  rw [(tr y hr).1] at ho'
                  cases el : lookT y os with
                  | none => rw [el] at ho'; cases ho'
                  | some p =>
                    rw [el] at ho'
                    cases ho'
                    exact u2 _ (lookT_mem el)
                · exact i2 y ⟨j, by omega, j2, j3⟩ o ho
            · intro σ' hw hfl x hx
              simp only [List.mem_cons] at hx
              rcases hx with rfl | hx
              · have h1 : σ'.getO (m x) = _ := hw _ List.mem_cons_self
                refine ⟨by rw [h1], fun e' l' cap' fz' s1' ho => ?_⟩
                rw [b1] at ho
                cases ho
              · exact e10 σ' (fun w h => hw w (by simp [h])) hfl x hx
          · cases hb
        · cases hb
      · cases hb
    unfold BK at hk0
    cases a with
    | io cin cout => exact io_case _ _ rfl
    | own e back =>
      cases back with
      | true => exact own_case e rfl
      | false => exact none_case hk0.1 hk0.2 hb1.1 hb1.2 (by simpa only [backT, hk0.1] using hb)
    | val => exact none_case hk0.1 hk0.2 hb1.1 hb1.2 (by simpa only [backT, hk0.1] using hb)
    | oagg => exact none_case hk0.1 hk0.2 hb1.1 hb1.2 (by simpa only [backT, hk0.1] using hb)
    | ro => exact none_case hk0.1 hk0.2 hb1.1 hb1.2 (by simpa only [backT, hk0.1] using hb)
    | fn => exact none_case hk0.1 hk0.2 hb1.1 hb1.2 (by simpa only [backT, hk0.1] using hb)
end
end Go.Vm
/- A call: the state after it. -/
namespace Go.Vm
section
variable {τ : TState} {σ : State} {m : Nat → Slot} {K : List Key} {t : Nat}

theorem nodup_of : ∀ {l : List Nat}, l.Nodup → nodup l = true
  | [], _ => rfl
  | x :: xs, h => by
    have h' := List.nodup_cons.1 h
    simp only [nodup, Bool.and_eq_true, Bool.not_eq_true']
    exact ⟨by simpa using h'.1, nodup_of h'.2⟩

theorem SendsOK.ars {as : List AT} {ss : List SentT} {us : List Sent} (h : SendsOK m τ σ as ss us) : ARs as (ss.flatMap (·.pl)) (us.map (·.a)) := by
  induction h with
  | nil => exact ⟨rfl, rfl⟩
  | cons h _ ih => exact ⟨_, _, _, _, rfl, rfl, h.ar, ih⟩
theorem SendsOK.picks {as : List AT} {ss : List SentT} {us : List Sent} (h : SendsOK m τ σ as ss us) :
    ∃ rd, Picks m (ss.flatMap (·.mvN)) (ss.flatMap (·.mvS)) (us.flatMap (·.moved)) rd ∧ ∀ x ∈ us.flatMap (·.read), x ∈ ss.flatMap (·.rdS) ∨ (x ∈ rd ∧ x ∈ ss.flatMap (·.mrS)) := by
  induction h with
  | nil => exact ⟨[], .nil, by simp⟩
  | cons h _ ih =>
    obtain ⟨rd, h1, h2⟩ := h.pk
    obtain ⟨rd', h3, h4⟩ := ih
    refine ⟨rd ++ rd', by simp only [List.flatMap_cons]; exact h1.append h3, fun x hx => ?_⟩
    simp only [List.flatMap_cons, List.mem_append] at hx ⊢
    rcases hx with hx | hx
    · rcases h2 x hx with h | ⟨h, h'⟩
      · exact .inl (.inl h)
      · exact .inr ⟨.inl h, .inl h'⟩
    · rcases h4 x hx with h | ⟨h, h'⟩
      · exact .inl (.inr h)
      · exact .inr ⟨.inr h, .inr h'⟩
theorem SendsOK.names {as : List AT} {ss : List SentT} {us : List Sent} (h : SendsOK m τ σ as ss us) : ∀ n ∈ ss.flatMap (·.mvN), τ.getO n ≠ none := by
  induction h with
  | nil => simp
  | cons h _ ih =>
    intro n hn
    simp only [List.flatMap_cons, List.mem_append] at hn
    exact hn.elim (h.nm n) (ih n)
theorem SendsOK.keys {as : List AT} {ss : List SentT} {us : List Sent} (h : SendsOK m τ σ as ss us) : ∀ z ∈ nameKeys τ (ss.flatMap (·.mvN)) ++ ss.flatMap (·.mvS), z ∈ ss.flatMap (·.keys) := by
  induction h with
  | nil => simp [nameKeys]
  | cons h _ ih =>
    intro z hz
    simp only [List.flatMap_cons, nameKeys_append, List.mem_append] at hz ⊢
    rcases hz with (hz | hz) | (hz | hz)
    · exact .inl (h.ky z (by simp [hz]))
    · exact .inr (ih z (by simp [hz]))
    · exact .inl (h.ky z (by simp [hz]))
    · exact .inr (ih z (by simp [hz]))
theorem SendOK.keep {a : AT} {s : SentT} {u : Sent} (h : SendOK m τ σ a s u) : ∀ d off n, s.back = some (d, off, n) → d ∈ s.mvN := by
  intro d off n hb
  have hk := h.bk
  cases a with
  | io => obtain ⟨d', _, _, _, _, _, h1, h2, _⟩ := hk; rw [hb] at h1; cases h1; exact h2
  | own e back =>
    cases back with
    | true => obtain ⟨d', _, _, _, h1, h2, _⟩ := hk; rw [hb] at h1; cases h1; exact h2
    | false => rw [hk.1] at hb; cases hb
  | val => rw [hk.1] at hb; cases hb
  | oagg => rw [hk.1] at hb; cases hb
  | ro => rw [hk.1] at hb; cases hb
  | fn => rw [hk.1] at hb; cases hb
theorem keepN_cons (s : SentT) (ss : List SentT) : keepN (s :: ss) = (match s.back with
    | some (d, _, _) => [d]
    | none => []) ++ keepN ss := by unfold keepN; rw [List.flatMap_cons]; rfl
theorem SendsOK.keepN {as : List AT} {ss : List SentT} {us : List Sent} (h : SendsOK m τ σ as ss us) : (∀ d ∈ keepN ss, d ∈ ss.flatMap (·.mvN)) ∧ ((ss.flatMap (·.mvN)).Nodup → (keepN ss).Nodup) := by
  induction h with
  | nil => exact ⟨by simp [Vm.keepN], fun _ => by simp [Vm.keepN]⟩
  | @cons a s u as ss us h _ ih =>
    rw [keepN_cons]
    have hh := h.keep
    refine ⟨fun d hd => ?_, fun hn => ?_⟩
    · simp only [List.flatMap_cons, List.mem_append] at hd ⊢
      rcases hd with hd | hd
      · left
        split at hd
        · rename_i d' o n hb
          simp only [List.mem_cons, List.not_mem_nil, or_false] at hd
          subst hd
          exact hh _ _ _ hb
        · cases hd
      · exact .inr (ih.1 d hd)
    · simp only [List.flatMap_cons] at hn
      have hn' := List.nodup_append.1 hn
      split
      · rename_i d' o n hb
        simp only [List.singleton_append]
        exact List.nodup_cons.2 ⟨fun hm => hn'.2.2 d' (hh _ _ _ hb) d' (ih.1 d' hm) rfl, ih.2 hn'.2.1⟩
      · exact ih.2 hn'.2.1
theorem widths_drop (ns ss : List Nat) : ∀ (cs : List TC), widths (cs.map (TC.drop ns ss)) = widths cs
  | [] => rfl
  | c :: cs => by
    have : (c.drop ns ss).width = c.width := by
      rcases TC.drop_cases ns ss c with ⟨h1, h2⟩ | ⟨h1, _⟩
      · rw [h1, h2]; rfl
      · rw [h1]
    simp only [List.map_cons]
    show (c.drop ns ss).width + widths (cs.map (TC.drop ns ss)) = c.width + widths cs
    rw [this, widths_drop ns ss cs]
theorem SendsOK.bks {as : List AT} {ss : List SentT} {us : List Sent} (h : SendsOK m τ σ as ss us) {ns sl : List Nat} (hk : ∀ d ∈ Vm.keepN ss, (((τ.drop ns sl).getO d).isSome) = true) : BKs m (τ.drop ns sl) σ as ss us := by
  induction h with
  | nil => exact .nil
  | @cons a s u as ss us h _ ih =>
    rw [keepN_cons] at hk
    refine .cons ?_ (ih fun d hd => hk d (List.mem_append_right _ hd))
    have hb := h.bk
    have key : ∀ d off n, s.back = some (d, off, n) → (τ.drop ns sl).getO d = (τ.getO d).map (TO.mapC (TC.drop ns sl)) := by
      intro d off n hs
      have := hk d (by rw [hs]; simp)
      rw [TState.getO_drop] at this ⊢
      split at this
      · cases this
      · rename_i hh; rw [if_neg hh]
    unfold BK
    cases a with
    | io =>
      obtain ⟨d, off, n, g, cs, s1, h1, h2, h3, h4, h5, h6⟩ := hb
      exact ⟨d, off, n, g, cs.map (TC.drop ns sl), s1, h1, by rw [key _ _ _ h1, h3]; rfl, h4, by rw [widths_drop]; exact h5, h6⟩
    | own e back =>
      cases back with
      | true =>
        obtain ⟨d, l, cap, s1, h1, h2, h3, h4, h5, h6⟩ := hb
        exact ⟨d, l, cap, s1, h1, by rw [key _ _ _ h1, h3]; rfl, h4, h5, h6⟩
      | false => exact hb
    | val => exact hb
    | oagg => exact hb
    | ro => exact hb
    | fn => exact hb

/-! ### Writes -/
theorem holds_keep {w : W} : ∀ {ws : List W} {σ : State}, w.holds σ → (∀ v ∈ ws, match w, v with
    | .o d _, .o d' _ => d' ≠ d
    | .f _ b, .f _ b' => b = false ∧ b' = false
    | .t _ _, _ => False
    | _, .t _ _ => False
    | _, _ => True) → w.holds (σ.applyAll ws)
  | [], σ, h, _ => h
  | v :: ws, σ, h, hv => by
    rw [applyAll_cons]
    refine holds_keep ?_ fun v hv' => hv v (by simp [hv'])
    have := hv v (by simp)
    cases w with
    | t => cases v <;> exact this.elim
    | o d s =>
      cases v with
      | t => exact this.elim
      | o d' s' =>
        have h' : σ.getO d = s := h
        show ((W.o d' s').apply σ).getO d = s
        rw [getO_o, if_neg (fun e => this e.symm)]; exact h'
      | f => exact h
    | f d b =>
      cases v with
      | t => exact this.elim
      | o => exact h
      | f d' b' =>
        obtain ⟨rfl, rfl⟩ := this
        have h' : σ.getF d = false := h
        show ((W.f d' false).apply σ).getF d = false
        rw [getF_f]; split
        · rfl
        · exact h'
/-- Writes of objects at different places, and of flags that are let down. -/
def GoodW (ws : List W) : Prop := (∀ w ∈ ws, match w with
    | .o _ s => s.obj.isSome = true
    | .f _ b => b = false
    | .t _ _ => False) ∧ (madeAt ws).Nodup
theorem made_of_mem : ∀ {ws : List W} {d : Slot} {s : SlotSt}, W.o d s ∈ ws → s.obj.isSome = true → d ∈ madeAt ws
  | [], _, _, h, _ => by cases h
  | .o d' s' :: ws, d, s, h, hs => by
    simp only [List.mem_cons, W.o.injEq] at h
    rcases h with ⟨rfl, rfl⟩ | h
    · simp [madeAt, hs]
    · have := made_of_mem h hs
      simp only [madeAt]
      split
      · exact List.mem_cons_of_mem _ this
      · exact this
  | .f _ _ :: ws, d, s, h, hs => by
    simp only [List.mem_cons, reduceCtorEq, false_or] at h
    simp only [madeAt]; exact made_of_mem h hs
  | .t _ _ :: ws, d, s, h, hs => by
    simp only [List.mem_cons, reduceCtorEq, false_or] at h
    simp only [madeAt]; exact made_of_mem h hs
theorem GoodW.holds : ∀ {ws : List W} {σ : State}, GoodW ws → ∀ w ∈ ws, w.holds (σ.applyAll ws)
  | [], _, _, w, hw => by cases hw
  | v :: ws, σ, ⟨h1, h2⟩, w, hw => by
    have hg : GoodW ws := ⟨fun w hw => h1 w (by simp [hw]), by
      cases v with
      | o d s =>
        simp only [madeAt] at h2
        split at h2
        · exact (List.nodup_cons.1 h2).2
        · exact h2
      | f => exact h2
      | t => exact h2⟩
    rw [applyAll_cons]
    simp only [List.mem_cons] at hw
    rcases hw with rfl | hw
    · refine holds_keep ?_ fun v hv => ?_
      · cases w with
        | o d s => show ((W.o d s).apply σ).getO d = s; rw [getO_o, if_pos rfl]
        | f d b => show ((W.f d b).apply σ).getF d = b; rw [getF_f, if_pos rfl]
        | t => exact (h1 _ List.mem_cons_self).elim
      · have hv1 := hg.1 v hv
        have hw1 := h1 w List.mem_cons_self
        cases w with
        | t => exact hw1.elim
        | o d s =>
          cases v with
          | t => exact hv1.elim
          | o d' s' =>
            simp only at hw1 hv1 ⊢
            rintro rfl
            simp only [madeAt, hw1, if_true] at h2
            exact (List.nodup_cons.1 h2).1 (made_of_mem hv hv1)
          | f => trivial
        | f d b =>
          cases v with
          | t => exact hv1.elim
          | o => trivial
          | f d' b' => exact ⟨hw1, hv1⟩
    · exact hg.holds w hw
theorem flag_keep : ∀ {ws : List W} {σ : State}, (∀ w ∈ ws, match w with
    | .f _ b => b = false
    | .t _ _ => False
    | _ => True) → ∀ s, σ.getF s = false → (σ.applyAll ws).getF s = false
  | [], _, _, s, h => h
  | w :: ws, σ, hw, s, h => by
    rw [applyAll_cons]
    refine flag_keep (fun w h => hw w (by simp [h])) s ?_
    have := hw w (by simp)
    cases w with
    | t => exact this.elim
    | o => exact h
    | f d b =>
      have hb : b = false := this
      subst hb
      rw [getF_f]; split
      · rfl
      · exact h

end
end Go.Vm
/- A call: the new state described. -/
namespace Go.Vm
section
variable {τ : TState} {σ : State} {m : Nat → Slot} {K : List Key} {t : Nat}

theorem mapR_getOs {K : List Key} {ds : List Slot} (h : ∀ d ∈ ds, Key.o d ∈ K) : Does (mapR (fun d => R.getO d .ret) ds) σ (ds.map σ.getO) K := by
  induction ds with
  | nil => exact Does.ret _
  | cons d ds ih =>
    simp only [mapR, List.map_cons]
    exact Does.bind (Does.getO (h d (by simp)) (Does.ret _)) (Does.bind (ih fun x hx => h x (by simp [hx])) (Does.ret _))

/-! ### Results without lists that may be shared -/
theorem AV.flatL_append : ∀ {a b : List AV}, AV.flat.flatL (a ++ b) = (AV.flat.flatL a && AV.flat.flatL b)
  | [], b => by simp [AV.flat.flatL]
  | x :: a, b => by simp [AV.flat.flatL, AV.flatL_append (a := a), Bool.and_assoc]
theorem flatL_all : ∀ {as : List AV}, (∀ a ∈ as, a.flat = true) → AV.flat.flatL as = true
  | [], _ => rfl
  | a :: as, h => by
    simp only [AV.flat.flatL, Bool.and_eq_true]
    exact ⟨h a (by simp), flatL_all fun x hx => h x (by simp [hx])⟩
theorem Ty.cells_flat (t : Ty) (x : t.D) (h : t.flat = true) : ∀ a ∈ t.cells x, a.flat = true := by
  intro a ha
  have h1 := t.cells_leaf x a ha
  have h2 := t.flat_cells x h a ha
  cases a <;> first | rfl | (cases h1; done) | exact absurd rfl (h2 _ _)
theorem Ty.enc_flat (t : Ty) (x : t.D) (h : t.flat = true) : (t.enc x).flat = true := by
  have hc := t.cells_flat x h
  unfold Ty.enc enc1
  cases ho : t.one with
  | false =>
    simp only [Bool.false_eq_true, if_false, AV.flat]
    exact flatL_all hc
  | true =>
    simp only [if_true]
    obtain ⟨a, h1, _⟩ := Ty.one_cells ho x
    rw [h1] at hc ⊢
    exact hc a (by simp)
theorem KRs.flat : ∀ {b : Bool} {ks : List RK} {ps : List DP} {as : List AV}, KRs b ks ps as → ks.all RK.flatB = true → AV.flat.flatL as = true
  | _, [], ps, as, ⟨_, h⟩, _ => by rw [h]; rfl
  | _, k :: ks, ps, as, ⟨p, pr, q, r, h1, h2, h3, h4⟩, hf => by
    simp only [List.all_cons, Bool.and_eq_true] at hf
    rw [h2, AV.flatL_append, KRs.flat h4 hf.2, Bool.and_true]
    cases k with
    | v t => obtain ⟨x, _, rfl⟩ := h3; exact flatL_all (t.cells_flat x hf.1)
    | lst e => cases hf.1
    | own e =>
      obtain ⟨l, _, a, rfl, h3⟩ := h3
      rcases h3 with rfl | ⟨_, _, rfl⟩
      · simp only [AV.flat.flatL, AV.flat, Bool.and_true]
        exact flatL_all (by
          intro a ha
          obtain ⟨x, _, rfl⟩ := List.mem_map.1 ha
          exact e.enc_flat x hf.1)
      · rfl
theorem RRs.flat : ∀ {rs : List (RTag × List RK)} {ps : List DP} {as : List AV}, RRs rs ps as → (rs.all fun p => p.2.all RK.flatB) = true → AV.flat.flatL as = true
  | [], ps, as, ⟨_, h⟩, _ => by rw [h]; rfl
  | r :: rs, ps, as, ⟨p1, p2, a, as', h1, h2, h3, h4⟩, hf => by
    obtain ⟨ag, ks⟩ := r
    simp only [List.all_cons, Bool.and_eq_true] at hf
    rw [h2]
    simp only [AV.flat.flatL, RRs.flat h4 hf.2, Bool.and_true]
    cases ag with
    | one =>
      have := KRs.flat h3 hf.1
      simpa [AV.flat.flatL] using this
    | agg => obtain ⟨xs, rfl, h3⟩ := h3; exact KRs.flat h3 hf.1
    | ptr => obtain ⟨xs, rfl, h3⟩ := h3; exact KRs.flat h3 hf.1
theorem tupA_flat {as : List AV} (h : AV.flat.flatL as = true) : (tupA as).flat = true := by
  match as, h with
  | [], _ => rfl
  | [a], h => have h' : a.flat = true := by simpa [AV.flat.flatL] using h
              exact h'
  | _ :: _ :: _, h => exact h
theorem BRs.flat : ∀ {as : List AT} {vs : List AV} {ps : List DP} {bs : List (Option AV)}, BRs as vs ps bs → as.all AT.flatB = true → flatBacks bs = true
  | [], vs, ps, bs, ⟨_, h, _⟩, _ => by rw [h]; rfl
  | a :: as, vs, ps, bs, ⟨v, vs', p1, p2, b, bs', _, _, h2, h3, h4⟩, hf => by
    simp only [List.all_cons, Bool.and_eq_true] at hf
    rw [h2]
    have ih := BRs.flat h4 hf.2
    have hn : b = none → flatBacks (b :: bs') = true := by rintro rfl; exact ih
    cases a with
    | io cin cout =>
      obtain ⟨xs, rfl, h3⟩ := h3
      simp only [flatBacks, ih, Bool.and_true]
      exact KRs.flat h3 hf.1
    | own e back =>
      cases back with
      | true =>
        obtain ⟨l, l0, _, rfl, _⟩ := h3
        simp only [flatBacks, ih, Bool.and_true, AV.flat]
        exact flatL_all (by
          intro a ha
          obtain ⟨x, _, rfl⟩ := List.mem_map.1 ha
          exact e.enc_flat x hf.1)
      | false => exact hn h3.2
    | val => exact hn h3.2
    | oagg => exact hn h3.2
    | ro => exact hn h3.2
    | fn => exact hn h3.2

/-! ### The relation for the state afterwards -/
theorem RX.there {g : Bool} {cs : List TC} {a : AV} (hx : RX τ σ m g cs a) : ∀ c ∈ cs, ∀ d ∈ c.names, τ.getO d ≠ none := by
  unfold RX at hx
  cases g with
  | true => obtain ⟨as, _, h2⟩ := hx; exact h2.there
  | false => exact RCs.there hx.2
theorem RT.there {v : TV} {a : AV} (hv : RT τ σ m v a) : ∀ c ∈ v.all, ∀ d ∈ c.names, τ.getO d ≠ none := by
  intro c hc
  cases v with
  | c x => simp [TV.all] at hc; subst hc; exact RC.there hv
  | agg cs => obtain ⟨as, _, h2⟩ := hv; exact h2.there c hc
  | fn g fs cs =>
    obtain ⟨x, y, h1, h2, h3, h4, h5⟩ := hv
    simp only [TV.all, List.mem_append] at hc
    rcases hc with hc | hc
    · obtain ⟨j, hj, e⟩ := List.mem_iff_getElem.1 hc
      exact (h4 j c x[j] (by rw [List.getElem?_eq_getElem hj, e]) (List.getElem?_eq_getElem (by omega))).there
    · obtain ⟨j, hj, e⟩ := List.mem_iff_getElem.1 hc
      exact (h5 j c y[j] (by rw [List.getElem?_eq_getElem hj, e]) (List.getElem?_eq_getElem (by omega))).there
  | tup vs =>
    obtain ⟨as, h1, h2, h3⟩ := hv
    simp only [TV.all, List.mem_flatMap] at hc
    obtain ⟨p, hp, hc⟩ := hc
    obtain ⟨j, hj, e⟩ := List.mem_iff_getElem.1 hp
    exact (h3 j p as[j] (by rw [List.getElem?_eq_getElem hj, e]) (List.getElem?_eq_getElem (by omega))).there c hc
theorem Rel.patch {τ' : TState} {σ' : State} {m' : Nat → Slot} (h : Rel m τ σ) (new D : Nat → Prop) (hT : ∀ n, σ'.getT n = σ.getT n) (hl : σ'.tm.length = σ.tm.length) (htm : τ'.tm = τ.tm)
    (hn0 : ∀ x, new x → τ.getO x = none) (hm : ∀ x, ¬ new x → m' x = m x) (hmn : ∀ x, new x → m' x = x) (hdisj : ∀ x, τ.getO x ≠ none → ¬ new (m x))
    (hat : ∀ x, new x → τ'.getO x ≠ none → τ'.at_ x = [x]) (hold : ∀ x, ¬ new x → (τ'.getO x ≠ none → τ.getO x ≠ none) ∧ τ'.at_ x = τ.at_ x)
    (hst : ∀ x, τ.getO x ≠ none → Stays τ τ' σ σ' m m' x) (hrs : ∀ c, τ.Has c → ∀ s ∈ c.rslots, σ'.getO s = σ.getO s)
    (hob : ∀ x o, τ'.getO x = some o → new x ∨ D x → RO τ' σ' m' (m' x) o)
    (hsame : ∀ x, ¬ new x → ¬ D x → τ'.getO x = τ.getO x ∧ (τ.getO x ≠ none → σ'.getO (m x) = σ.getO (m x) ∧ σ'.getF (m x) = σ.getF (m x))) : Rel m' τ' σ' := by
  have thereT : ∀ n, ∀ c ∈ (τ.getT n).all, ∀ d ∈ c.names, τ.getO d ≠ none := fun n => RT.there (h.tm n)
  refine ⟨by rw [hl, htm]; exact h.len, fun n => ?_, fun d d' hd h1 h2 => ?_, fun d hd => ?_, fun d o ho => ?_⟩
  · have : τ'.getT n = τ.getT n := by unfold TState.getT; rw [htm]
    rw [this, hT]
    exact (h.tm n).frame (fun c hc d hd => hst d (thereT n c hc d hd)) (fun c hc s hs => hrs c (.inl ⟨n, hc⟩) s hs)
  · by_cases n1 : new d <;> by_cases n2 : new d'
    · rw [hmn d n1, hmn d' n2]; exact hd
    · rw [hmn d n1, hm d' n2]
      intro e
      exact hdisj d' ((hold d' n2).1 h2) (e ▸ n1)
    · rw [hm d n1, hmn d' n2]
      intro e
      exact hdisj d ((hold d n1).1 h1) (e ▸ n2)
    · rw [hm d n1, hm d' n2]
      exact h.inj d d' hd ((hold d n1).1 h1) ((hold d' n2).1 h2)
  · by_cases n1 : new d
    · rw [hmn d n1, hat d n1 hd]; simp
    · rw [hm d n1, (hold d n1).2]; exact h.at_ d ((hold d n1).1 hd)
  · by_cases n1 : new d ∨ D d
    · exact hob d o ho n1
    · simp only [not_or] at n1
      obtain ⟨h1, h2⟩ := hsame d n1.1 n1.2
      rw [h1] at ho
      have hd : τ.getO d ≠ none := by rw [ho]; simp
      obtain ⟨h3, h4⟩ := h2 hd
      rw [hm d n1.1]
      have := h.ob d o ho
      cases o with
      | gone => show (σ'.getO (m d)).obj = none; rw [h3]; exact this
      | sl e l cap fz s1 =>
        refine ⟨this.1.imp (fun q => ⟨?_, fun hz => ?_⟩) id, fun q => ?_⟩
        · rw [h3]; exact q.1
        · rw [h4]; exact q.2 hz
        · rw [h3]; exact this.2 q
      | var g cs fz s1 =>
        obtain ⟨⟨st, e, c, x, k1, k2, k3⟩, k4, k5⟩ := this
        have k2' : RX τ' σ' m' g cs x := k2.frame (fun c hc d' hd' => hst d' ?_) (fun c hc s hs => hrs c (.inr ⟨d, _, ho, hc⟩) s hs)
        · exact ⟨⟨st, e, c, x, by rw [h3]; exact k1, k2', k3⟩, fun hz => by rw [h4]; exact k4 hz, fun q => by rw [h3]; exact k5 q⟩
        · exact (k2.cellsOK k3).there c hc d' hd'
end
end Go.Vm
/- A call. -/
namespace Go.Vm
section
variable {τ : TState} {σ : State} {m : Nat → Slot} {K : List Key} {t : Nat} {ρ : Type} {r : ρ} {k : KT ρ} {orc : Oracle}

theorem gone_noT (l : List Slot) (olds : List SlotSt) : ((l.zip olds).map fun (p : Slot × SlotSt) => W.o p.1 ⟨p.2.st, none⟩).all W.noT = true := by
  simp [List.all_map, List.all_eq_true, W.noT]

/-- The state with the result, before anything is frozen. -/
theorem after_ok (h : Rel m τ σ) {sig : Sig} {ss : List SentT} {us : List Sent} (hs : SendsOK m τ σ sig.args ss us) {vs' : List (Bool × List TC)} {os : List (Nat × List Slot × TO)} {k1 k2 n : Nat} {l p1 p2 : List DP} {tv : TV} {vs : List AV} {bs : List (Option AV)} {τ3 : TState}
    (hn : n = (sig.res.map fun p => countL p.2 + (if p.1 = .ptr then 1 else 0)).sum + (sig.args.map AT.count).sum)
    (hi : impRs t 0 sig.res (p1 ++ p2) = some (vs', os, k1, l)) (ht : tupT vs' = some tv) (hr : RRs sig.res p1 vs) (hb : BRs sig.args (us.map (·.a)) p2 bs)
    {new : List Nat} (hnew : new = (List.range n).map (64 * t + ·)) {gone : List Nat} (hgone : gone = (ss.flatMap (·.mvN)).filter fun d => !(keepN ss).contains d)
    {τ2 : TState} (hτ2 : τ2 = τ.drop (gone ++ new ++ τ.namesAt (new ++ ss.flatMap (·.mvS))) (nameKeys τ (ss.flatMap (·.mvN)) ++ ss.flatMap (·.mvS) ++ new))
    (hbt : backT t k1 sig.args ss τ2 l = some (τ3, k2, [])) (hkeep : (keepN ss).all (fun d => (τ2.getO d).isSome) = true)
    (hmvN : (ss.flatMap (·.mvN)).Nodup) 
    (hk : ∀ z ∈ oKeys (ss.flatMap (·.keys)) ++ oKeys new, z ∈ K) :
    ∃ m' b wsR wsB, Does (impR t depth 0 (tupA vs)) σ (b, wsR, k1) K ∧ Does (backR t k1 us bs) σ wsB K ∧ (madeAt (wsR ++ wsB)).Nodup ∧ (wsR ++ wsB).all W.noT = true ∧
      (∀ w ∈ wsR ++ wsB, w.key ∈ oKeys (nameKeys τ (ss.flatMap (·.mvN)) ++ ss.flatMap (·.mvS) ++ new)) ∧
      ∀ σ1, σ1 = (σ.applyAll ((us.flatMap (·.moved)).zip ((us.flatMap (·.moved)).map σ.getO) |>.map fun (p : Slot × SlotSt) => W.o p.1 ⟨p.2.st, none⟩)).applyAll (wsR ++ wsB) →
        Rel m' { τ3 with ob := os ++ τ3.ob } σ1 ∧ RT { τ3 with ob := os ++ τ3.ob } σ1 m' tv b := by
  have hk1 := impRs_le hi
  have hk2 := backT_le hbt
  have hnN : k2 ≤ n := by omega
  have hk1n : k1 ≤ n := by omega
  have memnew : ∀ x, x ∈ new ↔ Rng t 0 n x := by
    intro x
    rw [hnew]
    simp only [List.mem_map, List.mem_range, Rng]
    exact ⟨fun ⟨j, a, b⟩ => ⟨j, Nat.zero_le _, a, b.symm⟩, fun ⟨j, _, a, b⟩ => ⟨j, a, b.symm⟩⟩
  have hknew : ∀ x, Rng t 0 n x → Key.o x ∈ K := fun x hx => hk _ (List.mem_append_right _ (oKeys_o ((memnew x).2 hx)))
  obtain ⟨rfl, b, wsR, d1, d2, d3, d4⟩ := res_ok (σ := σ) (K := K) (f := 3) hi rfl hr ht (fun j hj => hknew _ ⟨j, Nat.zero_le _, by omega, rfl⟩)
  have hr2 : Rel m τ2 σ := by rw [hτ2]; exact h.drop _ _
  -- what is dropped
  have hdn : ∀ x, τ2.getO x ≠ none → x ∉ gone ∧ x ∉ new ∧ x ∉ τ.namesAt (new ++ ss.flatMap (·.mvS)) ∧ τ.getO x ≠ none := by
    intro x hx
    rw [hτ2, TState.getO_drop] at hx
    split at hx
    · exact absurd rfl hx
    · rename_i hh
      have hh' : ¬ x ∈ gone ++ new ++ τ.namesAt (new ++ ss.flatMap (·.mvS)) := by simpa using hh
      simp only [List.mem_append, not_or] at hh'
      refine ⟨hh'.1.1, hh'.1.2, by simpa using hh'.2, fun e => ?_⟩
      rw [e] at hx; exact hx rfl
  have hatd : ∀ x, τ2.getO x ≠ none → τ2.at_ x = τ.at_ x := by
    intro x hx
    obtain ⟨a, b, c, _⟩ := hdn x hx
    rw [hτ2]
    exact TState.at_drop (by simp only [List.mem_append, not_or]; exact ⟨⟨a, b⟩, by simpa using c⟩)
  have hslot : ∀ x, τ2.getO x ≠ none → m x ∉ new ∧ m x ∉ ss.flatMap (·.mvS) := by
    intro x hx
    obtain ⟨_, _, c, d⟩ := hdn x hx
    have ha := h.at_ x d
    refine ⟨fun hm => c (TState.mem_namesAt d ⟨m x, ha, List.mem_append_left _ hm⟩), fun hm => c (TState.mem_namesAt d ⟨m x, ha, List.mem_append_right _ hm⟩)⟩
  have hkeep' : ∀ x ∈ keepN ss, τ2.getO x ≠ none := by
    intro x hx e
    have := List.all_eq_true.1 hkeep x hx
    rw [e] at this; cases this
  have hkN := hs.keepN
  have hko : ∀ d ∈ keepN ss, Key.o (m d) ∈ K := by
    intro d hd
    have h1 := hkN.1 d hd
    refine hk _ (List.mem_append_left _ (oKeys_o (hs.keys _ (List.mem_append_left _ ?_))))
    exact List.mem_flatMap.2 ⟨d, h1, h.at_ d (hs.names d h1)⟩
  have hbks : BKs m τ2 σ sig.args ss us := by
    rw [hτ2]
    exact hs.bks fun d hd => by
      have := hkeep' d hd
      rw [hτ2] at this
      cases e : TState.getO _ d with
      | none => exact absurd e this
      | some o => rfl
  obtain ⟨_, _, wsB, e3, e4, e5, e6, e7, e8, e9, e10⟩ := backT_ok (K := K) hr2 hbks hbt (List.append_nil _).symm hb (hkN.2 hmvN) hnN (fun d _ => ⟨rfl, rfl⟩)
    (fun x ⟨j, a, b, c⟩ => by
      cases e : τ2.getO x with
      | none => rfl
      | some o => exact absurd ((memnew x).2 ⟨j, Nat.zero_le _, b, c⟩) (hdn x (by rw [e]; simp)).2.1)
    (fun d hd => ⟨fun ⟨j, a, b, c⟩ => (hdn d (hkeep' d hd)).2.1 ((memnew d).2 ⟨j, Nat.zero_le _, b, c⟩), fun ⟨j, a, b, c⟩ => (hslot d (hkeep' d hd)).1 ((memnew _).2 ⟨j, Nat.zero_le _, b, c⟩)⟩)
    hko (fun x ⟨j, a, b, c⟩ => hknew x ⟨j, Nat.zero_le _, b, c⟩)
  -- the writes
  have hgood : GoodW (wsR ++ wsB) := by
    refine ⟨fun w hw => ?_, ?_⟩
    · rcases List.mem_append.1 hw with hw | hw
      · have := d2.1 w hw
        cases w with
        | o d s => exact this.2
        | f d b => exact this.1
        | t => exact this
      · have := e6.1 w hw
        cases w with
        | o d s => exact this.2
        | f d b => exact this.1
        | t => exact this
    · rw [madeAt_append]
      refine List.nodup_append.2 ⟨d2.2, e6.2, fun y hy z hz e => ?_⟩
      subst e
      obtain ⟨j, j1, j2, j3⟩ := d2.made hy
      rcases e6.made hz with ⟨j', i1, i2, i3⟩ | ⟨x, hx, e⟩
      · have : (64 * t + j : Nat) = 64 * t + j' := j3.symm.trans i3
        omega
      · exact (hslot x (hkeep' x hx)).1 ((memnew _).2 ⟨j, j1, by omega, e.symm.trans j3⟩)
  have hnoT : (wsR ++ wsB).all W.noT = true := by
    rw [List.all_eq_true]
    intro w hw
    have := hgood.1 w hw
    cases w with
    | o => rfl
    | f => rfl
    | t => exact this.elim
  have hwslot : ∀ w ∈ wsR ++ wsB, ∀ s ∈ w.slots, s ∈ new ∨ ∃ x ∈ keepN ss, s = m x := by
    intro w hw s hs
    rcases List.mem_append.1 hw with hw | hw
    · have := d2.1 w hw
      cases w with
      | o d s0 =>
        simp only [W.slots, List.mem_cons, List.not_mem_nil, or_false] at hs
        subst hs
        obtain ⟨⟨j, a, b, c⟩, _⟩ := this
        exact .inl ((memnew _).2 ⟨j, a, by omega, c⟩)
      | f d b0 =>
        simp only [W.slots, List.mem_cons, List.not_mem_nil, or_false] at hs
        subst hs
        obtain ⟨_, j, a, b, c⟩ := this
        exact .inl ((memnew _).2 ⟨j, a, by omega, c⟩)
      | t => exact this.elim
    · have := e6.1 w hw
      cases w with
      | o d s0 =>
        simp only [W.slots, List.mem_cons, List.not_mem_nil, or_false] at hs
        subst hs
        rcases this.1 with ⟨j, a, b, c⟩ | h
        · exact .inl ((memnew _).2 ⟨j, Nat.zero_le _, by omega, c⟩)
        · exact .inr h
      | f d b0 =>
        simp only [W.slots, List.mem_cons, List.not_mem_nil, or_false] at hs
        subst hs
        obtain ⟨_, j, a, b, c⟩ := this
        exact .inl ((memnew _).2 ⟨j, Nat.zero_le _, by omega, c⟩)
      | t => exact this.elim
  have hkpslot : ∀ x ∈ keepN ss, m x ∈ nameKeys τ (ss.flatMap (·.mvN)) := by
    intro x hx
    have h1 := hkN.1 x hx
    exact List.mem_flatMap.2 ⟨x, h1, h.at_ x (hs.names x h1)⟩
  refine ⟨fun x => if x ∈ new then x else m x, b, wsR, wsB, d1, e3, hgood.2, hnoT, ?_, ?_⟩
  · intro w hw
    have hin : ∀ s ∈ w.slots, s ∈ nameKeys τ (ss.flatMap (·.mvN)) ++ ss.flatMap (·.mvS) ++ new := by
      intro s hs
      rcases hwslot w hw s hs with h1 | ⟨x, hx, rfl⟩
      · exact List.mem_append_right _ h1
      · exact List.mem_append_left _ (List.mem_append_left _ (hkpslot x hx))
    have hg := hgood.1 w hw
    cases w with
    | o d s => exact oKeys_o (hin d (by simp [W.slots]))
    | f d b => exact oKeys_f (hin d (by simp [W.slots]))
    | t => exact hg.elim
  · intro σ1 hσ1
    obtain ⟨RD, hpk, _⟩ := hs.picks
    -- what is touched
    have hmoved : ∀ s ∈ us.flatMap (·.moved), (∃ x ∈ ss.flatMap (·.mvN), s = m x) ∨ s ∈ ss.flatMap (·.mvS) := fun s hs => hpk.mem s (List.mem_append_left _ hs)
    have hag1 : Agree (us.flatMap (·.moved)) σ (σ.applyAll ((us.flatMap (·.moved)).zip ((us.flatMap (·.moved)).map σ.getO) |>.map fun (p : Slot × SlotSt) => W.o p.1 ⟨p.2.st, none⟩)) := by
      refine (agree_ws (gone_noT _ _)).mono ?_
      intro s hs
      simp only [List.mem_flatMap, List.mem_map] at hs
      obtain ⟨w, ⟨p, hp, rfl⟩, hs⟩ := hs
      simp only [W.slots, List.mem_cons, List.not_mem_nil, or_false] at hs
      subst hs
      exact (List.of_mem_zip hp).1
    have hag2 : Agree ((wsR ++ wsB).flatMap W.slots) (σ.applyAll ((us.flatMap (·.moved)).zip ((us.flatMap (·.moved)).map σ.getO) |>.map fun (p : Slot × SlotSt) => W.o p.1 ⟨p.2.st, none⟩)) σ1 := by
      rw [hσ1]; exact agree_ws hnoT
    have hsame : ∀ s, s ∉ nameKeys τ (ss.flatMap (·.mvN)) ++ ss.flatMap (·.mvS) ++ new → σ1.getO s = σ.getO s ∧ σ1.getF s = σ.getF s := by
      intro s hs0
      have h1 : s ∉ us.flatMap (·.moved) := by
        intro hm
        rcases hmoved s hm with ⟨x, hx, rfl⟩ | hm
        · exact hs0 (List.mem_append_left _ (List.mem_append_left _ (List.mem_flatMap.2 ⟨x, hx, h.at_ x (hs.names x hx)⟩)))
        · exact hs0 (List.mem_append_left _ (List.mem_append_right _ hm))
      have h2 : s ∉ (wsR ++ wsB).flatMap W.slots := by
        intro hm
        obtain ⟨w, hw, hm⟩ := List.mem_flatMap.1 hm
        rcases hwslot w hw s hm with h3 | ⟨x, hx, rfl⟩
        · exact hs0 (List.mem_append_right _ h3)
        · exact hs0 (List.mem_append_left _ (List.mem_append_left _ (hkpslot x hx)))
      obtain ⟨a1, a2⟩ := hag1.2.2 s h1
      obtain ⟨a3, a4⟩ := hag2.2.2 s h2
      exact ⟨a3.trans a1, a4.trans a2⟩
    have hsameX : ∀ x, τ2.getO x ≠ none → x ∉ keepN ss → σ1.getO (m x) = σ.getO (m x) ∧ σ1.getF (m x) = σ.getF (m x) := by
      intro x hx hxk
      obtain ⟨c1, c2, c3, c4⟩ := hdn x hx
      obtain ⟨c5, c6⟩ := hslot x hx
      have hxm : x ∉ ss.flatMap (·.mvN) := by
        intro hm
        refine c1 ?_
        rw [hgone, List.mem_filter]
        exact ⟨hm, by simpa using hxk⟩
      have h1 : m x ∉ us.flatMap (·.moved) := by
        intro hm
        rcases hmoved _ hm with ⟨y, hy, e⟩ | hm
        · exact h.inj x y (fun e => hxm (e ▸ hy)) c4 (hs.names y hy) e
        · exact c6 hm
      have h2 : m x ∉ (wsR ++ wsB).flatMap W.slots := by
        intro hm
        obtain ⟨w, hw, hm⟩ := List.mem_flatMap.1 hm
        rcases hwslot w hw _ hm with h3 | ⟨y, hy, e⟩
        · exact c5 h3
        · exact h.inj x y (fun e => hxk (e ▸ hy)) c4 (hs.names y (hkN.1 y hy)) e
      obtain ⟨a1, a2⟩ := hag1.2.2 _ h1
      obtain ⟨a3, a4⟩ := hag2.2.2 _ h2
      exact ⟨a3.trans a1, a4.trans a2⟩
    have hheld : ∀ w ∈ wsR ++ wsB, w.holds σ1 := by rw [hσ1]; exact hgood.holds
    have hflag : ∀ s, σ.getF s = false → σ1.getF s = false := by
      intro s hs0
      rw [hσ1]
      refine flag_keep (fun w hw => ?_) s (flag_keep (fun w hw => ?_) s hs0)
      · have := hgood.1 w hw
        cases w with
        | o => trivial
        | f => exact this
        | t => exact this
      · simp only [List.mem_map] at hw
        obtain ⟨p, _, rfl⟩ := hw
        trivial
    -- the objects
    have hosn : ∀ x, x ∉ new → lookT x os = none := fun x hx => lookT_none fun p hp e => hx ((memnew x).2 (by
      obtain ⟨⟨j, a, b, c⟩, _⟩ := d3.1 p hp
      exact ⟨j, a, by omega, by omega⟩))
    have hg4 : ∀ x, ({ τ3 with ob := os ++ τ3.ob } : TState).getO x = match lookT x os with
        | some p => some p.2
        | none => τ3.getO x := fun x => TState.getO_cons os x
    have ha4 : ∀ x, ({ τ3 with ob := os ++ τ3.ob } : TState).at_ x = match lookT x os with
        | some p => p.1
        | none => τ3.at_ x := fun x => TState.at_cons os x
    generalize hτ4 : ({ τ3 with ob := os ++ τ3.ob } : TState) = τ4 at hg4 ha4 ⊢
    generalize hm' : (fun x => if x ∈ new then x else m x) = m'
    have hmn : ∀ x, x ∈ new → m' x = x := fun x hx => by rw [← hm']; simp [hx]
    have hmo : ∀ x, x ∉ new → m' x = m x := fun x hx => by rw [← hm']; simp [hx]
    have old4 : ∀ x, x ∉ new → τ4.getO x = τ3.getO x ∧ τ4.at_ x = τ3.at_ x := fun x hx => by rw [hg4, ha4, hosn x hx]; exact ⟨rfl, rfl⟩
    have hnb : ∀ x, x ∉ new → ¬ Rng t k1 k2 x := fun x hx ⟨j, a, b, c⟩ => hx ((memnew x).2 ⟨j, Nat.zero_le _, by omega, c⟩)
    have h32 : ∀ x, x ∉ new → x ∉ keepN ss → τ4.getO x = τ2.getO x ∧ τ4.at_ x = τ2.at_ x := fun x hx hxk => by
      obtain ⟨a, b⟩ := old4 x hx
      obtain ⟨c, d⟩ := e5 x hxk (hnb x hx)
      exact ⟨a.trans c, b.trans d⟩
    have hkn : ∀ x ∈ keepN ss, x ∉ new := fun x hx => (hdn x (hkeep' x hx)).2.1
    have hst : ∀ x, τ2.getO x ≠ none → Stays τ2 τ4 σ σ1 m m' x := by
      intro x hx
      have hxn := (hdn x hx).2.1
      by_cases hxk : x ∈ keepN ss
      · obtain ⟨o, o', o1, o2, o3, o4⟩ := e7 x hxk
        have o2' : τ4.getO x = some o' := (old4 x hxn).1.trans o2
        obtain ⟨f1, f2⟩ := e10 σ1 (fun w hw => hheld w (List.mem_append_right _ hw)) hflag x hxk
        refine ⟨hmo x hxn, f1, fun e l cap fz s1 hl => ?_, fun g cs fz s1 hg => ?_⟩
        · rw [o1] at hl
          cases hl
          obtain ⟨l', rfl, hll⟩ := o4
          exact ⟨l', _, _, _, o2', hll, fun _ => f2 _ _ _ _ _ o2⟩
        · rw [o1] at hg
          cases hg
          obtain ⟨cs', rfl⟩ := o4
          exact ⟨_, _, _, _, o2'⟩
      · obtain ⟨a, b⟩ := hsameX x hx hxk
        obtain ⟨c, _⟩ := h32 x hxn hxk
        refine ⟨hmo x hxn, by rw [a], fun e l cap fz s1 hl => ⟨l, cap, fz, s1, by rw [c]; exact hl, rfl, fun q => ⟨by rw [a]; exact q.1, fun hz => by rw [b]; exact q.2 hz⟩⟩, fun g cs fz s1 hg => ⟨g, cs, fz, s1, by rw [c]; exact hg⟩⟩
    have hrs : ∀ c, τ2.Has c → ∀ s ∈ c.rslots, σ1.getO s = σ.getO s := by
      intro c hc s hs0
      rw [hτ2] at hc
      exact (hsame s ((TState.has_drop hc).2.2 s hs0)).1
    have hfin : Fin t k1 k2 m (keepN ss) τ2 σ τ3 wsB τ4 σ1 m' := by
      refine ⟨fun w hw => hheld w (List.mem_append_right _ hw), fun x hx o ho => ?_, fun x hx => hmo x (hkn x hx), fun d hd g cs fz s1 as hg hc => ?_, hflag⟩
      · obtain ⟨j, a, b, c⟩ := hx
        have hxn : x ∈ new := (memnew x).2 ⟨j, Nat.zero_le _, by omega, c⟩
        refine ⟨?_, hmn x hxn⟩
        rw [hg4, lookT_none fun p hp e => by
          obtain ⟨⟨j', a', b', c'⟩, _⟩ := d3.1 p hp
          omega]
        exact ho
      · exact hc.frame (fun c hcc d' hd' => hst d' (hc.there c hcc d' hd')) (fun c hcc s hs0 => hrs c (.inr ⟨d, _, hg, hcc⟩) s hs0)
    obtain ⟨i1, i2⟩ := e9 τ4 σ1 m' hfin
    have hoslook : ∀ p ∈ os, τ4.getO p.1 = some p.2.2 ∧ m' p.1 = p.1 := by
      intro p hp
      obtain ⟨⟨j, a, b, c⟩, _⟩ := d3.1 p hp
      refine ⟨?_, hmn _ ((memnew _).2 ⟨j, a, by omega, c⟩)⟩
      rw [hg4, lookT_of_mem d3.2 hp]
    obtain ⟨u1, u2⟩ := d4 τ4 σ1 m' (fun w hw => hheld w (List.mem_append_left _ hw)) hoslook
    refine ⟨hr2.patch (· ∈ new) (· ∈ keepN ss) (fun n => (hag2.1 n).trans (hag1.1 n)) (hag2.2.1.trans hag1.2.1) (by rw [← hτ4]; exact e4) ?_ hmo hmn (fun x hx => (hslot x hx).1) ?_ ?_ hst hrs ?_ ?_, u1⟩
    · intro x hx
      cases e : τ2.getO x with
      | none => rfl
      | some o => exact absurd hx (hdn x (by rw [e]; simp)).2.1
    · intro x hx hx2
      rw [ha4]
      cases e : lookT x os with
      | some p => exact (d3.1 _ (lookT_mem e)).2
      | none =>
        have h3 : τ3.getO x ≠ none := by rw [hg4, e] at hx2; exact hx2
        obtain ⟨j, a, b, c⟩ := (memnew x).1 hx
        by_cases hr3 : Rng t k1 k2 x
        · cases e3 : τ3.getO x with
          | none => exact absurd e3 h3
          | some o => exact e8 x hr3 o e3
        · have hxk : x ∉ keepN ss := fun hm => hkn x hm hx
          obtain ⟨q1, _⟩ := e5 x hxk hr3
          refine absurd ?_ h3
          rw [q1]
          cases e2 : τ2.getO x with
          | none => rfl
          | some o => exact absurd hx (hdn x (by rw [e2]; simp)).2.1
    · intro x hx
      by_cases hxk : x ∈ keepN ss
      · obtain ⟨o, o', o1, o2, o3, o4⟩ := e7 x hxk
        exact ⟨fun _ => by rw [o1]; simp, by rw [(old4 x hx).2, o3]⟩
      · obtain ⟨a, b⟩ := h32 x hx hxk
        exact ⟨fun hh => by rw [← a]; exact hh, b⟩
    · intro x o ho hx
      rcases hx with hx | hx
      · rw [hmn x hx]
        cases e : lookT x os with
        | some p =>
          rw [hg4, e] at ho
          cases ho
          exact u2 _ (lookT_mem e)
        | none =>
          have h3 : τ3.getO x = some o := by rw [hg4, e] at ho; exact ho
          by_cases hr3 : Rng t k1 k2 x
          · exact i2 x hr3 o h3
          · have hxk : x ∉ keepN ss := fun hm => hkn x hm hx
            obtain ⟨q1, _⟩ := e5 x hxk hr3
            rw [q1] at h3
            exact absurd hx (hdn x (by rw [h3]; simp)).2.1
      · have hxn := hkn x hx
        rw [hmo x hxn]
        exact i1 x hx o (by rw [← (old4 x hxn).1]; exact ho)
    · intro x hx hxk
      exact ⟨(h32 x hx hxk).1, fun hh => hsameX x hh hxk⟩
end
end Go.Vm
/- The operations that call. -/
namespace Go.Vm
section
variable {τ : TState} {σ : State} {m : Nat → Slot} {K : List Key} {t : Nat} {ρ : Type} {r : ρ} {k : KT ρ} {orc : Oracle} {dst : Option Nat}

theorem Stays.setFs (h : Rel m τ σ) {rr ss : List Slot} (hr : ∀ s ∈ rr, s ∈ ss) {d : Nat} (hd : τ.getO d ≠ none) : Stays τ (τ.freeze ss) σ (σ.applyAll (setFs rr)) m m d := by
  refine ⟨rfl, by rw [frzL_O], fun e l cap fz s1 hl => ?_, fun g cs fz s1 hg => ?_⟩
  · by_cases hm : meets (τ.at_ d) ss = true
    · refine ⟨l, cap, true, s1, by rw [TState.getO_freeze, if_pos hm, hl]; rfl, rfl, fun q => ⟨by rw [frzL_O]; exact q.1, fun h => by cases h⟩⟩
    · refine ⟨l, cap, fz, s1, by rw [TState.getO_freeze, if_neg hm]; exact hl, rfl, fun q => ⟨by rw [frzL_O]; exact q.1, fun hz => ?_⟩⟩
      rw [frzL_F _ _ _ fun hm2 => hm (meets_iff.2 ⟨m d, h.at_ d hd, hr _ hm2⟩)]
      exact q.2 hz
  · rw [TState.getO_freeze]
    split
    · exact ⟨g, cs, true, s1, by rw [hg]; rfl⟩
    · exact ⟨g, cs, fz, s1, hg⟩

theorem disjL_spec {a b : List Slot} (h : disjL a b = true) : ∀ x ∈ a, x ∉ b := by
  intro x hx hb
  unfold disjL at h
  have := List.all_eq_true.1 h x hx
  simp [hb] at this

theorem call_ok (h : Rel m τ σ) {F : FnT} {g : Nat} (hF : FnOK orc g F) {ss : List SentT} {us : List Sent} (hs : SendsOK m τ σ F.sig.args ss us) {kr : List Key} (hd : (callT F t ss τ kr k).den = some r) :
    ∃ kr' tv τ' kw m' av ws, (∀ z ∈ kr, z ∈ kr') ∧ (∀ z ∈ oKeys (ss.flatMap (·.keys)), z ∈ kr') ∧ Does (callR orc t g us) σ (av, ws) kr' ∧ ws.all W.noT = true ∧ (∀ w ∈ ws, w.key ∈ kw) ∧ Rel m' τ' (σ.applyAll ws) ∧ RT τ' (σ.applyAll ws) m' tv av ∧ (k tv τ' kr' kw).den = some r := by
  unfold callT at hd
  simp only at hd
  split at hd
  · rename_i hc
    simp only [Bool.and_eq_true] at hc
    obtain ⟨⟨⟨hc1, hc2⟩, hc3⟩, hc4⟩ := hc
    split at hd
    · rename_i x hx
      have hars : ARs F.sig.args (pd.to F.sig.apt x) (us.map (·.a)) := by rw [pd.to_of hx]; exact hs.ars
      simp only [Tree.den] at hd
      cases hy : F.f x with
      | none => rw [hy] at hd; cases hd
      | some y =>
        rw [hy, Option.bind_some] at hd
        obtain ⟨vs, bs, p1, p2, ho, hp, hr, hb⟩ := hF x y _ hars hy
        unfold afterCall at hd
        simp only at hd
        rw [hp] at hd
        split at hd
        · cases hd
        · rename_i vs' os k1 l ei
          split at hd
          · cases hd
          · rename_i tv et
            split at hd
            · rename_i τ3 k2 ebt
              split at hd
              · rename_i hh
                simp only [Bool.and_eq_true] at hh
                generalize hnew : (List.range ((F.sig.res.map fun p => countL p.2 + (if p.1 = .ptr then 1 else 0)).sum + (F.sig.args.map AT.count).sum)).map (64 * t + ·) = new at *
                obtain ⟨m', b, wsR, wsB, d1, d2, d3, d4, d5, d6⟩ := after_ok (K := kr ++ oKeys (ss.flatMap (·.keys)) ++ oKeys new) h hs rfl ei et hr hb hnew.symm rfl rfl ebt hh.1 (nodupN_spec hc1) (fun z hz => by rw [List.append_assoc]; exact List.mem_append_right _ hz)
                obtain ⟨RD, pk1, pk2⟩ := hs.picks
                have hnm := hs.names
                -- what goes, goes once, and is not read
                have hN : (us.flatMap (·.moved) ++ RD).Nodup := by
                  refine pk1.nodup (nodupN_spec hc1) (nodupN_spec hc2) (fun a ha b hb hab => h.inj a b hab (hnm a ha) (hnm b hb)) (fun a ha hm => ?_)
                  exact disjL_spec hc3 (m a) (List.mem_flatMap.2 ⟨a, ha, h.at_ a (hnm a ha)⟩) hm
                have hN' := List.nodup_append.1 hN
                have hmem : ∀ s ∈ us.flatMap (·.moved), s ∈ nameKeys τ (ss.flatMap (·.mvN)) ++ ss.flatMap (·.mvS) := by
                  intro s hs0
                  rcases pk1.mem s (List.mem_append_left _ hs0) with ⟨a, ha, rfl⟩ | h1
                  · exact List.mem_append_left _ (List.mem_flatMap.2 ⟨a, ha, h.at_ a (hnm a ha)⟩)
                  · exact List.mem_append_right _ h1
                have hread : (us.flatMap (·.read)).all (fun d => !(us.flatMap (·.moved)).contains d) = true := by
                  rw [List.all_eq_true]
                  intro s hs0
                  simp only [Bool.not_eq_true', List.contains_eq_mem, decide_eq_false_iff_not]
                  intro hm
                  rcases pk2 s hs0 with h1 | ⟨h1, _⟩
                  · exact disjL_spec hc4 s h1 (hmem s hm)
                  · exact hN'.2.2 s hm s h1 rfl
                have hrd : ∀ s ∈ us.flatMap (·.read), s ∈ ss.flatMap (·.rdS) ++ ss.flatMap (·.mrS) := by
                  intro s hs0
                  rcases pk2 s hs0 with h1 | ⟨_, h1⟩
                  · exact List.mem_append_left _ h1
                  · exact List.mem_append_right _ h1
                have hmk : ∀ s ∈ us.flatMap (·.moved), Key.o s ∈ kr ++ oKeys (ss.flatMap (·.keys)) ++ oKeys new := by
                  intro s hs0
                  exact List.mem_append_left _ (List.mem_append_right _ (oKeys_o (hs.keys s (hmem s hs0))))
                generalize hfl : ((ss.flatMap (·.rdS) ++ ss.flatMap (·.mrS)).isEmpty || ((F.sig.res.all fun p => p.2.all RK.flatB) && F.sig.args.all AT.flatB)) = fl at hd
                -- what is frozen
                have hfs : ∃ rr, (if (us.flatMap (·.read)).isEmpty || ((tupA vs).flat && flatBacks bs) then [] else (us.flatMap (·.read)).map (W.f · true)) = setFs rr ∧ (∀ s ∈ rr, s ∈ us.flatMap (·.read)) ∧ (fl = true → rr = []) := by
                  by_cases hcc : ((us.flatMap (·.read)).isEmpty || ((tupA vs).flat && flatBacks bs)) = true
                  · exact ⟨[], by rw [if_pos hcc]; rfl, by simp, fun _ => rfl⟩
                  · refine ⟨us.flatMap (·.read), by rw [if_neg hcc]; rfl, fun s h => h, fun hf => ?_⟩
                    rw [hf] at hfl
                    simp only [Bool.or_eq_true, Bool.and_eq_true] at hfl hcc
                    refine absurd ?_ hcc
                    rcases hfl with hfl | hfl
                    · left
                      have : ss.flatMap (·.rdS) ++ ss.flatMap (·.mrS) = [] := by simpa using hfl
                      rw [this] at hrd
                      have : us.flatMap (·.read) = [] := List.eq_nil_iff_forall_not_mem.2 fun s hs0 => by have := hrd s hs0; cases this
                      rw [this]; rfl
                    · right
                      exact ⟨tupA_flat (hr.flat hfl.1), hb.flat hfl.2⟩
                obtain ⟨rr, f1, f2, f3⟩ := hfs
                obtain ⟨q1, q2⟩ := d6 _ rfl
                have hdoes : Does (callR orc t g us) σ (b, ((us.flatMap (·.moved)).zip ((us.flatMap (·.moved)).map σ.getO) |>.map fun (p : Slot × SlotSt) => W.o p.1 ⟨p.2.st, none⟩) ++ wsR ++ wsB ++ setFs rr) (kr ++ oKeys (ss.flatMap (·.keys)) ++ oKeys new) := by
                  unfold callR
                  simp only [nodup_of hN'.1, hread, Bool.and_true, if_true, ho]
                  refine Does.bind (mapR_getOs hmk) (Does.bind d1 (Does.bind d2 ?_))
                  simp only [nodup_of d3, if_true, f1]
                  exact Does.ret _
                have happ : σ.applyAll (((us.flatMap (·.moved)).zip ((us.flatMap (·.moved)).map σ.getO) |>.map fun (p : Slot × SlotSt) => W.o p.1 ⟨p.2.st, none⟩) ++ wsR ++ wsB ++ setFs rr) = ((σ.applyAll ((us.flatMap (·.moved)).zip ((us.flatMap (·.moved)).map σ.getO) |>.map fun (p : Slot × SlotSt) => W.o p.1 ⟨p.2.st, none⟩)).applyAll (wsR ++ wsB)).applyAll (setFs rr) := by
                  simp only [State.applyAll, List.foldl_append]
                refine ⟨_, tv, _, _, m', b, _, fun z hz => List.mem_append_left _ (List.mem_append_left _ hz), fun z hz => List.mem_append_left _ (List.mem_append_right _ hz), hdoes, ?_, ?_, ?_, ?_, hd⟩
                · rw [List.all_append, List.all_append, List.all_append, gone_noT, frzL_noT, Bool.and_true, Bool.true_and, ← List.all_append]
                  exact d4
                · intro w hw
                  simp only [List.mem_append] at hw
                  rcases hw with ((hw | hw) | hw) | hw
                  · simp only [List.mem_map] at hw
                    obtain ⟨p, hp, rfl⟩ := hw
                    exact List.mem_append_left _ (oKeys_o (List.mem_append_left _ (hmem _ (List.of_mem_zip hp).1)))
                  · exact List.mem_append_left _ (d5 w (List.mem_append_left _ hw))
                  · exact List.mem_append_left _ (d5 w (List.mem_append_right _ hw))
                  · simp only [setFs, List.mem_map] at hw
                    obtain ⟨s, hs0, rfl⟩ := hw
                    cases fl with
                    | true => rw [f3 rfl] at hs0; cases hs0
                    | false =>
                      refine List.mem_append_right _ ?_
                      simp only [Bool.false_eq_true, if_false]
                      exact List.mem_map.2 ⟨s, hrd s (f2 s hs0), rfl⟩
                · rw [happ]
                  cases fl with
                  | true => rw [f3 rfl]; exact q1
                  | false =>
                    simp only [Bool.false_eq_true, if_false]
                    exact q1.setFs fun s hs0 => hrd s (f2 s hs0)
                · rw [happ]
                  cases fl with
                  | true => rw [f3 rfl]; exact q2
                  | false =>
                    simp only [Bool.false_eq_true, if_false]
                    exact q2.frame (fun c hc d hd => Stays.setFs q1 (fun s hs0 => hrd s (f2 s hs0)) (q2.there c hc d hd)) (fun c hc s hs0 => frzL_O _ _ _)
              · cases hd
            · cases hd
    · cases hd
  · cases hd

/-- The functions answer as their descriptions say. -/
def EnvOK (orc : Oracle) (E : TEnv) : Prop := ∀ g, ∀ F ∈ E.fn g, FnOK orc g F

theorem callA_ok {args : List CArg} : ∀ {Fs : List FnT} {F : FnT} {ss : List SentT}, callA τ args Fs = some (F, ss) → F ∈ Fs ∧ sendsT τ F.sig.args args = some ss
  | [], _, _, h => by cases h
  | G :: Fs, F, ss, h => by
    simp only [callA] at h
    split at h
    · rename_i e
      cases h
      exact ⟨by simp, e⟩
    · obtain ⟨h1, h2⟩ := callA_ok h
      exact ⟨by simp [h1], h2⟩
theorem callB_ok {fs cs : List TC} {args : List CArg} : ∀ {Fs : List FnT} {F : FnT} {ss : List SentT}, callB τ fs cs args Fs = some (F, ss) → F ∈ Fs ∧
    ∃ a b c, ss = a ++ b ++ c ∧ sendCapsT τ (F.sig.args.take fs.length) fs = some a ∧ sendsT τ ((F.sig.args.drop fs.length).take args.length) args = some b ∧ sendCapsT τ (F.sig.args.drop (fs.length + args.length)) cs = some c
  | [], _, _, h => by cases h
  | G :: Fs, F, ss, h => by
    simp only [callB] at h
    split at h
    · rename_i a b c e1 e2 e3
      cases h
      exact ⟨by simp, a, b, c, rfl, e1, e2, e3⟩
    · obtain ⟨h1, h2⟩ := callB_ok h
      exact ⟨by simp [h1], h2⟩

theorem op_call {E : TEnv} (hE : EnvOK orc E) (h : Rel m τ σ) {g : Nat} {args : List CArg} (hd : (opT E dst τ k (.call g args)).den = some r) : StepR orc (.call g args) dst σ k r := by
  simp only [opT] at hd
  split at hd
  · rename_i F ss ec
    obtain ⟨c1, c2⟩ := callA_ok ec
    obtain ⟨us, d1, d2⟩ := sendsT_ok (K := (args.flatMap fun a => a.x.keys) ++ oKeys (ss.flatMap (·.keys))) h c2 (fun c hc k hk => List.mem_append_left _ (List.mem_flatMap.2 ⟨c, hc, hk⟩)) (fun z hz => List.mem_append_right _ hz)
    obtain ⟨kr', tv, τ', kw, m', av, ws, g1, g2, g3, g4, g5, g6, g7, g8⟩ := call_ok h (hE g F c1) d2 hd
    refine ⟨tv, τ', kr', kw, m', av, ws, ?_, g4, g5, g6, g7, g8⟩
    simp only [ROp.sem]
    exact Does.bind (d1.mono fun z hz => (List.mem_append.1 hz).elim (g1 z) (g2 z)) g3
  · cases hd
theorem op_callv {E : TEnv} (hE : EnvOK orc E) (h : Rel m τ σ) {f : Opnd} {args : List CArg} (hd : (opT E dst τ k (.callv f args)).den = some r) : StepR orc (.callv f args) dst σ k r := by
  simp only [opT] at hd
  have hv := h.val f
  split at hd
  · rename_i g fs cs ef
    rw [ef] at hv
    obtain ⟨x, y, e1, e2, e3, e4, e5⟩ := hv
    split at hd
    · rename_i F ss ec
      obtain ⟨c1, a, b, c, rfl, c2, c3, c4⟩ := callB_ok ec
      have kk : ∀ (l : List SentT) (h : ∀ s ∈ l, s ∈ a ++ b ++ c), ∀ z ∈ oKeys (l.flatMap (·.keys)), z ∈ (f.keys ++ args.flatMap fun a => a.x.keys) ++ oKeys ((a ++ b ++ c).flatMap (·.keys)) := fun l h z hz => List.mem_append_right _ (oKeys_sub (fun s hs => by
        obtain ⟨q, hq, hs⟩ := List.mem_flatMap.1 hs
        exact List.mem_flatMap.2 ⟨q, h q hq, hs⟩) z hz)
      obtain ⟨us1, d1, d1'⟩ := sendCapsT_ok (K := (f.keys ++ args.flatMap fun a => a.x.keys) ++ oKeys ((a ++ b ++ c).flatMap (·.keys))) h c2 e2 e4 (kk a (by simp +contextual))
      obtain ⟨us2, d2, d2'⟩ := sendsT_ok (K := (f.keys ++ args.flatMap fun a => a.x.keys) ++ oKeys ((a ++ b ++ c).flatMap (·.keys))) h c3 (fun c hc k hk => List.mem_append_left _ (List.mem_append_right _ (List.mem_flatMap.2 ⟨c, hc, hk⟩))) (kk b (by simp +contextual))
      obtain ⟨us3, d3, d3'⟩ := sendCapsT_ok (K := (f.keys ++ args.flatMap fun a => a.x.keys) ++ oKeys ((a ++ b ++ c).flatMap (·.keys))) h c4 e3 e5 (kk c (by simp +contextual))
      have hall : SendsOK m τ σ F.sig.args (a ++ b ++ c) (us1 ++ us2 ++ us3) := by
        have := (d1'.append d2').append d3'
        rwa [List.append_assoc, ← List.drop_drop, List.take_append_drop, List.take_append_drop] at this
      obtain ⟨kr', tv, τ', kw, m', av, ws, g1, g2, g3, g4, g5, g6, g7, g8⟩ := call_ok h (hE g F c1) hall hd
      refine ⟨tv, τ', kr', kw, m', av, ws, ?_, g4, g5, g6, g7, g8⟩
      simp only [ROp.sem]
      have mo : ∀ z ∈ (f.keys ++ args.flatMap fun a => a.x.keys) ++ oKeys ((a ++ b ++ c).flatMap (·.keys)), z ∈ kr' := fun z hz => (List.mem_append.1 hz).elim (g1 z) (g2 z)
      refine Does.bind (Does.opnd f fun z hz => mo z (List.mem_append_left _ (List.mem_append_left _ hz))) ?_
      rw [e1]
      exact Does.bind (d1.mono mo) (Does.bind (d2.mono mo) (Does.bind (d3.mono mo) g3))
    · cases hd
  · cases hd
end
end Go.Vm
/- Instructions and regions. -/
namespace Go.Vm
section
variable {τ : TState} {σ : State} {m : Nat → Slot} {ρ : Type} {r : ρ} {k : KT ρ} {orc : Oracle} {dst : Option Nat}

theorem op_ok {E : TEnv} (hE : EnvOK orc E) (h : Rel m τ σ) : ∀ {op : ROp}, (opT E dst τ k op).den = some r → StepR orc op dst σ k r
  | .mv x false, hd => op_mv E h hd
  | .mv x true, hd => op_mvR E h hd
  | .pick c a b, hd => op_pick E h hd
  | .alloc z, hd => op_alloc E h hd
  | .box n x, hd => op_box E h hd
  | .build z p, hd => op_build E h hd
  | .buildSl e z sh ln p, hd => op_buildSl E h hd
  | .load n a x, hd => op_load E h hd
  | .store n sh x v, hd => op_store E h hd
  | .nilck x, hd => op_nilck E h hd
  | .bin c op x y, hd => op_bin E h hd
  | .eqAgg ng ks x y, hd => op_eqAgg E h hd
  | .un op x, hd => op_un E h hd
  | .conv kk x, hd => op_conv E h hd
  | .toStr st x, hd => op_toStr E h hd
  | .toBytes x, hd => op_toBytes E h hd
  | .mkSl e b z l c, hd => op_mkSl E h hd
  | .slice e x lo hi mx, hd => op_slice E h hd
  | .sliceArr n e a x lo hi, hd => op_sliceArr E h hd
  | .fld off x, hd => op_fld E h hd
  | .fldV off n a x, hd => op_fldV E h hd
  | .ixA e x i, hd => op_ixA E h hd
  | .ixArr n e x i, hd => op_ixArr E h hd
  | .ixV n e a x i, hd => op_ixV E h hd
  | .ixS x i, hd => op_ixS E h hd
  | .ext x i, hd => op_ext E h hd
  | .len st x, hd => op_len E h hd
  | .app e b x y, hd => op_app E h hd
  | .copy e x y, hd => op_copy E h hd
  | .clear e x, hd => op_clear E h hd
  | .mm mx x y, hd => op_mm E h hd
  | .call g as, hd => op_call hE h hd
  | .callv f as, hd => op_callv hE h hd
  | .mkfn g f c, hd => op_mkfn E h hd

/-- Only the frame and the objects matter. -/
theorem Rel.same {τ' : TState} (h : Rel m τ σ) (htm : τ'.tm = τ.tm) (hob : τ'.ob = τ.ob) : Rel m τ' σ := by
  have hO : ∀ d, τ'.getO d = τ.getO d := fun d => by unfold TState.getO; rw [hob]
  have hA : ∀ d, τ'.at_ d = τ.at_ d := fun d => by unfold TState.at_; rw [hob]
  have hT : ∀ d, τ'.getT d = τ.getT d := fun d => by unfold TState.getT; rw [htm]
  have st : ∀ d, Stays τ τ' σ σ m m d := fun d => ⟨rfl, rfl, fun e l cap fz s1 hl => ⟨l, cap, fz, s1, by rw [hO]; exact hl, rfl, id⟩, fun g cs fz s1 hg => ⟨g, cs, fz, s1, by rw [hO]; exact hg⟩⟩
  refine ⟨by rw [htm]; exact h.len, fun n => ?_, fun d d' hd h1 h2 => h.inj d d' hd (by rw [← hO]; exact h1) (by rw [← hO]; exact h2), fun d hd => by rw [hA]; exact h.at_ d (by rw [← hO]; exact hd), fun d o ho => ?_⟩
  · rw [hT]; exact (h.tm n).frame (fun _ _ d _ => st d) (fun _ _ _ _ => rfl)
  · rw [hO] at ho
    have := h.ob d o ho
    cases o with
    | sl e l cap fz s1 => exact this
    | gone => exact this
    | var g cs fz s1 =>
      obtain ⟨⟨st', e, c, x, k1, k2, k3⟩, k4, k5⟩ := this
      exact ⟨⟨st', e, c, x, k1, k2.frame (fun _ _ d _ => st d) (fun _ _ _ _ => rfl), k3⟩, k4, k5⟩

theorem set_getD {α : Type} (d : α) : ∀ (l : List α) (n : Nat), l.set n (l.getD n d) = l
  | [], _ => rfl
  | x :: l, 0 => rfl
  | x :: l, n + 1 => by simp only [List.set_cons_succ, List.getD_cons_succ, set_getD d l n]
theorem setT_same (σ : State) (n : Nat) : (W.t n (σ.getT n)).apply σ = σ := by
  unfold W.apply State.getT
  simp only [set_getD]

/-- What the destination gets. -/
theorem Rel.putD (h : Rel m τ σ) {v : TV} {a : AV} (hv : RT τ σ m v a) (d : Option Nat) : Rel m (putDst d v τ) (σ.applyAll (dstW d a)) := by
  cases d with
  | none => exact h
  | some d => exact h.setT hv

theorem dstW_keys (d : Option Nat) (v : AV) : ∀ w ∈ dstW d v, w.key ∈ dKeys d := by
  cases d with
  | none => simp [dstW]
  | some d => simp [dstW, dKeys, W.key]

theorem ins_ok {E : TEnv} (hE : EnvOK orc E) (h : Rel m τ σ) {i : Ins} {k : TState → Tree ρ} (hd : (insT E i τ k).den = some r) :
    ∃ ws τ' m' f, (i.sem orc).run σ = some ws ∧ Rel m' τ' (σ.applyAll ws) ∧ (k τ').den = some r ∧ τ'.fp = τ.fp ++ [f] ∧ (∀ z ∈ (i.sem orc).foot σ, z ∈ f.1) ∧ ∀ w ∈ ws, w.key ∈ f.2 := by
  -- with the guard passed
  have main : ∀ (τ1 : TState) (g : List Key) (h1 : Rel m τ1 σ) (hfp : τ1.fp = τ.fp),
      (opT E i.dst τ1 (fun v τ' kr kw => k { (putDst i.dst v τ') with fp := τ1.fp ++ [(g ++ kr, kw ++ dKeys i.dst)] }) i.op).den = some r →
      ∃ ws τ' m' f, ((i.op.sem orc i.dst).bind fun q => R.ret (q.2 ++ dstW i.dst q.1)).run σ = some ws ∧ Rel m' τ' (σ.applyAll ws) ∧ (k τ').den = some r ∧ τ'.fp = τ.fp ++ [f] ∧ (∀ z ∈ g, z ∈ f.1) ∧ (∀ z ∈ ((i.op.sem orc i.dst).bind fun q => R.ret (q.2 ++ dstW i.dst q.1)).foot σ, z ∈ f.1) ∧ ∀ w ∈ ws, w.key ∈ f.2 := by
    intro τ1 g h1 hfp hd
    obtain ⟨tv, τ', kr, kw, m', av, ws, d1, d2, d3, d4, d5, d6⟩ := op_ok hE h1 hd
    have hb : Does ((i.op.sem orc i.dst).bind fun q => R.ret (q.2 ++ dstW i.dst q.1)) σ (ws ++ dstW i.dst av) kr := Does.bind d1 (Does.ret _)
    refine ⟨ws ++ dstW i.dst av, _, m', (g ++ kr, kw ++ dKeys i.dst), hb.1, ?_, d6, by rw [← hfp], fun z hz => List.mem_append_left _ hz, fun z hz => List.mem_append_right _ (hb.2 z hz), fun w hw => ?_⟩
    · rw [applyAll_append]
      exact (d4.putD d5 i.dst).same rfl rfl
    · rcases List.mem_append.1 hw with hw | hw
      · exact List.mem_append_left _ (d3 w hw)
      · exact List.mem_append_right _ (dstW_keys _ _ w hw)
  have skip : ∀ (τ1 : TState) (g : List Key) (h1 : Rel m τ1 σ) (hfp : τ1.fp = τ.fp), (k { (putDst i.dst (.tup []) τ1) with fp := τ1.fp ++ [(g, dKeys i.dst)] }).den = some r →
      ∃ τ' f, Rel m τ' (σ.applyAll (dstW i.dst (.tuple []))) ∧ (k τ').den = some r ∧ τ'.fp = τ.fp ++ [f] ∧ f.1 = g ∧ ∀ w ∈ dstW i.dst (.tuple []), w.key ∈ f.2 := by
    intro τ1 g h1 hfp hd
    refine ⟨_, (g, dKeys i.dst), ?_, hd, by rw [← hfp], rfl, dstW_keys _ _⟩
    exact (h1.putD (v := .tup []) (a := .tuple []) ⟨[], rfl, rfl, by simp⟩ i.dst).same rfl rfl
  unfold insT at hd
  simp only at hd
  split at hd
  · rename_i hg
    obtain ⟨ws, τ', m', f, a1, a2, a3, a4, _, a5, a6⟩ := main τ [] h rfl hd
    refine ⟨ws, τ', m', f, ?_, a2, a3, a4, ?_, a6⟩
    · unfold Ins.sem; simp only [hg]; exact a1
    · unfold Ins.sem; simp only [hg]; exact a5
  · rename_i g want hg
    have hgt := h.tm g
    -- the two ways on
    have goMain : ∀ (τ1 : TState) (h1 : Rel m τ1 σ) (hfp : τ1.fp = τ.fp), σ.getT g = .bool want → 
        (opT E i.dst τ1 (fun v τ' kr kw => k { (putDst i.dst v τ') with fp := τ1.fp ++ [([Key.t g] ++ kr, kw ++ dKeys i.dst)] }) i.op).den = some r → 
        ∃ ws τ' m' f, (i.sem orc).run σ = some ws ∧ Rel m' τ' (σ.applyAll ws) ∧ (k τ').den = some r ∧ τ'.fp = τ.fp ++ [f] ∧ (∀ z ∈ (i.sem orc).foot σ, z ∈ f.1) ∧ ∀ w ∈ ws, w.key ∈ f.2 := by
      intro τ1 h1 hfp hv hd
      obtain ⟨ws, τ', m', f, a1, a2, a3, a4, a7, a5, a6⟩ := main τ1 [.t g] h1 hfp hd
      refine ⟨ws, τ', m', f, ?_, a2, a3, a4, ?_, a6⟩
      · unfold Ins.sem; simp only [hg, R.run, hv, BEq.rfl, if_true]; exact a1
      · unfold Ins.sem; simp only [hg, R.foot, hv, BEq.rfl, if_true]
        intro z hz
        simp only [List.mem_cons] at hz
        rcases hz with rfl | hz
        · exact a7 _ (by simp)
        · exact a5 z hz
    have goSkip : ∀ (τ1 : TState) (h1 : Rel m τ1 σ) (hfp : τ1.fp = τ.fp), (σ.getT g = .tuple [] ∨ ∃ b, σ.getT g = .bool b ∧ b ≠ want) → 
        (k { (putDst i.dst (.tup []) τ1) with fp := τ1.fp ++ [([Key.t g], dKeys i.dst)] }).den = some r → 
        ∃ ws τ' m' f, (i.sem orc).run σ = some ws ∧ Rel m' τ' (σ.applyAll ws) ∧ (k τ').den = some r ∧ τ'.fp = τ.fp ++ [f] ∧ (∀ z ∈ (i.sem orc).foot σ, z ∈ f.1) ∧ ∀ w ∈ ws, w.key ∈ f.2 := by
      intro τ1 h1 hfp hv hd
      obtain ⟨τ', f, a1, a2, a3, a4, a5⟩ := skip τ1 [.t g] h1 hfp hd
      refine ⟨_, τ', m, f, ?_, a1, a2, a3, ?_, a5⟩
      · unfold Ins.sem
        rcases hv with hv | ⟨b, hv, hb⟩
        · simp only [hg, R.run, hv]
        · have : (b == want) = false := by simpa using hb
          simp only [hg, R.run, hv, this, Bool.false_eq_true, if_false]
      · unfold Ins.sem
        rcases hv with hv | ⟨b, hv, hb⟩
        · simp only [hg, R.foot, hv]
          intro z hz; rw [a4]; simpa using hz
        · have : (b == want) = false := by simpa using hb
          simp only [hg, R.foot, hv, this, Bool.false_eq_true, if_false]
          intro z hz; rw [a4]; simpa using hz
    split at hd
    · rename_i b eg
      rw [eg] at hgt
      have hv : σ.getT g = .bool b := by
        have : [σ.getT g] = [.bool b] := hgt
        simpa using this
      split at hd
      · rename_i hb
        subst hb
        exact goMain τ h rfl hv hd
      · rename_i hb
        exact goSkip τ h rfl (.inr ⟨b, hv, hb⟩) hd
    · rename_i b eg
      rw [eg] at hgt
      have hv : σ.getT g = .bool b := by
        have : [σ.getT g] = Ty.bool.cells b := hgt
        simpa [Ty.cells] using this
      have hset : ∀ b', b' = b → Rel m (τ.setT g (.c (.bc b'))) σ := by
        intro b' e
        subst e
        have := h.setT (n := g) (v := .c (.bc b')) (a := .bool b') (show RC τ σ m (.bc b') [.bool b'] from rfl)
        rw [← hv, setT_same] at this
        exact this
      simp only [Tree.den] at hd
      cases b with
      | true =>
        simp only [if_true] at hd
        cases want with
        | true =>
          simp only [if_true] at hd
          exact goMain _ (hset true rfl) rfl hv hd
        | false =>
          simp only [Bool.false_eq_true, if_false] at hd
          exact goSkip _ (hset true rfl) rfl (.inr ⟨true, hv, by simp⟩) hd
      | false =>
        simp only [Bool.false_eq_true, if_false] at hd
        cases want with
        | true =>
          simp only [if_true] at hd
          exact goSkip _ (hset false rfl) rfl (.inr ⟨false, hv, by simp⟩) hd
        | false =>
          simp only [Bool.false_eq_true, if_false] at hd
          exact goMain _ (hset false rfl) rfl hv hd
    · rename_i eg
      rw [eg] at hgt
      obtain ⟨as, h1, h2, _⟩ := hgt
      have : as = [] := List.length_eq_zero_iff.1 h2
      subst this
      exact goSkip τ h rfl (.inl h1) hd
    · cases hd

/-- The keys told hold those that there are. -/
inductive Covers : List (List Key × List Key) → List (List Key × List Key) → Prop
  | nil : Covers [] []
  | cons {a b : List Key × List Key} {as bs : List (List Key × List Key)} : (∀ z ∈ a.1, z ∈ b.1) → (∀ z ∈ a.2, z ∈ b.2) → Covers as bs → Covers (a :: as) (b :: bs)
theorem insL_ok {E : TEnv} (hE : EnvOK orc E) : ∀ {is : List Ins} {τ : TState} {σ : State} {m : Nat → Slot} {k : TState → Tree ρ}, Rel m τ σ → (insL E is τ k).den = some r →
    ∃ σ' τ' m' fs, runIns orc is σ = some σ' ∧ Rel m' τ' σ' ∧ (k τ').den = some r ∧ τ'.fp = τ.fp ++ fs ∧ Covers (runFoot orc is σ) fs
  | [], τ, σ, m, k, h, hd => ⟨σ, τ, m, [], rfl, h, hd, by simp, .nil⟩
  | i :: is, τ, σ, m, k, h, hd => by
    simp only [insL] at hd
    obtain ⟨ws, τ1, m1, f, a1, a2, a3, a4, a5, a6⟩ := ins_ok hE h hd
    obtain ⟨σ', τ', m', fs, b1, b2, b3, b4, b5⟩ := insL_ok hE a2 a3
    refine ⟨σ', τ', m', f :: fs, ?_, b2, b3, by rw [b4, a4]; simp, ?_⟩
    · simp only [runIns, a1]; exact b1
    · simp only [runFoot, a1]
      refine .cons a5 (fun z hz => ?_) b5
      obtain ⟨w, hw, rfl⟩ := List.mem_map.1 hz
      exact a6 w hw

theorem disj_mono {a a' b b' : List Key} (ha : ∀ z ∈ a, z ∈ a') (hb : ∀ z ∈ b, z ∈ b') (h : disj a' b' = true) : disj a b = true := by
  unfold disj at h ⊢
  rw [List.all_eq_true] at h ⊢
  intro z hz
  have := h z (ha z hz)
  simp only [Bool.not_eq_true', List.contains_eq_mem, decide_eq_false_iff_not] at this ⊢
  exact fun hm => this (hb z hm)
theorem Covers.length {a b : List (List Key × List Key)} (h : Covers a b) : a.length = b.length := by
  induction h with
  | nil => rfl
  | cons _ _ _ ih => simp [ih]
theorem Covers.get {a b : List (List Key × List Key)} (h : Covers a b) : ∀ {j : Nat} {x : List Key × List Key}, a[j]? = some x → ∃ y, b[j]? = some y ∧ (∀ z ∈ x.1, z ∈ y.1) ∧ ∀ z ∈ x.2, z ∈ y.2 := by
  induction h with
  | nil => intro j x hx; simp at hx
  | @cons a b as bs h1 h2 _ ih =>
    intro j x hx
    cases j with
    | zero =>
      simp only [List.getElem?_cons_zero, Option.some.injEq] at hx
      subst hx
      exact ⟨b, rfl, h1, h2⟩
    | succ j =>
      simp only [List.getElem?_cons_succ] at hx ⊢
      exact ih hx
theorem drawOk_mono {bs : List Nat} {a b : List (List Key × List Key)} (h : Covers a b) (hd : drawOk bs b = true) : drawOk bs a = true := by
  unfold drawOk at hd ⊢
  rw [List.all_eq_true] at hd ⊢
  rintro ⟨x, j⟩ hx
  have hxj := List.mem_zipIdx_iff_getElem?.1 hx
  obtain ⟨y, hy, y1, y2⟩ := h.get hxj
  have h1 := hd (y, j) (List.mem_zipIdx_iff_getElem?.2 hy)
  simp only [List.all_eq_true] at h1 ⊢
  rintro ⟨x', i⟩ hx'
  have hxi := List.mem_zipIdx_iff_getElem?.1 hx'
  simp only [List.getElem?_take] at hxi
  split at hxi
  · rename_i hij
    obtain ⟨y', hy', z1, z2⟩ := h.get hxi
    have h2 := h1 (y', i) (List.mem_zipIdx_iff_getElem?.2 (by simp only [List.getElem?_take, hij, if_true]; exact hy'))
    simp only [Bool.or_eq_true] at h2 ⊢
    refine h2.imp id fun h3 => ?_
    unfold pairOk at h3 ⊢
    simp only [Bool.and_eq_true] at h3 ⊢
    exact ⟨⟨disj_mono z2 y1 h3.1.1, disj_mono z2 y2 h3.1.2⟩, disj_mono z1 y2 h3.2⟩
  · cases hxi
end
end Go.Vm
/- Where ways meet: the state told anew. -/
namespace Go.Vm

/-! ### Renamings -/
def RenOK (r : Ren) : Prop := ∀ d d2 x, r.lookup d = some x → r.lookup d2 = some x → d = d2
theorem lookup_mem {d x : Nat} : ∀ {r : Ren}, r.lookup d = some x → (d, x) ∈ r
  | [], h => by simp at h
  | (a, b) :: r, h => by
    simp only [List.lookup_cons] at h
    split at h
    · rename_i e
      have : d = a := by simpa using e
      cases h; subst this; exact List.mem_cons_self
    · exact List.mem_cons_of_mem _ (lookup_mem h)
theorem Ren.add_ok {r r' : Ren} {d d' : Nat} (h : RenOK r) (ha : r.add d d' = some r') : RenOK r' := by
  unfold Ren.add at ha
  split at ha
  · split at ha
    · cases ha; exact h
    · cases ha
  · split at ha
    · cases ha
    · rename_i hany
      cases ha
      have hno : ∀ a, r.lookup a ≠ some d' := by
        intro a e
        have := lookup_mem e
        refine hany ?_
        rw [List.any_eq_true]
        exact ⟨_, this, by simp⟩
      intro a b x h1 h2
      simp only [List.lookup_cons] at h1 h2
      split at h1 <;> split at h2
      · rename_i _ e1 _ e2
        have e1' : a = d := by simpa using e1
        have e2' : b = d := by simpa using e2
        rw [e1', e2']
      · cases h1; exact absurd h2 (hno b)
      · cases h2; exact absurd h1 (hno a)
      · exact h a b x h1 h2
theorem JK.ren_ok {r r' : Ren} {k : JK} {c : TC} (h : RenOK r) (ha : k.ren r c = some r') : RenOK r' := by
  unfold JK.ren at ha
  split at ha <;> first | exact Ren.add_ok h ha | (cases ha; exact h)
theorem renL_ok : ∀ {ks : List JK} {cs : List TC} {r r' : Ren}, RenOK r → renL r ks cs = some r' → RenOK r'
  | [], cs, r, r', h, ha => by simp only [renL] at ha; cases ha; exact h
  | _ :: _, [], r, r', h, ha => by simp only [renL] at ha; cases ha; exact h
  | k :: ks, c :: cs, r, r', h, ha => by
    simp only [renL] at ha
    split at ha
    · rename_i r1 e1
      exact renL_ok (JK.ren_ok h e1) ha
    · cases ha
theorem JT.ren_ok {r r' : Ren} {k : JT} {v : TV} (h : RenOK r) (ha : k.ren r v = some r') : RenOK r' := by
  unfold JT.ren at ha
  split at ha
  · exact JK.ren_ok h ha
  · split at ha
    · exact renL_ok h ha
    · cases ha
  · split at ha
    · rename_i r1 e1
      exact renL_ok (renL_ok h e1) ha
    · cases ha
  · cases ha; exact h
theorem renT_ok {τ : TState} : ∀ {js : List (Nat × JT)} {r r' : Ren}, RenOK r → renT τ r js = some r' → RenOK r'
  | [], r, r', h, ha => by simp only [renT] at ha; cases ha; exact h
  | (n, k) :: js, r, r', h, ha => by
    simp only [renT] at ha
    split at ha
    · rename_i r1 e1
      exact renT_ok (JT.ren_ok h e1) ha
    · cases ha
theorem renO_ok {τ : TState} : ∀ {js : List (Nat × List Slot × JO)} {r r' : Ren}, RenOK r → renO τ r js = some r' → RenOK r'
  | [], r, r', h, ha => by simp only [renO] at ha; cases ha; exact h
  | (d, ss, k) :: js, r, r', h, ha => by
    simp only [renO] at ha
    split at ha
    · cases ha
    · rename_i r1 e1
      have h1 : RenOK r1 := by
        split at e1
        · cases e1; exact h
        · split at e1
          · exact Ren.add_ok h e1
          · cases e1; exact h
      split at ha
      · split at ha
        · split at ha
          · rename_i r2 e2
            exact renO_ok (renL_ok h1 e2) ha
          · cases ha
        · cases ha
      · exact renO_ok h1 ha

theorem freeS_ok {r : Ren} : ∀ {js : List (Nat × List Slot × JO)} {used : List Slot}, freeS r used js = true → (js.map (·.1)).Nodup →
    ∃ f : Nat → Slot, (∀ p ∈ js, r.lookup p.1 = none → f p.1 ∈ p.2.1 ∧ f p.1 ∉ used) ∧ ∀ p ∈ js, ∀ q ∈ js, r.lookup p.1 = none → r.lookup q.1 = none → p.1 ≠ q.1 → f p.1 ≠ f q.1
  | [], used, _, _ => ⟨fun _ => 0, by simp, by simp⟩
  | (d, ss, k) :: js, used, h, hn => by
    simp only [List.map_cons, List.nodup_cons] at hn
    simp only [freeS] at h
    have hne : ∀ q ∈ js, q.1 ≠ d := fun q hq e => hn.1 (List.mem_map.2 ⟨q, hq, e⟩)
    split at h
    · rename_i x e
      obtain ⟨f, h1, h2⟩ := freeS_ok h hn.2
      refine ⟨f, fun p hp hl => ?_, fun p hp q hq hl1 hl2 hne => ?_⟩
      · simp only [List.mem_cons] at hp
        rcases hp with rfl | hp
        · rw [e] at hl; cases hl
        · exact h1 p hp hl
      · simp only [List.mem_cons] at hp hq
        rcases hp with rfl | hp
        · rw [e] at hl1; cases hl1
        · rcases hq with rfl | hq
          · rw [e] at hl2; cases hl2
          · exact h2 p hp q hq hl1 hl2 hne
    · split at h
      · rename_i s es
        obtain ⟨f, h1, h2⟩ := freeS_ok h hn.2
        have hs1 := List.mem_of_find?_eq_some es
        have hs2 : s ∉ used := by simpa using List.find?_some es
        refine ⟨fun x => if x = d then s else f x, fun p hp hl => ?_, fun p hp q hq hl1 hl2 hpq => ?_⟩
        · simp only [List.mem_cons] at hp
          rcases hp with rfl | hp
          · simp only [if_true]; exact ⟨hs1, hs2⟩
          · simp only [if_neg (hne p hp)]
            obtain ⟨a, b⟩ := h1 p hp hl
            exact ⟨a, fun hm => b (List.mem_cons_of_mem _ hm)⟩
        · simp only [List.mem_cons] at hp hq
          rcases hp with rfl | hp
          · rcases hq with rfl | hq
            · exact absurd rfl hpq
            · simp only [if_true, if_neg (hne q hq)]
              intro e
              exact (h1 q hq hl2).2 (e ▸ List.mem_cons_self)
          · rcases hq with rfl | hq
            · simp only [if_true, if_neg (hne p hp)]
              intro e
              exact (h1 p hp hl1).2 (e ▸ List.mem_cons_self)
            · simp only [if_neg (hne p hp), if_neg (hne q hq)]
              exact h2 p hp q hq hl1 hl2 hpq
      · cases h

/-! ### Cells told anew -/
section
variable {τ τ' : TState} {σ : State} {m m' : Nat → Slot} {r : Ren} {ob : List (Nat × List Slot × JO)}

/-- The objects, told anew. -/
structure ObR (τ τ' : TState) (m m' : Nat → Slot) (r : Ren) (ob : List (Nat × List Slot × JO)) : Prop where
  sl : ∀ d ss e fz s1, (d, ss, JO.sl e fz s1) ∈ ob → (∀ d', r.lookup d = some d' → ∃ l cap fz' s1', τ.getO d' = some (.sl e l cap fz' s1') ∧ τ'.getO d = some (.sl e l none fz s1) ∧ (fz' = true → fz = true) ∧ m' d = m d') ∧ (r.lookup d = none → τ'.getO d = some (.sl e [] none fz s1))
  var : ∀ d ss a ks fz s1, (d, ss, JO.var a ks fz s1) ∈ ob → ∀ d', r.lookup d = some d' → (∃ g cs fz s1, τ'.getO d = some (.var g cs fz s1)) ∧ m' d = m d'

theorem ok_sl {d : Nat} (h : (ob.any fun p => p.1 == d && (match p.2.2 with
    | .sl _ _ _ => true
    | _ => false)) = true) : ∃ ss e fz s1, (d, ss, JO.sl e fz s1) ∈ ob := by
  rw [List.any_eq_true] at h
  obtain ⟨⟨d', ss, k⟩, hp, h⟩ := h
  simp only [Bool.and_eq_true, beq_iff_eq] at h
  obtain ⟨rfl, h⟩ := h
  cases k with
  | sl e fz s1 => exact ⟨ss, e, fz, s1, hp⟩
  | _ => cases h
theorem ok_var {d : Nat} (h : (ob.any fun p => p.1 == d && (match p.2.2 with
    | .var _ _ _ _ => true
    | _ => false)) = true) : ∃ ss a ks fz s1, (d, ss, JO.var a ks fz s1) ∈ ob := by
  rw [List.any_eq_true] at h
  obtain ⟨⟨d', ss, k⟩, hp, h⟩ := h
  simp only [Bool.and_eq_true, beq_iff_eq] at h
  obtain ⟨rfl, h⟩ := h
  cases k with
  | var a ks fz s1 => exact ⟨ss, a, ks, fz, s1, hp⟩
  | _ => cases h

theorem SlR.weak {s : Slot} {e : Ty} {l : List e.D} {cap : Option Nat} {fz fz' : Bool} (h : SlR σ s e l cap fz') (hf : fz' = true → fz = true) : SlR σ s e l none fz := by
  obtain ⟨⟨st, c, h1, h2, h3⟩, h4⟩ := h
  refine ⟨⟨st, c, h1, h2, by simp⟩, fun hz => h4 ?_⟩
  cases fz' with
  | false => rfl
  | true => rw [hf rfl] at hz; cases hz

theorem all_sub {a b : List Slot} (h : a.all b.contains = true) : ∀ s ∈ a, s ∈ b := by
  intro s hs
  have := List.all_eq_true.1 h s hs
  simpa using this

theorem cell_ok (hO : ObR τ τ' m m' r ob) (hat : ∀ d, τ.getO d ≠ none → m d ∈ τ.at_ d) {k : JK} {c c' : TC} {p rest rest' : List DP} (hd : k.dump τ r c = some p) (hf : k.fill (p ++ rest) = some (c', rest')) (hk : k.ok ob = true) :
    rest' = rest ∧ ∀ as, RC τ σ m c as → RC τ' σ m' c' as := by
  unfold JK.dump at hd
  split at hd
  · split at hd
    · rename_i hw
      cases hd
      simp only [List.nil_append, JK.fill] at hf
      cases hf
      exact ⟨rfl, fun as h => by show as.length = 1; rw [h.length, hw]⟩
    · cases hd
  · rename_i t t' x
    split at hd
    · rename_i ht
      subst ht
      cases hd
      simp only [List.cons_append, List.nil_append, JK.fill, if_true] at hf
      cases hf
      exact ⟨rfl, fun as h => h⟩
    · cases hd
  · rename_i b
    cases hd
    simp only [List.cons_append, List.nil_append, JK.fill, if_true] at hf
    cases hf
    exact ⟨rfl, fun as h => h⟩
  · rename_i b b'
    split at hd
    · rename_i hb
      subst hb
      cases hd
      simp only [List.nil_append, JK.fill] at hf
      cases hf
      exact ⟨rfl, fun as h => h⟩
    · cases hd
  · cases hd
    simp only [List.nil_append, JK.fill] at hf
    cases hf
    exact ⟨rfl, fun as h => h⟩
  · rename_i e ds e' l ds'
    split at hd
    · rename_i hh
      obtain ⟨rfl, hds⟩ := hh
      cases hd
      simp only [dpl, List.cons_append, List.nil_append, JK.fill, if_true] at hf
      cases hf
      refine ⟨rfl, fun as h => ?_⟩
      obtain ⟨a, rfl, h⟩ := h
      refine ⟨a, rfl, ?_⟩
      rcases h with h | h | ⟨s, hs, h⟩
      · exact .inl h
      · exact .inr (.inl h)
      · exact .inr (.inr ⟨s, all_sub hds s hs, h⟩)
    · cases hd
  · rename_i e ds
    cases hd
    simp only [dpl, List.cons_append, List.nil_append, JK.fill, if_true] at hf
    cases hf
    exact ⟨rfl, fun as h => ⟨_, h, .inr (.inl ⟨rfl, rfl⟩)⟩⟩
  · rename_i e ds d w mn
    split at hd
    · rename_i hds
      split at hd
      · rename_i e' l cap fz s1 ho
        split at hd
        · rename_i he
          subst he
          have key : ∀ (lw : List e'.D), p = [dpl e' lw] → (∀ as, RC τ σ m (.own d w mn) as → ∃ a, as = [a] ∧ LstR σ e' lw ds a) → rest' = rest ∧ ∀ as, RC τ σ m (.own d w mn) as → RC τ' σ m' c' as := by
            intro lw e1 h
            subst e1
            simp only [dpl, List.cons_append, List.nil_append, JK.fill, if_true] at hf
            cases hf
            exact ⟨rfl, h⟩
          have hs : m d ∈ ds := all_sub hds _ (hat d (by rw [ho]; simp))
          have inv : ∀ (w' : Option (Nat × Nat)) as, RC τ σ m (.own d w' mn) as → ∃ a, as = [a] ∧ ((SlR σ (m d) e' l cap fz ∧ match w' with
              | none => a = .sref (m d) (σ.getO (m d)).st 0 l.length
              | some (lo, n) => lo + n ≤ l.length ∧ a = .sref (m d) (σ.getO (m d)).st lo n) ∨
              (mn = true ∧ a = .nil ∧ l = [] ∧ ∀ lo n, w' = some (lo, n) → lo = 0 ∧ n = 0)) := by
            rintro w' as ⟨a, rfl, e0, l0, cap0, fz0, s10, ho0, h⟩
            rw [ho] at ho0
            simp only [Option.some.injEq, TO.sl.injEq] at ho0
            obtain ⟨rfl, hll, rfl, rfl, rfl⟩ := ho0
            cases hll
            exact ⟨a, rfl, h⟩
          cases w with
          | none =>
            cases hd
            refine key l rfl fun as hx => ?_
            obtain ⟨a, rfl, h⟩ := inv _ as hx
            clear hx
            refine ⟨a, rfl, ?_⟩
            rcases h with ⟨⟨⟨st, c, g1, g2, _⟩, _⟩, hw⟩ | ⟨_, rfl, rfl, _⟩
            · simp only at hw
              subst hw
              refine .inr (.inr ⟨m d, hs, st, c, 0, l.length, _, g1, by simpa using g2, by simp, by rw [List.drop_zero, List.take_of_length_le (by simp)], by rw [g1]⟩)
            · exact .inr (.inl ⟨rfl, rfl⟩)
          | some q =>
            obtain ⟨lo, n⟩ := q
            cases hd
            refine key _ rfl fun as hx => ?_
            obtain ⟨a, rfl, h⟩ := inv _ as hx
            clear hx
            refine ⟨a, rfl, ?_⟩
            rcases h with ⟨⟨⟨st, c, g1, g2, _⟩, _⟩, hw⟩ | ⟨_, rfl, rfl, _⟩
            · simp only at hw
              obtain ⟨hle, rfl⟩ := hw
              refine .inr (.inr ⟨m d, hs, st, c, lo, n, _, g1, by simpa using g2, by simpa using hle, by rw [List.map_take, List.map_drop], by rw [g1]⟩)
            · exact .inr (.inl ⟨by simp, rfl⟩)
        · cases hd
      · cases hd
    · cases hd
  · rename_i d mn d' mn'
    split at hd
    · rename_i hh
      cases hd
      simp only [List.nil_append, JK.fill] at hf
      cases hf
      refine ⟨rfl, fun as h => ?_⟩
      obtain ⟨ss, e, fz, s1, hm⟩ := ok_sl hk
      obtain ⟨l, cap, fz', s1', g1, g2, g3, g4⟩ := (hO.sl d ss e fz s1 hm).1 d' hh.1
      obtain ⟨a, rfl, e0, l0, cap0, fz0, s10, ho0, h⟩ := h
      rw [g1] at ho0
      simp only [Option.some.injEq, TO.sl.injEq] at ho0
      obtain ⟨rfl, hll, rfl, rfl, rfl⟩ := ho0
      cases hll
      refine ⟨a, rfl, e, l, none, fz, s1, g2, ?_⟩
      rcases h with ⟨h1, h2⟩ | ⟨h1, h2, h3, h4⟩
      · left
        rw [g4]
        exact ⟨h1.weak g3, h2⟩
      · right
        exact ⟨hh.2 h1, h2, h3, h4⟩
    · cases hd
  · rename_i d
    split at hd
    · rename_i hh
      cases hd
      simp only [List.nil_append, JK.fill] at hf
      cases hf
      refine ⟨rfl, fun as h => ?_⟩
      obtain ⟨ss, e, fz, s1, hm⟩ := ok_sl hk
      have g := (hO.sl d ss e fz s1 hm).2 hh
      exact ⟨.nil, h, e, [], none, fz, s1, g, .inr ⟨rfl, rfl, rfl, by simp⟩⟩
    · cases hd
  · rename_i d mn d' lo n mn'
    split at hd
    · rename_i hh
      cases hd
      simp only [dpn, List.cons_append, List.nil_append, JK.fill] at hf
      cases hf
      refine ⟨rfl, fun as h => ?_⟩
      obtain ⟨ss, e, fz, s1, hm⟩ := ok_sl hk
      obtain ⟨l, cap, fz', s1', g1, g2, g3, g4⟩ := (hO.sl d ss e fz s1 hm).1 d' hh.1
      obtain ⟨a, rfl, e0, l0, cap0, fz0, s10, ho0, h⟩ := h
      rw [g1] at ho0
      simp only [Option.some.injEq, TO.sl.injEq] at ho0
      obtain ⟨rfl, hll, rfl, rfl, rfl⟩ := ho0
      cases hll
      refine ⟨a, rfl, e, l, none, fz, s1, g2, ?_⟩
      rcases h with ⟨h1, h2⟩ | ⟨h1, h2, h3, h4⟩
      · left
        rw [g4]
        exact ⟨h1.weak g3, h2⟩
      · right
        exact ⟨hh.2 h1, h2, h3, h4⟩
    · cases hd
  · rename_i d mn d' mn'
    split at hd
    · rename_i hh
      split at hd
      · rename_i e1 l1 cap1 fz1 s11 ho1
        cases hd
        simp only [dpn, List.cons_append, List.nil_append, JK.fill] at hf
        cases hf
        refine ⟨rfl, fun as h => ?_⟩
        obtain ⟨ss, e, fz, s1, hm⟩ := ok_sl hk
        obtain ⟨l, cap, fz', s1', g1, g2, g3, g4⟩ := (hO.sl d ss e fz s1 hm).1 d' hh.1
        obtain ⟨a, rfl, e0, l0, cap0, fz0, s10, ho0, h⟩ := h
        rw [g1] at ho0 ho1
        simp only [Option.some.injEq, TO.sl.injEq] at ho0 ho1
        obtain ⟨rfl, hll, rfl, rfl, rfl⟩ := ho0
        cases hll
        obtain ⟨rfl, hll, rfl, rfl, rfl⟩ := ho1
        cases hll
        refine ⟨a, rfl, e, l, none, fz, s1, g2, ?_⟩
        rcases h with ⟨h1, h2⟩ | ⟨h1, h2, h3, h4⟩
        · left
          rw [g4]
          exact ⟨h1.weak g3, by simp only [Nat.zero_add]; exact ⟨Nat.le_refl _, h2⟩⟩
        · right
          subst h3
          exact ⟨hh.2 h1, h2, rfl, fun lo n e => by cases e; exact ⟨rfl, rfl⟩⟩
      · cases hd
    · cases hd
  · rename_i d d'
    split at hd
    · rename_i hh
      cases hd
      simp only [List.nil_append, JK.fill] at hf
      cases hf
      refine ⟨rfl, fun as h => ?_⟩
      obtain ⟨ss, e, fz, s1, hm⟩ := ok_sl hk
      obtain ⟨l, cap, fz', s1', g1, g2, g3, g4⟩ := (hO.sl d ss e fz s1 hm).1 d' hh
      obtain ⟨e0, l0, cap0, fz0, s10, lo, n, ho0, h1, h2, h3⟩ := h
      rw [g1] at ho0
      simp only [Option.some.injEq, TO.sl.injEq] at ho0
      obtain ⟨rfl, hll, rfl, rfl, rfl⟩ := ho0
      cases hll
      exact ⟨e, l, none, fz, s1, lo, n, g2, by rw [g4]; exact h1.weak g3, h2, by rw [g4]; exact h3⟩
    · cases hd
  · rename_i d off d' off'
    split at hd
    · rename_i hh
      obtain ⟨hh, rfl⟩ := hh
      cases hd
      simp only [List.nil_append, JK.fill] at hf
      cases hf
      refine ⟨rfl, fun as h => ?_⟩
      obtain ⟨ss, a, ks, fz, s1, hm⟩ := ok_var hk
      obtain ⟨g1, g2⟩ := hO.var d ss a ks fz s1 hm d' hh
      exact ⟨g1, by rw [g2]; exact h.2⟩
    · cases hd
  · rename_i d off d' i off'
    split at hd
    · rename_i hh
      obtain ⟨hh, rfl⟩ := hh
      cases hd
      simp only [dpn, List.cons_append, List.nil_append, JK.fill] at hf
      cases hf
      refine ⟨rfl, fun as h => ?_⟩
      obtain ⟨ss, e, fz, s1, hm⟩ := ok_sl hk
      obtain ⟨l, cap, fz', s1', g1, g2, g3, g4⟩ := (hO.sl d ss e fz s1 hm).1 d' hh
      obtain ⟨e0, l0, cap0, fz0, s10, ho0, h1, h2⟩ := h
      rw [g1] at ho0
      simp only [Option.some.injEq, TO.sl.injEq] at ho0
      obtain ⟨rfl, hll, rfl, rfl, rfl⟩ := ho0
      cases hll
      exact ⟨e, l, none, fz, s1, g2, h1, by rw [g4]; exact h2⟩
    · cases hd
  · rename_i t off ds t' x off' ds'
    split at hd
    · rename_i hh
      obtain ⟨rfl, rfl, hds⟩ := hh
      cases hd
      simp only [List.cons_append, List.nil_append, JK.fill, if_true] at hf
      cases hf
      refine ⟨rfl, fun as h => ?_⟩
      rcases h with h | ⟨s, hs, h⟩
      · exact .inl h
      · exact .inr ⟨s, all_sub hds s hs, h⟩
    · cases hd
  · cases hd
end
end Go.Vm
