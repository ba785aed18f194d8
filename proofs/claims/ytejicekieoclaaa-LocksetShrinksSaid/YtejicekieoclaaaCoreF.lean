/- Regions whose order is drawn. -/
import Derived.Test.YtejicekieoclaaaCoreE
namespace Go.Abs
variable {G : Gi} {A : Nat → Prop} {σ σ' τ τ' : Sg}

structure Ag (G : Gi) (A : Nat → Prop) (σ σ' : Sg) : Prop where
  eq : ∀ s, A s → σ' s = σ s
  ri : ∀ s, A s → rin (G.rtOf s) (σ s) = true
structure Mv (G : Gi) (A : Nat → Prop) (σ σ' τ τ' : Sg) : Prop where
  ag : Ag G A τ τ'
  off : ∀ s, ¬ A s → τ' s = σ' s ∧ τ s = σ s
structure Cl (G : Gi) (A : Nat → Prop) (s : Nat) : Prop where
  own : A s
  als : ∀ x ∈ G.als s, A x
  rt : ∀ r ∈ G.rtOf s, A r ∧ ∀ x ∈ G.als r, A x
def ClA (G : Gi) (A : Nat → Prop) : Ar → Prop
  | .t s => Cl G A s
  | .c a => rin [] a = true

theorem Mv.refl (h : Ag G A σ σ') : Mv G A σ σ' σ σ' := ⟨h, fun _ _ => ⟨rfl, rfl⟩⟩
theorem Mv.trans {υ υ' : Sg} (h : Mv G A σ σ' τ τ') (h' : Mv G A τ τ' υ υ') : Mv G A σ σ' υ υ' :=
  ⟨h'.ag, fun s hs => ⟨(h'.off s hs).1.trans (h.off s hs).1, (h'.off s hs).2.trans (h.off s hs).2⟩⟩

theorem rin_killr' (L : List Nat) (d : Nat) : ∀ (a : AV), rin L a = true → rin L (killr d a) = true
  | .al r p, h => by
    rw [killr_al]; split
    · simp
    · exact h
  | .adr r p i j k, h => by
    rw [killr_adr]; split
    · simp
    · exact h
  | .agg cs, h => by
    rw [rin_agg, List.all_eq_true] at h
    rw [killr_agg, rin_agg, List.all_map, List.all_eq_true]
    intro c hc
    exact rin_killr' L d c (h c hc)
  | .tup cs, h => by
    rw [rin_tup, List.all_eq_true] at h
    rw [killr_tup, rin_tup, List.all_map, List.all_eq_true]
    intro c hc
    exact rin_killr' L d c (h c hc)
  | .sc _, _ => by simp
  | .sl .., _ => by simp
  | .own .., _ => by simp
  | .fp _, _ => by simp
  | .dead, _ => by simp
  | .un, _ => by simp

theorem rin_put {L : List Nat} (p : List Step) : ∀ {t x t' : AV}, put t p x = some t' → rin L t = true → rin L x = true → rin L t' = true := by
  induction p with
  | nil =>
    intro t x t' h _ hx
    have : t' = x := by cases t <;> simp [put] at h <;> exact h.symm
    subst this; exact hx
  | cons s p ih =>
    obtain ⟨i, j, k⟩ := s
    intro t x t' h ht hx
    cases t with
    | own b k rows =>
      simp only [put] at h
      split at h
      · split at h
        · split at h
          · cases h; simp
          · cases h
        · cases h
      · cases h
    | agg cs =>
      simp only [put] at h
      split at h
      · rename_i c hc
        split at h
        · rename_i c' hc'
          cases h
          rw [rin_agg, List.all_eq_true] at ht ⊢
          intro e he
          rcases List.mem_or_eq_of_mem_set he with he | rfl
          · exact ht e he
          · exact ih hc' (ht c (List.mem_of_getElem? hc)) hx
        · cases h
      · cases h
    | tup cs =>
      simp only [put] at h
      split at h
      · rename_i c hc
        split at h
        · rename_i c' hc'
          cases h
          rw [rin_tup, List.all_eq_true] at ht ⊢
          intro e he
          rcases List.mem_or_eq_of_mem_set he with he | rfl
          · exact ht e he
          · exact ih hc' (ht c (List.mem_of_getElem? hc)) hx
        · cases h
      · cases h
    | _ => simp [put] at h

theorem Ag.kup (h : Ag G A σ σ') {r : Nat} {t : AV} (hr : A r) (ha : ∀ x ∈ G.als r, A x) (ht : rin (G.rtOf r) t = true) : Mv G A σ σ' (upd (killS G r σ) r t) (upd (killS G r σ') r t) := by
  refine ⟨⟨fun s hs => ?_, fun s hs => ?_⟩, fun s hs => ?_⟩
  · simp only [upd, killS, h.eq s hs]
  · simp only [upd, killS]
    split
    · rename_i e; subst e; exact ht
    · split
      · exact rin_killr' _ _ _ (h.ri s hs)
      · exact h.ri s hs
  · have h1 : s ≠ r := fun e => hs (e ▸ hr)
    have h2 : s ∉ G.als r := fun e => hs (ha s e)
    simp [upd, killS, h1, h2]

theorem Ag.up (h : Ag G A σ σ') {r : Nat} {t : AV} (hr : A r) (ht : rin (G.rtOf r) t = true) : Mv G A σ σ' (upd σ r t) (upd σ' r t) := by
  refine ⟨⟨fun s hs => ?_, fun s hs => ?_⟩, fun s hs => ?_⟩
  · simp only [upd, h.eq s hs]
  · simp only [upd]
    split
    · rename_i e; subst e; exact ht
    · exact h.ri s hs
  · have h1 : s ≠ r := fun e => hs (e ▸ hr)
    simp [upd, h1]

theorem tk1_loc (h : Ag G A σ σ') {r : Nat} {p : List Step} {v : AV} (hr : A r) (ha : ∀ x ∈ G.als r, A x) (ht : tk1 G r p σ = some (v, τ)) : ∃ τ', tk1 G r p σ' = some (v, τ') ∧ Mv G A σ σ' τ τ' := by
  unfold tk1 at ht ⊢
  rw [h.eq r hr]
  split at ht
  · rename_i b k rows hs
    split at ht
    · rename_i t hp
      cases ht
      exact ⟨_, rfl, h.kup hr ha (rin_put p hp (h.ri r hr) (by simp))⟩
    · cases ht
  · cases ht

theorem fzAt_loc (h : Ag G A σ σ') {r : Nat} {p : List Step} {v : AV} (hr : A r) (ha : ∀ x ∈ G.als r, A x) (ht : fzAt G r p σ = some (v, τ)) : ∃ τ', fzAt G r p σ' = some (v, τ') ∧ Mv G A σ σ' τ τ' := by
  unfold fzAt at ht ⊢
  rw [h.eq r hr]
  split at ht
  · rename_i b k rows hs
    split at ht
    · rename_i t hp
      cases ht
      refine ⟨_, rfl, h.kup hr ha (rin_put p hp (h.ri r hr) ?_)⟩
      cases b <;> simp
    · cases ht
  · cases ht

theorem tkL_loc (cs : List AV) : ∀ {σ σ' τ : Sg} {l : List AV}, Ag G A σ σ' → (∀ r p, AV.al r p ∈ cs → A r ∧ ∀ x ∈ G.als r, A x) → tkL G cs σ = some (l, τ) → ∃ τ', tkL G cs σ' = some (l, τ') ∧ Mv G A σ σ' τ τ' := by
  induction cs with
  | nil => intro σ σ' τ l h _ ht; simp only [tkL, Option.some.injEq, Prod.mk.injEq] at ht ⊢; obtain ⟨rfl, rfl⟩ := ht; exact ⟨σ', ⟨rfl, rfl⟩, .refl h⟩
  | cons a cs ih =>
    intro σ σ' τ l h hc ht
    have hc' : ∀ r p, AV.al r p ∈ cs → A r ∧ ∀ x ∈ G.als r, A x := fun r p hm => hc r p (by simp [hm])
    have plain : (∀ r p, a ≠ .al r p) → ∃ τ', tkL G (a :: cs) σ' = some (l, τ') ∧ Mv G A σ σ' τ τ' := by
      intro hna
      have e : ∀ σ, tkL G (a :: cs) σ = if cellA a = true then (match tkL G cs σ with | some (l, τ) => some (a :: l, τ) | none => none) else none := by
        intro σ; cases a <;> first | rfl | exact absurd rfl (hna _ _)
      rw [e] at ht ⊢
      split at ht
      · rename_i hca
        rw [if_pos hca]
        split at ht
        · rename_i l' τ1 h1
          cases ht
          obtain ⟨τ', g1, g2⟩ := ih h hc' h1
          exact ⟨τ', by rw [g1], g2⟩
        · cases ht
      · cases ht
    cases a with
    | al r p =>
      obtain ⟨hr, ha⟩ := hc r p (by simp)
      simp only [tkL] at ht ⊢
      split at ht
      · rename_i n τ1 h1
        obtain ⟨τ1', g1, g2⟩ := tk1_loc h hr ha h1
        rw [g1]
        simp only
        split at ht
        · rename_i l' τ2 h2
          cases ht
          obtain ⟨τ2', g3, g4⟩ := ih g2.ag hc' h2
          exact ⟨τ2', by rw [g3], g2.trans g4⟩
        · cases ht
      · cases ht
    | _ => exact plain (by simp)

theorem tk_loc (h : Ag G A σ σ') {x : Ar} {v : AV} (hx : ClA G A x) (ht : tk G x σ = some (v, τ)) : ∃ τ', tk G x σ' = some (v, τ') ∧ Mv G A σ σ' τ τ' := by
  cases x with
  | c a => simp only [tk, Option.some.injEq, Prod.mk.injEq] at ht ⊢; obtain ⟨rfl, rfl⟩ := ht; exact ⟨σ', ⟨rfl, rfl⟩, .refl h⟩
  | t s =>
    have hcl : Cl G A s := hx
    have hs := h.eq s hcl.own
    have hri := h.ri s hcl.own
    simp only [tk] at ht ⊢
    rw [hs]
    cases hv : σ s with
    | al r p =>
      rw [hv] at ht hri
      simp only [rin_al, List.contains_iff_mem] at hri
      obtain ⟨h1, h2⟩ := hcl.rt r hri
      exact tk1_loc h h1 h2 ht
    | own b k rows =>
      rw [hv] at ht
      cases ht
      exact ⟨_, rfl, h.kup hcl.own hcl.als (by simp)⟩
    | agg cs =>
      rw [hv] at ht hri
      simp only at ht ⊢
      split at ht
      · rename_i hp
        cases ht
        rw [if_pos hp]
        exact ⟨σ', rfl, .refl h⟩
      · rename_i hp
        rw [if_neg hp]
        split at ht
        · rename_i l τ1 h1
          cases ht
          have hm := h.kup (t := .dead) hcl.own hcl.als (by simp)
          obtain ⟨τ', g1, g2⟩ := tkL_loc cs hm.ag (by
            intro r p hrp
            rw [rin_agg, List.all_eq_true] at hri
            have := hri _ hrp
            simp only [rin_al, List.contains_iff_mem] at this
            exact hcl.rt r this) h1
          exact ⟨τ', by rw [g1], hm.trans g2⟩
        · cases ht
    | sc => rw [hv] at ht; cases ht; exact ⟨σ', rfl, .refl h⟩
    | sl => rw [hv] at ht; cases ht; exact ⟨σ', rfl, .refl h⟩
    | adr => rw [hv] at ht; cases ht; exact ⟨σ', rfl, .refl h⟩
    | fp => rw [hv] at ht; cases ht; exact ⟨σ', rfl, .refl h⟩
    | _ => rw [hv] at ht; cases ht

theorem tkArgs_loc (xs : List Ar) : ∀ {σ σ' τ : Sg} {l : List AV}, Ag G A σ σ' → (∀ x ∈ xs, ClA G A x) → tkArgs G xs σ = some (l, τ) → ∃ τ', tkArgs G xs σ' = some (l, τ') ∧ Mv G A σ σ' τ τ' := by
  induction xs with
  | nil => intro σ σ' τ l h _ ht; simp only [tkArgs, Option.some.injEq, Prod.mk.injEq] at ht ⊢; obtain ⟨rfl, rfl⟩ := ht; exact ⟨σ', ⟨rfl, rfl⟩, .refl h⟩
  | cons x xs ih =>
    intro σ σ' τ l h hx ht
    simp only [tkArgs] at ht ⊢
    split at ht
    · rename_i a τ1 h1
      obtain ⟨τ1', g1, g2⟩ := tk_loc h (hx x (by simp)) h1
      rw [g1]
      simp only
      split at ht
      · rename_i l' τ2 h2
        cases ht
        obtain ⟨τ2', g3, g4⟩ := ih g2.ag (fun y hy => hx y (by simp [hy])) h2
        exact ⟨τ2', by rw [g3], g2.trans g4⟩
      · cases ht
    · cases ht

theorem bldL_loc (ps : List (Nat × Nat × Ar)) : ∀ {σ σ' τ : Sg} {cs l : List AV}, Ag G A σ σ' → (∀ p ∈ ps, ClA G A p.2.2) → bldL G ps cs σ = some (l, τ) → ∃ τ', bldL G ps cs σ' = some (l, τ') ∧ Mv G A σ σ' τ τ' := by
  induction ps with
  | nil => intro σ σ' τ cs l h _ ht; simp only [bldL, Option.some.injEq, Prod.mk.injEq] at ht ⊢; obtain ⟨rfl, rfl⟩ := ht; exact ⟨σ', ⟨rfl, rfl⟩, .refl h⟩
  | cons p ps ih =>
    obtain ⟨off, n, x⟩ := p
    intro σ σ' τ cs l h hx ht
    simp only [bldL] at ht ⊢
    split at ht
    · rename_i a τ1 h1
      obtain ⟨τ1', g1, g2⟩ := tk_loc h (hx _ (List.mem_cons_self ..)) h1
      rw [g1]
      simp only
      split at ht
      · rename_i hc
        rw [if_pos hc]
        obtain ⟨τ2', g3, g4⟩ := ih g2.ag (fun y hy => hx y (by simp [hy])) ht
        exact ⟨τ2', g3, g2.trans g4⟩
      · cases ht
    · cases ht

theorem bslL_loc (k : Nat) (ps : List (Nat × Ar)) : ∀ {σ σ' τ : Sg} {cs l : List (List AV)}, Ag G A σ σ' → (∀ p ∈ ps, ClA G A p.2) → bslL G k ps cs σ = some (l, τ) → ∃ τ', bslL G k ps cs σ' = some (l, τ') ∧ Mv G A σ σ' τ τ' := by
  induction ps with
  | nil => intro σ σ' τ cs l h _ ht; simp only [bslL, Option.some.injEq, Prod.mk.injEq] at ht ⊢; obtain ⟨rfl, rfl⟩ := ht; exact ⟨σ', ⟨rfl, rfl⟩, .refl h⟩
  | cons p ps ih =>
    obtain ⟨i, x⟩ := p
    intro σ σ' τ cs l h hx ht
    simp only [bslL] at ht ⊢
    split at ht
    · rename_i a τ1 h1
      obtain ⟨τ1', g1, g2⟩ := tk_loc h (hx _ (List.mem_cons_self ..)) h1
      rw [g1]
      simp only
      split at ht
      · rename_i hc
        rw [if_pos hc]
        obtain ⟨τ2', g3, g4⟩ := ih g2.ag (fun y hy => hx y (by simp [hy])) ht
        exact ⟨τ2', g3, g2.trans g4⟩
      · cases ht
    · cases ht

theorem appY_loc {k : Nat} {y : Ar} {rows : List (List AV)} (h : Ag G A σ σ') (hy : ClA G A y) (ht : appY G k y σ = some (rows, τ)) : ∃ τ', appY G k y σ' = some (rows, τ') ∧ Mv G A σ σ' τ τ' := by
  cases y with
  | c a =>
    simp only [appY] at ht ⊢
    split at ht
    · cases ht; exact ⟨σ', rfl, .refl h⟩
    · cases ht
  | t s =>
    have hcl : Cl G A s := hy
    have hs := h.eq s hcl.own
    have hri := h.ri s hcl.own
    simp only [appY] at ht ⊢
    rw [hs]
    cases hv : σ s with
    | own b k' rows' =>
      rw [hv] at ht
      cases b with
      | true => cases ht
      | false =>
        simp only at ht ⊢
        split at ht
        · rename_i hc; cases ht; rw [if_pos hc]; exact ⟨_, rfl, h.kup hcl.own hcl.als (by simp)⟩
        · cases ht
    | sl e k' rows' =>
      rw [hv] at ht
      simp only at ht ⊢
      split at ht
      · rename_i hc; cases ht; rw [if_pos hc]; exact ⟨_, rfl, .refl h⟩
      · cases ht
    | al r p =>
      rw [hv] at ht hri
      simp only [rin_al, List.contains_iff_mem] at hri
      obtain ⟨h1, h2⟩ := hcl.rt r hri
      simp only at ht ⊢
      split at ht
      · rename_i hf
        obtain ⟨τ1', g1, g2⟩ := fzAt_loc h h1 h2 hf
        rw [g1]
        simp only
        split at ht
        · rename_i hc; cases ht; rw [if_pos hc]; exact ⟨_, rfl, g2⟩
        · cases ht
      · cases ht
    | _ => rw [hv] at ht; cases ht

theorem appX_loc {k : Nat} {x : Ar} {v : AV} (h : Ag G A σ σ') (hy : ClA G A x) (ht : appX G k x σ = some (v, τ)) : ∃ τ', appX G k x σ' = some (v, τ') ∧ Mv G A σ σ' τ τ' := by
  cases x with
  | c a =>
    simp only [appX] at ht ⊢
    split at ht
    · cases ht; exact ⟨σ', rfl, .refl h⟩
    · cases ht
  | t s =>
    have hcl : Cl G A s := hy
    have hs := h.eq s hcl.own
    have hri := h.ri s hcl.own
    simp only [appX] at ht ⊢
    rw [hs]
    cases hv : σ s with
    | own b k' rows' =>
      rw [hv] at ht
      cases b with
      | true => cases ht
      | false =>
        simp only at ht ⊢
        split at ht
        · rename_i hc; cases ht; rw [if_pos hc]; exact ⟨_, rfl, h.kup hcl.own hcl.als (by simp)⟩
        · cases ht
    | sl e k' rows' =>
      rw [hv] at ht
      cases e with
      | false => cases ht
      | true =>
        simp only at ht ⊢
        split at ht
        · rename_i hc; cases ht; rw [if_pos hc]; exact ⟨_, rfl, .refl h⟩
        · cases ht
    | al r p =>
      rw [hv] at ht hri
      simp only [rin_al, List.contains_iff_mem] at hri
      obtain ⟨h1, h2⟩ := hcl.rt r hri
      simp only at ht ⊢
      split at ht
      · rename_i hf
        obtain ⟨τ1', g1, g2⟩ := tk1_loc h h1 h2 hf
        rw [g1]
        simp only
        split at ht
        · rename_i hc; cases ht; rw [if_pos hc]; exact ⟨_, rfl, g2⟩
        · cases ht
      · cases ht
    | _ => rw [hv] at ht; cases ht
end Go.Abs
namespace Go.Abs
variable {G : Gi} {A : Nat → Prop} {σ σ' τ τ' : Sg} {P : Program}

def LkA (G : Gi) (A : Nat → Prop) : Ar → Prop
  | .t s => A s ∧ ∀ r ∈ G.rtOf s, A r
  | .c a => rin [] a = true

theorem Cl.look {s : Nat} (h : Cl G A s) : LkA G A (.t s) := ⟨h.own, fun r hr => (h.rt r hr).1⟩
theorem ClA.look {x : Ar} (h : ClA G A x) : LkA G A x := by
  cases x with
  | t s => exact Cl.look h
  | c => exact h

theorem Ag.ar (h : Ag G A σ σ') {x : Ar} (hx : LkA G A x) : ar σ' x = ar σ x := by
  cases x with
  | t s => exact h.eq s hx.1
  | c => rfl

theorem Ag.root (h : Ag G A σ σ') {s r : Nat} {p : List Step} (hx : LkA G A (.t s)) (hs : σ s = .al r p) : A r := by
  have := h.ri s hx.1
  rw [hs] at this
  simp only [rin_al, List.contains_iff_mem] at this
  exact hx.2 r this
theorem Ag.rootAdr (h : Ag G A σ σ') {s r : Nat} {p : List Step} {i j k : Nat} (hx : LkA G A (.t s)) (hs : σ s = .adr r p i j k) : A r := by
  have := h.ri s hx.1
  rw [hs] at this
  simp only [rin_adr, List.contains_iff_mem] at this
  exact hx.2 r this

theorem Ag.hd (h : Ag G A σ σ') {x : Ar} (hx : LkA G A x) : hd σ' x = hd σ x := by
  cases x with
  | c => rfl
  | t s =>
    unfold Abs.hd
    simp only
    rw [h.eq s hx.1]
    cases hs : σ s with
    | al r p => simp only; rw [h.eq r (h.root hx hs)]
    | _ => rfl

theorem Ag.adrOf (h : Ag G A σ σ') {x : Ar} (hx : LkA G A x) : adrOf σ' x = adrOf σ x := by
  cases x with
  | c => rfl
  | t s =>
    unfold Abs.adrOf
    simp only
    rw [h.eq s hx.1]
    cases hs : σ s with
    | al r p => simp only; rw [h.eq r (h.root hx hs)]
    | own b k rows => cases b <;> rfl
    | _ => rfl

theorem Ag.adrRoot (h : Ag G A σ σ') {x : Ar} (hx : LkA G A x) {r : Nat} {p : List Step} {i j k : Nat} (ha : Abs.adrOf σ x = some (r, p, i, j, k)) : A r := by
  cases x with
  | c => cases ha
  | t s =>
    unfold Abs.adrOf at ha
    simp only at ha
    cases hs : σ s with
    | al r' p' =>
      rw [hs] at ha
      simp only at ha
      split at ha
      · cases ha; exact h.root hx hs
      · cases ha
    | adr r' p' i' j' k' => rw [hs] at ha; cases ha; exact h.rootAdr hx hs
    | own b k' rows => rw [hs] at ha; cases b <;> cases ha; exact hx.1
    | _ => rw [hs] at ha; cases ha

theorem Ag.optI (h : Ag G A σ σ') {x : Option Ar} (hx : ∀ y, x = some y → LkA G A y) (d : Nat) : optI σ' x d = optI σ x d := by
  cases x with
  | none => rfl
  | some y => simp only [Abs.optI]; rw [h.ar (hx y rfl)]
theorem Ag.mxI (h : Ag G A σ σ') {x : Option Ar} (hx : ∀ y, x = some y → LkA G A y) (d : Nat) : mxI σ' x d = mxI σ x d := by
  cases x with
  | none => rfl
  | some y => simp only [Abs.mxI]; rw [h.optI hx]

def reads : IOp → List Ar
  | .cp x => [x]
  | .pick c a b => [c, a, b]
  | .ld _ _ a => [a]
  | .fad _ x => [x]
  | .fld _ _ _ x => [x]
  | .iad _ x i => [x, i]
  | .aad _ _ x i => [x, i]
  | .idx _ _ _ x i => [x, i]
  | .bin _ x y => [x, y]
  | .beq _ x y => [x, y]
  | .un _ x => [x]
  | .cvt _ x => [x]
  | .len x => [x]
  | .slen x => [x]
  | .ext x _ => [x]
  | .mk _ _ _ l c => [l, c]
  | .nchk x => [x]
  | .slc _ _ _ lo hi mx => lo.toList ++ hi.toList ++ mx.toList
  | .call _ args m => if m = 1 then [] else args
  | _ => []

def takes : IOp → List Ar
  | .mv x => [x]
  | .fz x => [x]
  | .bx _ x => [x]
  | .bld _ ps => ps.map (·.2.2)
  | .bsl _ _ ps => ps.map (·.2)
  | .st _ a v => [a, v]
  | .app _ _ x y => [x, y]
  | .slc _ _ x _ _ _ => [x]
  | .call _ args m => if m = 1 then args else []
  | _ => []

theorem Ag.valOf (h : Ag G A σ σ') (o : IOp) (hx : ∀ x ∈ reads o, LkA G A x) : valOf o σ' = valOf o σ := by
  cases o with
  | cp x =>
    cases x with
    | c => rfl
    | t s => simp only [Abs.valOf]; rw [h.eq s (hx (.t s) (by simp [reads])).1]
  | pick c a b =>
    have h1 := h.ar (hx c (by simp [reads]))
    have h2 := h.ar (hx a (by simp [reads]))
    have h3 := h.ar (hx b (by simp [reads]))
    simp only [Abs.valOf]
    rw [h1]
    cases Abs.ar σ c with
    | sc v =>
      cases v with
      | bool x => cases x <;> simp [h2, h3]
      | _ => rfl
    | _ => rfl
  | ld agg n a =>
    cases a with
    | c => rfl
    | t s =>
      have hl := hx (.t s) (by simp [reads])
      simp only [Abs.valOf]
      rw [h.eq s hl.1]
      cases hs : σ s with
      | fp => rfl
      | _ =>
        simp only
        rw [h.adrOf hl]
        cases ha : Abs.adrOf σ (.t s) with
        | none => rfl
        | some q => obtain ⟨r, p, i, j, k⟩ := q; simp only; rw [h.eq r (h.adrRoot hl ha)]
  | fad off x =>
    cases x with
    | c => rfl
    | t s =>
      have hl := hx (.t s) (by simp [reads])
      simp only [Abs.valOf]
      rw [h.eq s hl.1, h.adrOf hl]
  | fld agg off n x =>
    cases x with
    | c => rfl
    | t s =>
      have hl := hx (.t s) (by simp [reads])
      simp only [Abs.valOf]
      rw [h.eq s hl.1]
  | iad k x i =>
    simp only [Abs.valOf]
    rw [h.hd (hx x (by simp [reads])), h.ar (hx i (by simp [reads]))]
  | aad len k x i =>
    cases x with
    | c => rfl
    | t s =>
      have hl := hx (.t s) (by simp [reads])
      simp only [Abs.valOf]
      rw [h.ar (hx i (by simp [reads]))]
      cases asI (Abs.ar σ i) with
      | none => rfl
      | some n => simp only; rw [h.eq s hl.1, h.adrOf hl]
  | idx agg len k x i =>
    cases x with
    | c => rfl
    | t s =>
      have hl := hx (.t s) (by simp [reads])
      simp only [Abs.valOf]
      rw [h.ar (hx i (by simp [reads]))]
      cases asI (Abs.ar σ i) with
      | none => rfl
      | some n => simp only; rw [h.eq s hl.1]
  | bin op x y => simp only [Abs.valOf]; rw [h.ar (hx x (by simp [reads])), h.ar (hx y (by simp [reads]))]
  | beq op x y => simp only [Abs.valOf]; rw [h.ar (hx x (by simp [reads])), h.ar (hx y (by simp [reads]))]
  | un op x => simp only [Abs.valOf]; rw [h.ar (hx x (by simp [reads]))]
  | cvt op x => simp only [Abs.valOf]; rw [h.ar (hx x (by simp [reads]))]
  | len x => simp only [Abs.valOf]; rw [h.hd (hx x (by simp [reads]))]
  | slen x => simp only [Abs.valOf]; rw [h.ar (hx x (by simp [reads]))]
  | ext x i =>
    cases x with
    | c => rfl
    | t s => simp only [Abs.valOf]; rw [h.eq s (hx (.t s) (by simp [reads])).1]
  | nchk x => simp only [Abs.valOf]; rw [h.ar (hx x (by simp [reads]))]
  | _ => rfl

variable {W : Nat → Prop}

theorem kills_at (kl : List Nat) (d : Nat) (σ : Sg) (s : Nat) : kills kl d σ s = if s ∈ kl then killr d (σ s) else σ s := by
  cases kl <;> simp [kills]

theorem Ag.mono {R : Nat → Prop} (h : Ag G R σ σ') (hs : ∀ s, A s → R s) : Ag G A σ σ' := ⟨fun s a => h.eq s (hs s a), fun s a => h.ri s (hs s a)⟩

theorem Mv.wr {d : Dst} {v : AV} {υ : Sg} (h : Mv G W σ σ' τ τ') (hd : W d.d ∧ d.rs = G.rtOf d.d) (hk : ∀ x ∈ d.kl, W x) (hw : wr d v τ = some υ) : ∃ υ', wr d v τ' = some υ' ∧ Mv G W σ σ' υ υ' := by
  unfold Abs.wr at hw ⊢
  split at hw
  · rename_i hr
    cases hw
    rw [if_pos hr]
    refine ⟨_, rfl, ⟨fun s hs => ?_, fun s hs => ?_⟩, fun s hs => ?_⟩
    · simp only [upd, kills_at, h.ag.eq s hs]
    · simp only [upd, kills_at]
      split
      · rename_i e; subst e; rw [← hd.2]; exact hr
      · split
        · exact rin_killr' _ _ _ (h.ag.ri s hs)
        · exact h.ag.ri s hs
    · have h1 : s ≠ d.d := fun e => hs (e ▸ hd.1)
      have h2 : s ∉ d.kl := fun e => hs (hk s e)
      simp only [upd, h1, if_false, kills_at, h2]
      exact h.off s hs
  · cases hw

theorem stC_rin {L : List Nat} (p : List Step) (i k : Nat) (cs : List AV) : ∀ {j : Nat} {t t' : AV}, stC p i k j cs t = some t' → rin L t = true → cs.all cellA = true → rin L t' = true := by
  induction cs with
  | nil => intro j t t' h ht _; simp only [stC, Option.some.injEq] at h; subst h; exact ht
  | cons c cs ih =>
    intro j t t' h ht hc
    simp only [List.all_cons, Bool.and_eq_true] at hc
    simp only [stC] at h
    split at h
    · rename_i t1 h1
      exact ih h (rin_put _ h1 ht (cell_rin hc.1)) hc.2
    · cases h

def HasD (G : Gi) (W : Nat → Prop) (d : Option Dst) : Prop := ∀ x, d = some x → (W x.d ∧ x.rs = G.rtOf x.d) ∧ ∀ y ∈ x.kl, W y

theorem eff_loc {R : Nat → Prop} (h : Ag G R σ σ') (hWR : ∀ s, W s → R s) {o : IOp} {d : Option Dst} (ht : ∀ x ∈ takes o, ClA G W x) (hr : ∀ x ∈ reads o, LkA G R x) (hd : HasD G W d) (he : eff G o d σ = some τ) :
    ∃ τ', eff G o d σ' = some τ' ∧ Mv G W σ σ' τ τ' := by
  have hW : Ag G W σ σ' := h.mono hWR
  have val : ∀ d', d = some d' → (match Abs.valOf o σ with | some v => Abs.wr d' v σ | none => none) = some τ → ∃ τ', (match Abs.valOf o σ' with | some v => Abs.wr d' v σ' | none => none) = some τ' ∧ Mv G W σ σ' τ τ' := by
    intro d' hd' he
    rw [h.valOf o hr]
    cases hv : Abs.valOf o σ with
    | none => rw [hv] at he; cases he
    | some v => rw [hv] at he; exact (Mv.refl hW).wr (hd d' hd').1 (hd d' hd').2 he
  cases d with
  | none =>
    cases o with
    | st n a v =>
      simp only [eff] at he ⊢
      split at he
      · rename_i x τ1 h1
        obtain ⟨τ1', g1, g2⟩ := tk_loc hW (ht v (by simp [takes])) h1
        rw [g1]
        simp only
        have hla := (ht a (by simp [takes])).look
        rw [g2.ag.adrOf hla]
        split at he
        · rename_i r p i j k ha
          have hAr : W r := g2.ag.adrRoot hla ha
          have hals : ∀ x ∈ G.als r, W x := by
            have hca := ht a (by simp [takes])
            cases a with
            | c => cases ha
            | t s =>
              have hcl : Cl G W s := hca
              simp only [Abs.adrOf] at ha
              have hri := g2.ag.ri s hcl.own
              cases hs : τ1 s with
              | al r' p' =>
                rw [hs] at ha hri
                simp only at ha
                simp only [rin_al, List.contains_iff_mem] at hri
                split at ha
                · cases ha; exact (hcl.rt _ hri).2
                · cases ha
              | adr r' p' i' j' k' =>
                rw [hs] at ha hri; cases ha
                simp only [rin_adr, List.contains_iff_mem] at hri
                exact (hcl.rt _ hri).2
              | own b k' rows => rw [hs] at ha; cases b <;> cases ha; exact hcl.als
              | _ => rw [hs] at ha; cases ha
          rw [g2.ag.eq r hAr]
          split at he
          · rename_i b0 k0 rows hsub
            split at he
            · rename_i row hrow
              split at he
              · rename_i hc
                rw [if_pos hc]
                split at he
                · rename_i t hst
                  have hrt : rin (G.rtOf r) t = true := stC_rin p i k _ hst (g2.ag.ri r hAr) hc.2.1
                  split at he
                  · rename_i hl
                    cases he
                    rw [if_pos hl]
                    exact ⟨_, rfl, (g2.trans (g2.ag.up hAr hrt))⟩
                  · rename_i hl
                    cases he
                    rw [if_neg hl]
                    exact ⟨_, rfl, (g2.trans (g2.ag.kup hAr hals hrt))⟩
                · cases he
              · cases he
            · cases he
          · cases he
        · cases he
      · cases he
    | _ => simp [eff] at he
  | some d =>
    obtain ⟨hd1, hd2⟩ := hd d rfl
    cases o with
    | mv x =>
      simp only [eff] at he ⊢
      split at he
      · rename_i v τ1 h1
        obtain ⟨τ1', g1, g2⟩ := tk_loc hW (ht x (by simp [takes])) h1
        rw [g1]
        exact g2.wr hd1 hd2 he
      · cases he
    | fz x =>
      cases x with
      | c => simp [eff] at he
      | t s =>
        have hcl : Cl G W s := ht (.t s) (by simp [takes])
        have hri := hW.ri s hcl.own
        simp only [eff] at he ⊢
        rw [hW.eq s hcl.own]
        cases hs : σ s with
        | al r p =>
          rw [hs] at he hri
          simp only [rin_al, List.contains_iff_mem] at hri
          simp only at he ⊢
          split at he
          · rename_i v τ1 h1
            obtain ⟨τ1', g1, g2⟩ := fzAt_loc hW (hcl.rt r hri).1 (hcl.rt r hri).2 h1
            rw [g1]
            exact g2.wr hd1 hd2 he
          · cases he
        | own b k rows =>
          rw [hs] at he
          simp only at he ⊢
          split at he
          · rename_i v τ1 h1
            obtain ⟨τ1', g1, g2⟩ := fzAt_loc hW hcl.own hcl.als h1
            rw [g1]
            exact g2.wr hd1 hd2 he
          · cases he
        | sc v => rw [hs] at he; exact (Mv.refl hW).wr hd1 hd2 he
        | sl e k rows => rw [hs] at he; exact (Mv.refl hW).wr hd1 hd2 he
        | _ => rw [hs] at he; cases he
    | bx n x =>
      simp only [eff] at he ⊢
      split at he
      · rename_i v τ1 h1
        obtain ⟨τ1', g1, g2⟩ := tk_loc hW (ht x (by simp [takes])) h1
        rw [g1]
        simp only
        split at he
        · rename_i hc; rw [if_pos hc]; exact g2.wr hd1 hd2 he
        · cases he
      · cases he
    | bld z ps =>
      simp only [eff] at he ⊢
      split at he
      · rename_i v τ1 h1
        obtain ⟨τ1', g1, g2⟩ := bldL_loc ps hW (fun p hp => ht _ (by simp only [takes, List.mem_map]; exact ⟨p, hp, rfl⟩)) h1
        rw [g1]
        exact g2.wr hd1 hd2 he
      · cases he
    | bsl k z ps =>
      simp only [eff] at he ⊢
      split at he
      · rename_i v τ1 h1
        obtain ⟨τ1', g1, g2⟩ := bslL_loc k ps hW (fun p hp => ht _ (by simp only [takes, List.mem_map]; exact ⟨p, hp, rfl⟩)) h1
        rw [g1]
        exact g2.wr hd1 hd2 he
      · cases he
    | mk k bytes z l c =>
      simp only [eff] at he ⊢
      rw [h.ar (hr l (by simp [reads])), h.ar (hr c (by simp [reads]))]
      split at he
      · rename_i l' c' h1 h2
        split at he
        · rename_i hc; rw [if_pos hc]; exact (Mv.refl hW).wr hd1 hd2 he
        · cases he
      · cases he
    | slc k fr x lo hi mx =>
      have hcx := ht x (by simp [takes])
      have hlo : ∀ y, lo = some y → LkA G R y := fun y hy => hr y (by simp [reads, hy])
      have hhi : ∀ y, hi = some y → LkA G R y := fun y hy => hr y (by simp [reads, hy])
      have hmx : ∀ y, mx = some y → LkA G R y := fun y hy => hr y (by simp [reads, hy])
      simp only [eff] at he ⊢
      rw [hW.hd hcx.look]
      have eo : ∀ d, Abs.optI σ' lo d = Abs.optI σ lo d := h.optI hlo
      have eh : ∀ d, Abs.optI σ' hi d = Abs.optI σ hi d := h.optI hhi
      have em : ∀ d, Abs.mxI σ' mx d = Abs.mxI σ mx d := h.mxI hmx
      simp only [eo, eh, em]
      split at he
      · rename_i e k' rows q hhd
        try rw [hhd]
        try simp only
        split at he
        · rename_i l hh h1 h2
          try rw [h1, h2]
          try simp only
          split at he
          · rename_i rs m h3 h4
            try rw [h3, h4]
            try simp only
            split at he
            · rename_i hc; rw [if_pos hc]; exact (Mv.refl hW).wr hd1 hd2 he
            · cases he
          · cases he
        · cases he
      · rename_i k' rows r p hhd
        have hroot : W r ∧ ∀ x ∈ G.als r, W x := by
          cases x with
          | c a => cases a <;> cases hhd
          | t s =>
            have hcl : Cl G W s := hcx
            have hri := hW.ri s hcl.own
            simp only [Abs.hd] at hhd
            cases hs : σ s with
            | al r' p' =>
              rw [hs] at hhd hri
              simp only [rin_al, List.contains_iff_mem] at hri
              simp only at hhd
              split at hhd
              · cases hhd; exact hcl.rt _ hri
              · cases hhd
            | own b k rows => rw [hs] at hhd; cases hhd; exact ⟨hcl.own, hcl.als⟩
            | sl => rw [hs] at hhd; cases hhd
            | _ => rw [hs] at hhd; cases hhd
        try rw [hhd]
        try simp only
        split at he
        · rename_i l hh h1 h2
          try rw [h1, h2]
          try simp only
          split at he
          · rename_i rs m h3 h4
            try rw [h3, h4]
            try simp only
            split at he
            · rename_i hc
              rw [if_pos hc]
              split at he
              · rename_i hf
                rw [if_pos hf]
                split at he
                · rename_i v τ1 h5
                  obtain ⟨τ1', g1, g2⟩ := fzAt_loc hW hroot.1 hroot.2 h5
                  rw [g1]
                  exact g2.wr hd1 hd2 he
                · cases he
              · rename_i hf
                rw [if_neg hf]
                split at he
                · rename_i hl
                  rw [if_pos hl]
                  split at he
                  · rename_i v τ1 h5
                    obtain ⟨τ1', g1, g2⟩ := tk1_loc hW hroot.1 hroot.2 h5
                    rw [g1]
                    exact g2.wr hd1 hd2 he
                  · cases he
                · cases he
            · cases he
          · cases he
        · cases he
      · cases he
    | app k bytes x y =>
      simp only [eff] at he ⊢
      split at he
      · rename_i ys τ1 h1
        obtain ⟨τ1', g1, g2⟩ := appY_loc hW (ht y (by simp [takes])) h1
        rw [g1]
        simp only
        split at he
        · rename_i b k' rows τ2 h2
          obtain ⟨τ2', g3, g4⟩ := appX_loc g2.ag (ht x (by simp [takes])) h2
          rw [g3]
          simp only
          split at he
          · rename_i hc; rw [if_pos hc]; exact (g2.trans g4).wr hd1 hd2 he
          · cases he
        · rename_i e k' rows τ2 h2
          obtain ⟨τ2', g3, g4⟩ := appX_loc g2.ag (ht x (by simp [takes])) h2
          rw [g3]
          simp only
          split at he
          · exact (g2.trans g4).wr hd1 hd2 he
          · split at he
            · rename_i hc; rw [if_pos hc]; exact (g2.trans g4).wr hd1 hd2 he
            · cases he
        · cases he
      · cases he
    | st => simp [eff, Abs.valOf] at he
    | call => simp [eff, Abs.valOf] at he
    | bad => simp [eff, Abs.valOf] at he
    | _ => exact val d rfl he
end Go.Abs
namespace Go.Abs
variable {G : Gi} {A : Nat → Prop} {σ σ' τ τ' : Sg} {P : Program}

theorem toDst_step {d : Option Dst} {v : AV} {K : Sg → Prop} {τ : Sg} : toDst d v K τ ↔ ∃ υ, toDst d v (· = υ) τ ∧ K υ := by
  cases d with
  | none => simp [toDst]
  | some d =>
    simp only [toDst]
    split <;> simp

theorem arun_step {o : IOper} {K : Sg → Prop} : arun P G o K σ ↔ ∃ τ, arun P G o (· = τ) σ ∧ K τ := by
  unfold arun
  split
  · split
    · constructor
      · rintro ⟨res, h1, h2⟩
        split at h2
        · obtain ⟨υ, g1, g2⟩ := toDst_step.1 h2
          rename_i v hv
          exact ⟨υ, ⟨res, h1, by rw [hv]; exact g1⟩, g2⟩
        · exact h2.elim
      · rintro ⟨υ, ⟨res, h1, h2⟩, h3⟩
        refine ⟨res, h1, ?_⟩
        split at h2
        · rename_i v hv
          exact toDst_step.2 ⟨υ, h2, h3⟩
        · exact h2.elim
    · simp
  · split <;> simp

theorem aop_step {o : IOper} {K : Sg → Prop} : aop P G o K σ ↔ ∃ τ, aop P G o (· = τ) σ ∧ K τ := by
  unfold aop
  split
  · exact arun_step
  · split
    · split
      · exact arun_step
      · split <;> simp
    · split <;> simp
    · simp

theorem aops_steps (ios : List IOper) : ∀ {σ : Sg} {K : Sg → Prop}, aops P G ios K σ → ∃ q : Nat → Sg, q 0 = σ ∧ (∀ i io, ios[i]? = some io → aop P G io (· = q (i + 1)) (q i)) ∧ K (q ios.length) := by
  induction ios with
  | nil => intro σ K h; exact ⟨fun _ => σ, rfl, by simp, h⟩
  | cons o os ih =>
    intro σ K h
    obtain ⟨τ, h1, h2⟩ := aop_step.1 h
    obtain ⟨q, g1, g2, g3⟩ := ih h2
    refine ⟨fun i => match i with | 0 => σ | i + 1 => q i, rfl, ?_, g3⟩
    intro i io hi
    cases i with
    | zero => simp only [List.getElem?_cons_zero, Option.some.injEq] at hi; subst hi; simp only [g1]; exact h1
    | succ i => simp only [List.getElem?_cons_succ] at hi; exact g2 i io hi

theorem Ag.rdV (h : Ag G A σ σ') {a : AV} (ha : ∀ r p, a = .al r p → A r) : rdV σ' a = rdV σ a := by
  cases a with
  | al r p => simp only [Abs.rdV]; rw [h.eq r (ha r p rfl)]
  | own b k rows => cases b <;> rfl
  | _ => rfl
theorem Ag.rdL (h : Ag G A σ σ') (cs : List AV) : (∀ r p, AV.al r p ∈ cs → A r) → rdL σ' cs = rdL σ cs := by
  induction cs with
  | nil => intro _; rfl
  | cons a cs ih =>
    intro ha
    simp only [Abs.rdL]
    rw [h.rdV (a := a) (fun r p e => ha r p (by simp [e])), ih (fun r p hm => ha r p (by simp [hm]))]
theorem Ag.rdA (h : Ag G A σ σ') {x : Ar} (hx : LkA G A x) : rdA σ' (Abs.ar σ' x) = rdA σ (Abs.ar σ x) := by
  rw [h.ar hx]
  cases x with
  | c a =>
    simp only [Abs.ar]
    cases a with
    | agg cs =>
      simp only [Abs.rdA]
      rw [h.rdL cs (fun r p hm => by
        have hx' : rin [] (.agg cs) = true := hx
        rw [rin_agg, List.all_eq_true] at hx'
        have := hx' _ hm
        simp at this)]
    | al r p => have hx' : rin [] (.al r p) = true := hx; simp at hx'
    | own b k rows => cases b <;> rfl
    | _ => rfl
  | t s =>
    simp only [Abs.ar]
    cases hs : σ s with
    | agg cs =>
      simp only [Abs.rdA]
      rw [h.rdL cs (fun r p hm => by
        have := h.ri s hx.1
        rw [hs, rin_agg, List.all_eq_true] at this
        have := this _ hm
        simp only [rin_al, List.contains_iff_mem] at this
        exact hx.2 r this)]
    | al r p => simp only [Abs.rdA]; exact h.rdV (fun r' p' e => by cases e; exact h.root hx hs)
    | own b k rows => cases b <;> rfl
    | _ => rfl

theorem Ag.rdArgs (h : Ag G A σ σ') (xs : List Ar) : (∀ x ∈ xs, LkA G A x) → rdArgs σ' xs = rdArgs σ xs := by
  induction xs with
  | nil => intro _; rfl
  | cons x xs ih =>
    intro hx
    simp only [Abs.rdArgs]
    rw [h.rdA (hx x (by simp)), ih (fun y hy => hx y (by simp [hy]))]

theorem toDst_loc {W : Nat → Prop} {d : Option Dst} {v : AV} {υ : Sg} (h : Mv G W σ σ' τ τ') (hd : HasD G W d) (ht : toDst d v (· = υ) τ) : ∃ υ', toDst d v (· = υ') τ' ∧ Mv G W σ σ' υ υ' := by
  cases d with
  | none => cases ht; exact ⟨τ', rfl, h⟩
  | some d =>
    simp only [toDst] at ht ⊢
    split at ht
    · rename_i x hx
      subst ht
      obtain ⟨υ', g1, g2⟩ := h.wr (hd d rfl).1 (hd d rfl).2 hx
      exact ⟨υ', by rw [g1], g2⟩
    · exact ht.elim

theorem arun_loc {R W : Nat → Prop} (h : Ag G R σ σ') (hWR : ∀ s, W s → R s) {o : IOper} (ht : ∀ x ∈ takes o.op, ClA G W x) (hr : ∀ x ∈ reads o.op, LkA G R x) (hd : HasD G W o.dst) (he : arun P G o (· = τ) σ) :
    ∃ τ', arun P G o (· = τ') σ' ∧ Mv G W σ σ' τ τ' := by
  have hW : Ag G W σ σ' := h.mono hWR
  have plain : ∀ op, o.op = op → (match eff G op o.dst σ with | some υ => υ = τ | none => False) → ∃ τ', (match eff G op o.dst σ' with | some υ => υ = τ' | none => False) ∧ Mv G W σ σ' τ τ' := by
    intro op hop he
    split at he
    · rename_i υ hu
      subst he
      obtain ⟨τ', g1, g2⟩ := eff_loc h hWR (by rw [← hop]; exact ht) (by rw [← hop]; exact hr) hd hu
      exact ⟨τ', by rw [g1], g2⟩
    · exact he.elim
  cases hop : o.op with
  | call f args m =>
    unfold arun at he ⊢
    rw [hop] at he ht hr ⊢
    simp only at he ⊢
    split at he
    · rename_i as τ1 hca
      obtain ⟨res, h1, h2⟩ := he
      have key : ∃ τ1', callArgs G m args σ' = some (as, τ1') ∧ Mv G W σ σ' τ1 τ1' := by
        by_cases hm : m = 1
        · subst hm
          simp only [callArgs] at hca ⊢
          obtain ⟨τ1', g1, g2⟩ := tkArgs_loc args hW (by simpa [takes] using ht) hca
          exact ⟨τ1', g1, g2⟩
        · have e : ∀ σ, callArgs G m args σ = match Abs.rdArgs σ args with | some l => some (l, σ) | none => none := by
            intro σ
            unfold callArgs
            split
            · exact absurd rfl hm
            · rfl
          rw [e] at hca ⊢
          rw [h.rdArgs args (by simpa [reads, hm] using hr)]
          split at hca
          · cases hca; exact ⟨σ', rfl, Mv.refl hW⟩
          · cases hca
      obtain ⟨τ1', g1, g2⟩ := key
      rw [g1]
      simp only
      split at h2
      · rename_i v hv
        obtain ⟨υ', g3, g4⟩ := toDst_loc g2 hd h2
        exact ⟨υ', ⟨res, h1, by rw [hv]; exact g3⟩, g4⟩
      · exact h2.elim
    · exact he.elim
  | _ =>
    unfold arun at he ⊢
    rw [hop] at he ⊢
    exact plain _ hop he

theorem aop_loc {R W : Nat → Prop} (h : Ag G R σ σ') (hWR : ∀ s, W s → R s) {o : IOper} (ht : ∀ x ∈ takes o.op, ClA G W x) (hr : ∀ x ∈ reads o.op, LkA G R x) (hd : HasD G W o.dst) (hg : ∀ g, o.guard = some g → R g.1) (he : aop P G o (· = τ) σ) :
    ∃ τ', aop P G o (· = τ') σ' ∧ Mv G W σ σ' τ τ' := by
  have hW : Ag G W σ σ' := h.mono hWR
  have skip : (match o.dst with | some d => upd (kills d.kl d.d σ) d.d .un = τ | none => σ = τ) → ∃ τ', (match o.dst with | some d => upd (kills d.kl d.d σ') d.d .un = τ' | none => σ' = τ') ∧ Mv G W σ σ' τ τ' := by
    intro he
    cases hdd : o.dst with
    | none => rw [hdd] at he; subst he; exact ⟨σ', rfl, Mv.refl hW⟩
    | some d =>
      rw [hdd] at he
      subst he
      obtain ⟨h1, h2⟩ := hd d hdd
      have hw : Abs.wr d .un σ = some (upd (kills d.kl d.d σ) d.d .un) := by simp [Abs.wr]
      obtain ⟨υ', g1, g2⟩ := (Mv.refl hW).wr h1 h2 hw
      have hw' : Abs.wr d .un σ' = some (upd (kills d.kl d.d σ') d.d .un) := by simp [Abs.wr]
      rw [hw'] at g1
      cases g1
      exact ⟨_, rfl, g2⟩
  unfold aop at he ⊢
  cases hgd : o.guard with
  | none => rw [hgd] at he; exact arun_loc h hWR ht hr hd he
  | some g =>
    obtain ⟨g, want⟩ := g
    rw [hgd] at he
    simp only at he ⊢
    rw [h.eq g (hg _ hgd)]
    split at he
    · rename_i b hb
      split at he
      · rename_i hbw; simp only [if_pos hbw]; exact arun_loc h hWR ht hr hd he
      · rename_i hbw; simp only [if_neg hbw]; exact skip he
    · exact skip he
    · exact he.elim
end Go.Abs
namespace Go.Abs
variable {G : Gi} {P : Program}

def spanT (G : Gi) : Ar → List Nat
  | .t s => s :: G.als s ++ (G.rtOf s).flatMap (fun r => r :: G.als r)
  | .c _ => []
def spanR (G : Gi) : Ar → List Nat
  | .t s => s :: G.rtOf s
  | .c _ => []
def wset (G : Gi) (o : IOper) : List Nat := (takes o.op).flatMap (spanT G) ++ (match o.dst with | some d => d.d :: d.kl | none => [])
def rset (G : Gi) (o : IOper) : List Nat := wset G o ++ (reads o.op).flatMap (spanR G) ++ (match o.guard with | some g => [g.1] | none => [])
def cOK : Ar → Bool
  | .t _ => true
  | .c a => rin [] a
def argsOK (o : IOper) : Bool := (takes o.op).all cOK && (reads o.op).all cOK

theorem aop_reach {σ σ' τ : Sg} {o : IOper} (hc : argsOK o = true) (hrs : ∀ d, o.dst = some d → d.rs = G.rtOf d.d) (h : Ag G (· ∈ rset G o) σ σ') (he : aop P G o (· = τ) σ) : ∃ τ', aop P G o (· = τ') σ' ∧ Mv G (· ∈ wset G o) σ σ' τ τ' := by
  simp only [argsOK, Bool.and_eq_true, List.all_eq_true] at hc
  refine aop_loc h (fun s hs => by simp only [rset, List.mem_append]; exact .inl (.inl hs)) ?_ ?_ ?_ ?_ he
  · intro x hx
    cases x with
    | c a => exact hc.1 _ hx
    | t s =>
      have key : ∀ y ∈ spanT G (.t s), y ∈ wset G o := fun y hy => by simp only [wset, List.mem_append, List.mem_flatMap]; exact .inl ⟨_, hx, hy⟩
      refine ⟨key _ (by simp [spanT]), fun x hx => key _ (by simp [spanT, hx]), fun r hr => ⟨key _ ?_, fun x hx => key _ ?_⟩⟩
      · simp only [spanT, List.cons_append, List.mem_cons, List.mem_append, List.mem_flatMap]; exact .inr (.inr ⟨r, hr, .inl rfl⟩)
      · simp only [spanT, List.cons_append, List.mem_cons, List.mem_append, List.mem_flatMap]; exact .inr (.inr ⟨r, hr, .inr hx⟩)
  · intro x hx
    cases x with
    | c a => exact hc.2 _ hx
    | t s =>
      have key : ∀ y ∈ spanR G (.t s), y ∈ rset G o := fun y hy => by simp only [rset, List.mem_append, List.mem_flatMap]; exact .inl (.inr ⟨_, hx, hy⟩)
      exact ⟨key _ (by simp [spanR]), fun r hr => key _ (by simp [spanR, hr])⟩
  · intro d hd
    refine ⟨⟨?_, hrs d hd⟩, fun y hy => ?_⟩
    · simp only [wset, hd, List.mem_append]; exact .inr (List.mem_cons_self ..)
    · simp only [wset, hd, List.mem_append, List.mem_cons]; exact .inr (.inr hy)
  · intro g hg
    simp only [rset, hg, List.mem_append]; exact .inr (List.mem_cons_self ..)

theorem aop_off {σ τ : Sg} {o : IOper} (hc : argsOK o = true) (hrs : ∀ d, o.dst = some d → d.rs = G.rtOf d.d) (hri : ∀ s, rin (G.rtOf s) (σ s) = true) (he : aop P G o (· = τ) σ) : (∀ s, s ∉ wset G o → τ s = σ s) ∧ ∀ s, rin (G.rtOf s) (τ s) = true := by
  obtain ⟨τ', _, h⟩ := aop_reach hc hrs (⟨fun _ _ => rfl, fun s _ => hri s⟩ : Ag G (· ∈ rset G o) σ σ) he
  refine ⟨fun s hs => (h.off s hs).2, fun s => ?_⟩
  by_cases hs : s ∈ wset G o
  · exact h.ag.ri s hs
  · rw [(h.off s hs).2]; exact hri s

def lastW (L : Nat → Bool) (W : Nat → List Nat) (s : Nat) : Nat → Nat
  | 0 => 0
  | m + 1 => if L m = true ∧ s ∈ W m then m + 1 else lastW L W s m

theorem lastW_le (L : Nat → Bool) (W : Nat → List Nat) (s m : Nat) : lastW L W s m ≤ m := by
  induction m with
  | zero => simp [lastW]
  | succ m ih => simp only [lastW]; split <;> omega

section
variable {q : Nat → Sg} {L L' : Nat → Bool} {W R : Nat → List Nat} {n i : Nat}

theorem lastW_at (hi : L i = false) (hin : i < n) (hoff : ∀ j s, j < n → s ∉ W j → q (j + 1) s = q j s)
    (hpre : ∀ j s, j < i → s ∈ W j → s ∈ R i → L j = true) (hpost : ∀ j s, i < j → j < n → s ∈ W j → s ∈ R i → L j = true → L i = true) {s : Nat} (hs : s ∈ R i) : q (lastW L W s n) s = q i s := by
  have : ∀ m, m ≤ n → q (lastW L W s m) s = q (min m i) s := by
    intro m
    induction m with
    | zero => intro _; simp [lastW]
    | succ m ih =>
      intro hm
      simp only [lastW]
      by_cases h1 : m < i
      · rw [show min (m + 1) i = m + 1 from by omega]
        by_cases h2 : s ∈ W m
        · rw [if_pos ⟨hpre m s h1 h2 hs, h2⟩]
        · rw [if_neg (fun h => h2 h.2), ih (by omega), show min m i = m from by omega, hoff m s (by omega) h2]
      · rw [if_neg, ih (by omega), show min m i = i from by omega, show min (m + 1) i = i from by omega]
        rintro ⟨h3, h4⟩
        by_cases h5 : m = i
        · subst h5; rw [hi] at h3; cases h3
        · have := hpost m s (by omega) (by omega) h4 hs h3
          rw [hi] at this; cases this
  rw [this n (Nat.le_refl _), show min n i = i from by omega]

theorem lastW_in (hin : i < n) (hL : ∀ j, L' j = (L j || j == i)) (hi : L i = false) (hpost : ∀ j s, i < j → j < n → s ∈ W j → s ∈ W i → L j = true → L i = true) {s : Nat} (hs : s ∈ W i) : lastW L' W s n = i + 1 := by
  have : ∀ m, i < m → m ≤ n → lastW L' W s m = i + 1 := by
    intro m
    induction m with
    | zero => intro h; omega
    | succ m ih =>
      intro h1 h2
      simp only [lastW]
      by_cases h3 : m = i
      · subst h3; rw [if_pos ⟨by simp [hL], hs⟩]
      · rw [if_neg, ih (by omega) (by omega)]
        rintro ⟨h4, h5⟩
        rw [hL] at h4
        have h6 : L m = true := by simpa [h3] using h4
        have := hpost m s (by omega) (by omega) h5 hs h6
        rw [hi] at this; cases this
  exact this n hin (Nat.le_refl _)

theorem lastW_out (hL : ∀ j, L' j = (L j || j == i)) {s : Nat} (hs : s ∉ W i) (m : Nat) : lastW L' W s m = lastW L W s m := by
  induction m with
  | zero => rfl
  | succ m ih =>
    simp only [lastW, ih, hL]
    by_cases h : m = i
    · subst h; simp [hs]
    · simp [h]

theorem lastW_all (hall : ∀ j, j < n → L j = true) (hoff : ∀ j s, j < n → s ∉ W j → q (j + 1) s = q j s) (s : Nat) : ∀ m, m ≤ n → q (lastW L W s m) s = q m s := by
  intro m
  induction m with
  | zero => intro _; rfl
  | succ m ih =>
    intro hm
    simp only [lastW]
    by_cases h : s ∈ W m
    · rw [if_pos ⟨hall m (by omega), h⟩]
    · rw [if_neg (fun x => h x.2), ih (by omega), hoff m s (by omega) h]
end
end Go.Abs
namespace Go.Abs
variable {G : Gi} {P : Program} {w : World}

def msk (l : List Nat) : Nat := l.foldr (fun s m => m ||| 2 ^ s) 0
theorem msk_bit {l : List Nat} {s : Nat} (h : s ∈ l) : (msk l).testBit s = true := by
  induction l with
  | nil => cases h
  | cons a l ih =>
    simp only [msk, List.foldr_cons, Nat.testBit_or, Bool.or_eq_true]
    simp only [List.mem_cons] at h
    rcases h with rfl | h
    · exact .inr (by simp)
    · exact .inl (ih h)
theorem msk_apart {a b : List Nat} (h : msk a &&& msk b = 0) {s : Nat} (ha : s ∈ a) (hb : s ∈ b) : False := by
  have : (msk a &&& msk b).testBit s = true := by rw [Nat.testBit_and, msk_bit ha, msk_bit hb]; rfl
  rw [h] at this
  simp at this

def bef (M : List Nat) (o : Oper) : Nat := o.after.toList.foldr (fun e s => if Region.binds .any e = true then s ||| 2 ^ e.on ||| M.getD e.on 0 else s) 0
theorem bef_bit {M : List Nat} {o : Oper} {i : Nat} (h : (bef M o).testBit i = true) : ∃ e ∈ o.after.toList, Region.binds .any e = true ∧ (e.on = i ∨ (M.getD e.on 0).testBit i = true) := by
  unfold bef at h
  generalize o.after.toList = l at h
  induction l with
  | nil => simp at h
  | cons e l ih =>
    simp only [List.foldr_cons] at h
    split at h
    · rename_i hb
      simp only [Nat.testBit_or, Bool.or_eq_true] at h
      rcases h with (h | h) | h
      · obtain ⟨e', h1, h2⟩ := ih h; exact ⟨e', by simp [h1], h2⟩
      · exact ⟨e, by simp, hb, .inl (by simpa [Nat.testBit_two_pow] using h)⟩
      · exact ⟨e, by simp, hb, .inr h⟩
    · obtain ⟨e', h1, h2⟩ := ih h; exact ⟨e', by simp [h1], h2⟩

def befs : List Oper → List Nat → List Nat
  | [], M => M
  | o :: os, M => befs os (M ++ [bef M o])

def chkPairs (M Ws Rs : List Nat) (j : Nat) : Nat → Bool
  | 0 => true
  | i + 1 => ((Ws.getD i 0 &&& Rs.getD j 0 == 0 && Rs.getD i 0 &&& Ws.getD j 0 == 0) || (M.getD j 0).testBit i) && chkPairs M Ws Rs j i

theorem chkPairs_spec {M Ws Rs : List Nat} {j n : Nat} (h : chkPairs M Ws Rs j n = true) : ∀ i, i < n → (Ws.getD i 0 &&& Rs.getD j 0 = 0 ∧ Rs.getD i 0 &&& Ws.getD j 0 = 0) ∨ (M.getD j 0).testBit i = true := by
  induction n with
  | zero => intro i hi; omega
  | succ n ih =>
    simp only [chkPairs, Bool.and_eq_true, Bool.or_eq_true, beq_iff_eq] at h
    intro i hi
    by_cases e : i = n
    · subst e; exact h.1
    · exact ih h.2 i (by omega)

def ordRows (M Ws Rs : List Nat) : Nat → List Oper → Bool
  | _, [] => true
  | j, o :: os => M.getD j 0 == bef M o && (o.after.toList.all fun e => !Region.binds .any e || decide (e.on < j)) && chkPairs M Ws Rs j j && ordRows M Ws Rs (j + 1) os

theorem ordRows_spec {M Ws Rs : List Nat} (os : List Oper) : ∀ {j0 : Nat}, ordRows M Ws Rs j0 os = true → ∀ i o, os[i]? = some o → M.getD (j0 + i) 0 = bef M o ∧ (∀ e ∈ o.after.toList, Region.binds .any e = true → e.on < j0 + i) ∧ ∀ x, x < j0 + i → (Ws.getD x 0 &&& Rs.getD (j0 + i) 0 = 0 ∧ Rs.getD x 0 &&& Ws.getD (j0 + i) 0 = 0) ∨ (M.getD (j0 + i) 0).testBit x = true := by
  induction os with
  | nil => intro j0 _ i o h; simp at h
  | cons o os ih =>
    intro j0 h i o' ho
    simp only [ordRows, Bool.and_eq_true, beq_iff_eq, List.all_eq_true, Bool.or_eq_true, Bool.not_eq_true', decide_eq_true_eq] at h
    obtain ⟨⟨⟨h1, h2⟩, h3⟩, h4⟩ := h
    cases i with
    | zero =>
      simp only [List.getElem?_cons_zero, Option.some.injEq] at ho
      subst ho
      refine ⟨h1, fun e he hb => (h2 e he).resolve_left (by simp [hb]), chkPairs_spec h3⟩
    | succ i =>
      simp only [List.getElem?_cons_succ] at ho
      have := ih h4 i o' ho
      rw [show j0 + 1 + i = j0 + (i + 1) from by omega] at this
      exact this

def chkDraw (G : Gi) (ops : List Oper) (ios : List IOper) : Bool :=
  ios.all argsOK && ordRows (befs ops []) (ios.map fun o => msk (wset G o)) (ios.map fun o => msk (rset G o)) 0 ops

def wOf (G : Gi) (ios : List IOper) (j : Nat) : List Nat := match ios[j]? with | some o => wset G o | none => []
def rOf (G : Gi) (ios : List IOper) (j : Nat) : List Nat := match ios[j]? with | some o => rset G o | none => []

theorem chkOps_at {n : Nat} {all : Array Oper} (os : List Oper) : ∀ {ios : List IOper}, chkOps P G n all os ios = true → os.length = ios.length ∧ ∀ (i : Nat) o io, os[i]? = some o → ios[i]? = some io → chkOper P G n all o io = true := by
  induction os with
  | nil => intro ios h; cases ios <;> simp [chkOps] at h ⊢
  | cons o os ih =>
    intro ios h
    cases ios with
    | nil => simp [chkOps] at h
    | cons io ios =>
      simp only [chkOps, Bool.and_eq_true] at h
      obtain ⟨g1, g2⟩ := ih h.2
      refine ⟨by simp [g1], ?_⟩
      intro i o' io' h1 h2
      cases i with
      | zero => simp only [List.getElem?_cons_zero, Option.some.injEq] at h1 h2; subst h1; subst h2; exact h.1
      | succ i => exact g2 i o' io' h1 h2

theorem countP_lt {p p' : Nat → Bool} (h : ∀ j, p' j = true → p j = true) {i : Nat} (h1 : p i = true) (h2 : p' i = false) : ∀ N, i < N → (List.range N).countP p' < (List.range N).countP p := by
  have le : ∀ N, (List.range N).countP p' ≤ (List.range N).countP p := fun N => List.countP_mono_left (fun j _ => h j)
  intro N
  induction N with
  | zero => intro h; omega
  | succ N ih =>
    intro hi
    rw [List.range_succ, List.countP_append, List.countP_append]
    by_cases e : i = N
    · subst e
      have := le i
      simp [h1, h2]
      omega
    · have h3 := ih (by omega)
      have : (List.countP p' [N]) ≤ List.countP p [N] := List.countP_mono_left (fun j _ => h j)
      omega

theorem chkOper_rs {n : Nat} {all : Array Oper} {o : Oper} {io : IOper} (h : chkOper P G n all o io = true) : ∀ d, io.dst = some d → d.rs = G.rtOf d.d := by
  intro d hd
  simp only [chkOper, Bool.and_eq_true] at h
  have h1 := h.1.1
  rw [hd] at h1
  cases ho : o.dst with
  | none => rw [ho] at h1; simp [chkDst] at h1
  | some t => rw [ho] at h1; simp only [chkDst, Bool.and_eq_true, beq_iff_eq] at h1; exact h1.1.2

theorem draw_sound {n : Nat} {w0 : World} {S0 U0 : Nat → Prop} {ops : Array Oper} {K : Sg → Prop} (Q : Exit → Act → World → Prop) (hQ : ∀ a w σ, Rel G n w0 S0 U0 a w σ → K σ → Q .normal a w) {ios : List IOper} {a : Act} {w : World} {σ : Sg}
    (h : Rel G n w0 S0 U0 a w σ) (hc : chkOps P G n ops ops.toList ios = true) (hd : chkDraw G ops.toList ios = true) (hr : aops P G ios K σ) : wpAny P .any ops Q ops.size (Array.replicate ops.size false) a w := by
  obtain ⟨hlen, hops⟩ := chkOps_at _ hc
  simp only [chkDraw, Bool.and_eq_true, List.all_eq_true] at hd
  obtain ⟨hargs, hrows⟩ := hd
  generalize hM : befs ops.toList [] = M at hrows
  have hspec := ordRows_spec _ hrows
  simp only [Nat.zero_add] at hspec
  obtain ⟨q, hq0, hstep, hK⟩ := aops_steps ios hr
  have hN : ios.length = ops.size := by rw [← hlen]; simp
  have getop : ∀ i, i < ops.size → ∃ o io, ops[i]? = some o ∧ ops.toList[i]? = some o ∧ ios[i]? = some io := by
    intro i hi
    refine ⟨ops[i], ios[i]'(by omega), ?_, ?_, ?_⟩ <;> simp [hi, hN]
  -- the states of the text's order
  have hwf : ∀ i, i ≤ ops.size → ∀ s, rin (G.rtOf s) (q i s) = true := by
    intro i
    induction i with
    | zero =>
      intro _ s
      rw [hq0]
      obtain ⟨S, δ, Fr, _, _, _, rfl, hst, _⟩ := h
      exact hst.rt s
    | succ i ih =>
      intro hi
      obtain ⟨o, io, h1, h2, h3⟩ := getop i (by omega)
      exact (aop_off (hargs io (List.mem_of_getElem? h3)) (chkOper_rs (hops i o io h2 h3)) (ih (by omega)) (hstep i io h3)).2
  have hoff : ∀ j s, j < ops.size → s ∉ wOf G ios j → q (j + 1) s = q j s := by
    intro j s hj hs
    obtain ⟨o, io, h1, h2, h3⟩ := getop j hj
    exact (aop_off (hargs io (List.mem_of_getElem? h3)) (chkOper_rs (hops j o io h2 h3)) (hwf j (by omega)) (hstep j io h3)).1 s (by simpa [wOf, h3] using hs)
  have hWs : ∀ j, j < ops.size → (ios.map fun o => msk (wset G o)).getD j 0 = msk (wOf G ios j) := by
    intro j hj
    obtain ⟨o, io, h1, h2, h3⟩ := getop j hj
    simp [List.getD_eq_getElem?_getD, wOf, h3]
  have hRs : ∀ j, j < ops.size → (ios.map fun o => msk (rset G o)).getD j 0 = msk (rOf G ios j) := by
    intro j hj
    obtain ⟨o, io, h1, h2, h3⟩ := getop j hj
    simp [List.getD_eq_getElem?_getD, rOf, h3]
  have hWR : ∀ j s, s ∈ wOf G ios j → s ∈ rOf G ios j := by
    intro j s hs
    cases h3 : ios[j]? with
    | none => simp [wOf, h3] at hs
    | some io =>
      simp only [wOf, rOf, h3] at hs ⊢
      simp only [rset, List.mem_append]
      exact .inl (.inl hs)
  -- pairs that meet are ordered
  have hmeet : ∀ i j s, i < j → j < ops.size → (s ∈ wOf G ios i ∧ s ∈ rOf G ios j) ∨ (s ∈ rOf G ios i ∧ s ∈ wOf G ios j) → (M.getD j 0).testBit i = true := by
    intro i j s hij hj hs
    obtain ⟨o, io, h1, h2, h3⟩ := getop j hj
    rcases (hspec j o h2).2.2 i hij with ⟨g1, g2⟩ | g
    · rw [hWs i (by omega), hRs j hj] at g1
      rw [hRs i (by omega), hWs j hj] at g2
      rcases hs with hs | hs
      · exact (msk_apart g1 hs.1 hs.2).elim
      · exact (msk_apart g2 hs.1 hs.2).elim
    · exact g
  -- any order
  have main : ∀ (fuel : Nat) (listed : Array Bool) (a : Act) (w : World), listed.size = ops.size → (List.range ops.size).countP (fun i => !listed.getD i true) ≤ fuel →
      (∀ j, j < ops.size → listed.getD j true = true → ∀ i, (M.getD j 0).testBit i = true → listed.getD i true = true) →
      (∃ σ, Rel G n w0 S0 U0 a w σ ∧ ∀ s, σ s = q (lastW (fun j => listed.getD j true) (wOf G ios) s ops.size) s) → wpAny P .any ops Q fuel listed a w := by
    have done : ∀ (listed : Array Bool) (a : Act) (w : World), (∀ j, j < ops.size → listed.getD j true = true) → (∃ σ, Rel G n w0 S0 U0 a w σ ∧ ∀ s, σ s = q (lastW (fun j => listed.getD j true) (wOf G ios) s ops.size) s) → Q .normal a w := by
      rintro listed a w hall ⟨σ, h1, h2⟩
      have : σ = q ops.size := by
        funext s
        rw [h2 s]
        exact lastW_all hall hoff s _ (Nat.le_refl _)
      subst this
      exact hQ a w _ h1 (by rw [← hN]; exact hK)
    intro fuel
    induction fuel with
    | zero =>
      intro listed a w hsz hcnt hdown hst
      have hall : ∀ j, j < ops.size → listed.getD j true = true := by
        intro j hj
        have h0 : (List.range ops.size).countP (fun i => !listed.getD i true) = 0 := by omega
        rw [List.countP_eq_zero] at h0
        have := h0 j (by simp [hj])
        simpa using this
      refine ⟨?_, done listed a w hall hst⟩
      simp only [Region.ready, List.filter_eq_nil_iff, List.mem_range]
      intro j hj
      simp [hall j hj]
    | succ fuel ih =>
      intro listed a w hsz hcnt hdown hst
      refine ⟨fun hnil => ?_, fun i hi => ?_⟩
      · refine done listed a w ?_ hst
        intro j
        induction j using Nat.strongRecOn with
        | _ j ihj =>
          intro hj
          cases hl : listed.getD j true with
          | true => rfl
          | false =>
            exfalso
            obtain ⟨o, io, h1, h2, h3⟩ := getop j hj
            have : j ∈ Region.ready .any ops listed := by
              simp only [Region.ready, List.mem_filter, List.mem_range]
              refine ⟨hj, ?_⟩
              simp only [hl, Bool.not_false, Bool.true_and, h1, Option.map_some, Option.getD_some, Array.all_eq_true']
              intro e he
              cases hb : Region.binds .any e with
              | false => rfl
              | true =>
                have hlt := (hspec j o h2).2.1 e (by simpa using he) hb
                have hl' := ihj e.on hlt (by omega)
                have hs : e.on < listed.size := by omega
                simp only [Array.getD_eq_getD_getElem?, Array.getElem?_eq_getElem hs, Option.getD_some] at hl' ⊢
                simp [hl']
            rw [hnil] at this
            cases this
      · simp only [Region.ready, List.mem_filter, List.mem_range, Bool.and_eq_true, Bool.not_eq_true'] at hi
        obtain ⟨hiN, hul, hrd⟩ := hi
        obtain ⟨o, io, h1, h2, h3⟩ := getop i hiN
        simp only [h1, Option.map_some, Option.getD_some, Array.all_eq_true', Bool.or_eq_true, Bool.not_eq_true'] at hrd
        obtain ⟨hsp1, hsp2, _⟩ := hspec i o h2
        obtain ⟨σ, hrel, hσ⟩ := hst
        -- all that is ahead of i is listed
        have hahead : ∀ x, (M.getD i 0).testBit x = true → listed.getD x true = true := by
          intro x hx
          rw [hsp1] at hx
          obtain ⟨e, he, hb, hor⟩ := bef_bit hx
          have hlt := hsp2 e he hb
          have hle : listed.getD e.on true = true := by
            have := (hrd e (by simpa using he)).resolve_left (by simp [hb])
            have hs : e.on < listed.size := by omega
            simp only [Array.getD_eq_getD_getElem?, Array.getElem?_eq_getElem hs, Option.getD_some] at this ⊢
            exact this
          rcases hor with rfl | hor
          · exact hle
          · exact hdown e.on (by omega) hle x hor
        have hL' : ∀ j, (listed.setIfInBounds i true).getD j true = (listed.getD j true || j == i) := by
          intro j
          simp only [Array.getD_eq_getD_getElem?, Array.getElem?_setIfInBounds]
          by_cases e : i = j
          · subst e; simp; split <;> simp
          · have e' : ¬ j = i := fun x => e x.symm
            simp [e, e']
        have hpre : ∀ j s, j < i → s ∈ wOf G ios j → s ∈ rOf G ios i → listed.getD j true = true := fun j s hj hs hs' => hahead j (hmeet j i s hj hiN (.inl ⟨hs, hs'⟩))
        have hpost : ∀ j s, i < j → j < ops.size → s ∈ wOf G ios j → s ∈ rOf G ios i → listed.getD j true = true → listed.getD i true = true := fun j s hj hjN hs hs' hl => hdown j hjN hl i (hmeet i j s hj hjN (.inr ⟨hs', hs⟩))
        have hag : Ag G (· ∈ rset G io) (q i) σ := by
          refine ⟨fun s hs => ?_, fun s _ => hwf i (by omega) s⟩
          rw [hσ s]
          exact lastW_at (L := fun j => listed.getD j true) (R := rOf G ios) hul hiN hoff hpre hpost (by simpa [rOf, h3] using hs)
        obtain ⟨τ', hτ, hmv⟩ := aop_reach (hargs io (List.mem_of_getElem? h3)) (chkOper_rs (hops i o io h2 h3)) hag (hstep i io h3)
        refine wpOp_mono ?_ (aop_sound hrel (hops i o io h2 h3) hτ Q h1)
        rintro a' w' ⟨σ2, hrel', rfl⟩
        refine ih _ a' w' (by simp [hsz]) ?_ ?_ ⟨σ2, hrel', ?_⟩
        · have := countP_lt (p := fun i => !listed.getD i true) (p' := fun j => !(listed.setIfInBounds i true).getD j true) (fun j hj => by simp only [hL'] at hj; simp at hj ⊢; exact hj.1) (i := i) (by simp [hul]) (by simp [hL']) ops.size hiN
          omega
        · intro j hjN hl x hx
          rw [hL'] at hl ⊢
          simp only [Bool.or_eq_true, beq_iff_eq] at hl ⊢
          rcases hl with hl | rfl
          · exact .inl (hdown j hjN hl x hx)
          · exact .inl (hahead x hx)
        · intro s
          have hfun : (fun j => (listed.setIfInBounds i true).getD j true) = fun j => (listed.getD j true || j == i) := funext hL'
          by_cases hs : s ∈ wOf G ios i
          · rw [lastW_in (L := fun j => listed.getD j true) hiN (fun j => hL' j) hul (fun j s hj hjN h1 h2 h3 => hpost j s hj hjN h1 (hWR i s h2) h3) hs]
            exact hmv.ag.eq s (by simpa [wOf, h3] using hs)
          · rw [lastW_out (L := fun j => listed.getD j true) (i := i) (fun j => hL' j) hs, ← hσ s]
            exact (hmv.off s (by simpa [wOf, h3] using hs)).1
  refine main ops.size _ a w (by simp) (by exact Nat.le_trans (List.countP_le_length) (by simp)) ?_ ⟨σ, h, fun s => ?_⟩
  · intro j hj hl
    simp [Array.getD_eq_getD_getElem?, hj] at hl
  · have : ∀ m, m ≤ ops.size → lastW (fun j => (Array.replicate ops.size false).getD j true) (wOf G ios) s m = 0 := by
      intro m
      induction m with
      | zero => intro _; rfl
      | succ m ih =>
        intro hm
        simp only [lastW]
        rw [if_neg, ih (by omega)]
        rintro ⟨h1, _⟩
        have hm' : m < ops.size := by omega
        simp [Array.getD_eq_getD_getElem?, hm'] at h1
    rw [this _ (Nat.le_refl _), hq0]
end Go.Abs
