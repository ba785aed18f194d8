/- Operations on abstract states, in the world (1). -/
import Derived.Test.YtejicekieoclaaaCoreA
import Derived.Laws.Cells
import Derived.Laws.Small
import Derived.Laws.AppendOwn
import Derived.Laws.CopyRow
namespace Go.Abs
variable {w w' : World} {S S' : Nat → Prop} {G : Gi} {δ : Nat → DV} {Fr : Nat → Nat → Prop}

structure Nx (w : World) (S U : Nat → Prop) (w' : World) (S' U' : Nat → Prop) : Prop where
  os : w'.os = w.os
  tape : w'.tape = w.tape
  output : w'.output = w.output
  size : w.heap.size ≤ w'.heap.size
  block : ∀ b, b < w.heap.size → ¬ U b → w'.heap[b]? = w.heap[b]?
  sub : ∀ b, S b → S' b
  sup : ∀ b, S' b → S b ∨ U b ∨ w.heap.size ≤ b
  lt : (∀ b, S b → b < w.heap.size) → ∀ b, S' b → b < w'.heap.size
  own : ∀ x, U' x → U x ∨ w.heap.size ≤ x

theorem Nx.refl (w : World) (S U : Nat → Prop) : Nx w S U w S U :=
  ⟨rfl, rfl, rfl, Nat.le_refl _, fun _ _ _ => rfl, fun _ h => h, fun _ h => .inl h, fun h => h, fun _ h => .inl h⟩
theorem Nx.less {w : World} {S U U' : Nat → Prop} (h : ∀ x, U' x → U x) : Nx w S U w S U' :=
  ⟨rfl, rfl, rfl, Nat.le_refl _, fun _ _ _ => rfl, fun _ h => h, fun _ h => .inl h, fun h => h, fun x hx => .inl (h x hx)⟩
theorem Nx.trans {w w1 w2 : World} {S S1 S2 U U1 U2 : Nat → Prop} (h : Nx w S U w1 S1 U1) (k : Nx w1 S1 U1 w2 S2 U2) : Nx w S U w2 S2 U2 := by
  refine ⟨k.os.trans h.os, k.tape.trans h.tape, k.output.trans h.output, Nat.le_trans h.size k.size, ?_, fun b hb => k.sub b (h.sub b hb), ?_, fun hl b hb => k.lt (h.lt hl) b hb, ?_⟩
  · intro b hb hU
    rw [k.block b (Nat.lt_of_lt_of_le hb h.size) ?_, h.block b hb hU]
    intro hU1
    rcases h.own b hU1 with h1 | h1
    · exact hU h1
    · omega
  · intro b hb
    have hs := h.size
    rcases k.sup b hb with h1 | h1 | h1
    · exact h.sup b h1
    · rcases h.own b h1 with h2 | h2
      · exact .inr (.inl h2)
      · exact .inr (.inr h2)
    · exact .inr (.inr (Nat.le_trans hs h1))
  · intro x hx
    have hs := h.size
    rcases k.own x hx with h1 | h1
    · exact h.own x h1
    · exact .inr (Nat.le_trans hs h1)

abbrev Owned (Fr : Nat → Nat → Prop) : Nat → Prop := fun x => ∃ s, Fr s x

theorem kills_eq (d : Nat) (σ : Sg) : kills (G.als d) d σ = killS G d σ := by
  unfold kills killS
  split
  · rename_i h; funext s; simp [h]
  · rfl

def bare : DV → Prop
  | .lf _ _ => True
  | _ => False

theorem AlOK.dead (v : Value) : AlOK δ (.lf .dead v) := .lf _ _ trivial

theorem St.empty (h : St G w S δ Fr) (s : Nat) :
    St G w S (upd (killδ G s δ) s (.lf .dead (δ s).ann)) (upd Fr s fun _ => False) := by
  refine h.set s _ _ (fun _ _ => rfl) (fun _ _ _ _ => rfl) (fun _ h => h) (fun t _ x hx => (h.ok t).notS x hx) (.lf _ _ _ trivial (fun _ h => h)) (fun _ _ _ h => h.elim) (by simp) (AlOK.dead _)

theorem er_upd_kill (h : St G w S δ Fr) (d : Nat) (x : DV) : (fun s => (upd (killδ G d δ) d x s).er) = upd (killS G d (fun s => (δ s).er)) d x.er := by
  funext s
  by_cases hs : s = d
  · subst hs; simp [upd]
  · simp only [upd, hs, if_false]; exact h.killδ_er d s
theorem ann_upd_kill (h : St G w S δ Fr) (d : Nat) (x : DV) (s : Nat) : (upd (killδ G d δ) d x s).ann = if s = d then x.ann else (δ s).ann := by
  by_cases hs : s = d
  · subst hs; simp [upd]
  · simp only [upd, hs, if_false]; exact h.killδ_ann d s

theorem own_of_putD {t t' : DV} {a : AV} {v0 : Value} (p : List Step) (hp : putD t p (.lf a v0) = some t') (q : List Step) {v : Value} {bx : Bool} {k : Nat} {rows : List (List DV)}
    (hq : subD t' q = some (.own v bx k rows)) : ∃ rows', subD t q = some (.own v bx k rows') := by
  induction p generalizing t t' q with
  | nil =>
    simp only [putD, Option.some.injEq] at hp
    subst hp
    cases q with
    | nil => simp [subD] at hq
    | cons s q => simp [subD] at hq
  | cons s p ih =>
    obtain ⟨i, j, k0⟩ := s
    cases t with
    | lf a v => simp [putD] at hp
    | own hh b k1 rows1 =>
      simp only [putD] at hp
      cases hi : rows1[i]? with
      | none => simp [hi] at hp
      | some row =>
        simp only [hi] at hp
        cases hj : row[j]? with
        | none => simp [hj] at hp
        | some c =>
          simp only [hj] at hp
          cases hc : putD c p (.lf a v0) with
          | none => simp [hc] at hp
          | some c' =>
            simp only [hc, Option.some.injEq] at hp
            subst hp
            have hlt := (List.getElem?_eq_some_iff.1 hi).1
            have hji := (List.getElem?_eq_some_iff.1 hj).1
            cases q with
            | nil =>
              simp only [subD, Option.some.injEq, DV.own.injEq] at hq
              obtain ⟨rfl, rfl, rfl, _⟩ := hq
              exact ⟨_, rfl⟩
            | cons s2 q =>
              obtain ⟨i2, j2, k2⟩ := s2
              simp only [subD] at hq ⊢
              by_cases h1 : i2 = i
              · subst h1
                simp only [List.getElem?_set_self hlt] at hq
                simp only [hi]
                by_cases h2 : j2 = j
                · subst h2
                  simp only [List.getElem?_set_self hji] at hq
                  simp only [hj]
                  exact ih hc q hq
                · rw [List.getElem?_set_ne (by omega)] at hq
                  exact ⟨rows, hq⟩
              · rw [List.getElem?_set_ne (by omega)] at hq
                exact ⟨rows, hq⟩
    | agg cs =>
      simp only [putD] at hp
      cases hj : cs[j]? with
      | none => simp [hj] at hp
      | some c =>
        simp only [hj] at hp
        cases hc : putD c p (.lf a v0) with
        | none => simp [hc] at hp
        | some c' =>
          simp only [hc, Option.some.injEq] at hp
          subst hp
          have hji := (List.getElem?_eq_some_iff.1 hj).1
          cases q with
          | nil => simp [subD] at hq
          | cons s2 q =>
            obtain ⟨i2, j2, k2⟩ := s2
            simp only [subD] at hq ⊢
            by_cases h2 : j2 = j
            · subst h2
              simp only [List.getElem?_set_self hji] at hq
              simp only [hj]
              exact ih hc q hq
            · rw [List.getElem?_set_ne (by omega)] at hq
              exact ⟨rows, hq⟩
    | tup cs =>
      simp only [putD] at hp
      cases hj : cs[j]? with
      | none => simp [hj] at hp
      | some c =>
        simp only [hj] at hp
        cases hc : putD c p (.lf a v0) with
        | none => simp [hc] at hp
        | some c' =>
          simp only [hc, Option.some.injEq] at hp
          subst hp
          have hji := (List.getElem?_eq_some_iff.1 hj).1
          cases q with
          | nil => simp [subD] at hq
          | cons s2 q =>
            obtain ⟨i2, j2, k2⟩ := s2
            simp only [subD] at hq ⊢
            by_cases h2 : j2 = j
            · subst h2
              simp only [List.getElem?_set_self hji] at hq
              simp only [hj]
              exact ih hc q hq
            · rw [List.getElem?_set_ne (by omega)] at hq
              exact ⟨rows, hq⟩

theorem putD_al {t t' new : DV} (p : List Step) (hp : putD t p new = some t') (ht : AlOK δ t) (hn : AlOK δ new) : AlOK δ t' := by
  induction p generalizing t t' with
  | nil => simp only [putD, Option.some.injEq] at hp; exact hp ▸ hn
  | cons s p ih =>
    obtain ⟨i, j, k⟩ := s
    cases ht with
    | lf a v h => simp [putD] at hp
    | own hh b k1 rows =>
      simp only [putD] at hp
      split at hp
      · split at hp
        · split at hp
          · simp only [Option.some.injEq] at hp; subst hp; exact .own _ _ _ _
          · cases hp
        · cases hp
      · cases hp
    | agg cs hr =>
      simp only [putD] at hp
      split at hp
      · rename_i c hc
        split at hp
        · rename_i c' hc'
          simp only [Option.some.injEq] at hp
          subst hp
          refine .agg _ fun i d hd => ?_
          by_cases hi : i = j
          · subst hi
            rw [List.getElem?_set_self (List.getElem?_eq_some_iff.1 hc).1] at hd
            obtain rfl := Option.some.inj hd
            exact ih hc' (hr i c hc)
          · rw [List.getElem?_set_ne (by omega)] at hd
            exact hr i d hd
        · cases hp
      · cases hp
    | tup cs hr =>
      simp only [putD] at hp
      split at hp
      · rename_i c hc
        split at hp
        · rename_i c' hc'
          simp only [Option.some.injEq] at hp
          subst hp
          refine .tup _ fun i d hd => ?_
          by_cases hi : i = j
          · subst hi
            rw [List.getElem?_set_self (List.getElem?_eq_some_iff.1 hc).1] at hd
            obtain rfl := Option.some.inj hd
            exact ih hc' (hr i c hc)
          · rw [List.getElem?_set_ne (by omega)] at hd
            exact hr i d hd
        · cases hp
      · cases hp

theorem putD_rin {L : List Nat} {t t' new : DV} (p : List Step) (hp : putD t p new = some t') (ht : rin L t.er = true) (hn : rin L new.er = true) : rin L t'.er = true := by
  induction p generalizing t t' with
  | nil => simp only [putD, Option.some.injEq] at hp; exact hp ▸ hn
  | cons s p ih =>
    obtain ⟨i, j, k⟩ := s
    cases t with
    | lf a v => simp [putD] at hp
    | own hh b k1 rows =>
      simp only [putD] at hp
      split at hp
      · split at hp
        · split at hp
          · simp only [Option.some.injEq] at hp; subst hp; simp
          · cases hp
        · cases hp
      · cases hp
    | agg cs =>
      simp only [putD] at hp
      split at hp
      · rename_i c hc
        split at hp
        · rename_i c' hc'
          simp only [Option.some.injEq] at hp
          subst hp
          simp only [er_agg, rin_agg, List.all_map, List.all_eq_true] at ht ⊢
          intro x hx
          rcases List.mem_or_eq_of_mem_set hx with h | rfl
          · exact ht x h
          · exact ih hc' (ht c (List.mem_of_getElem? hc))
        · cases hp
      · cases hp
    | tup cs =>
      simp only [putD] at hp
      split at hp
      · rename_i c hc
        split at hp
        · rename_i c' hc'
          simp only [Option.some.injEq] at hp
          subst hp
          simp only [er_tup, rin_tup, List.all_map, List.all_eq_true] at ht ⊢
          intro x hx
          rcases List.mem_or_eq_of_mem_set hx with h | rfl
          · exact ht x h
          · exact ih hc' (ht c (List.mem_of_getElem? hc))
        · cases hp
      · cases hp

theorem St.replace {n : DV} (h : St G w S δ Fr) (r : Nat) (p : List Step) (hs : subD (δ r) p = some n) :
    ∃ Fo, Ok w S n Fo ∧ (∀ x, Fo x → Fr r x) ∧ ∀ (S' : Nat → Prop) (new : DV), new.ann = n.ann → Ok w S' new (fun _ => False) → (∀ b, S b → S' b) → (∀ t b, Fr t b → ¬ Fo b → ¬ S' b) →
      (∀ L, rin L new.er = true) → AlOK δ new →
      ∃ t F', putD (δ r) p new = some t ∧ St G w S' (upd (killδ G r δ) r t) (upd Fr r F') ∧ (∀ x, F' x ↔ Fr r x ∧ ¬ Fo x) ∧ t.ann = (δ r).ann := by
  obtain ⟨Fo, ho, hsub, hrep⟩ := (h.ok r).replace p hs
  refine ⟨Fo, ho, hsub, ?_⟩
  intro S' new ha hn hSS hfS hroot hal
  obtain ⟨t, F', ht, hok, hiff, hann⟩ := hrep w S' new (fun _ => False) ha hn (fun _ h => h.elim) (fun _ _ => rfl) (fun _ _ _ => rfl) hSS (fun b hb hb' => hfS r b hb hb')
  have hiff' : ∀ x, F' x ↔ Fr r x ∧ ¬ Fo x := fun x => by rw [hiff x]; simp
  refine ⟨t, F', ht, ?_, hiff', hann⟩
  refine h.set r t F' (fun _ _ => rfl) (fun _ _ _ _ => rfl) hSS ?_ hok ?_ (putD_rin p ht (h.rt r) (hroot _)) (putD_al p ht (h.al r) hal)
  · intro s hs' x hx
    exact hfS s x hx fun ho' => hs' (h.dis s r x hx (hsub x ho'))
  · intro s hs' x hx hx'
    exact hs' (h.dis s r x hx' ((hiff' x).1 hx).1)

theorem St.tk1 (h : St G w S δ Fr) {r : Nat} {p : List Step} {a : AV} {τ : Sg} (ht : Abs.tk1 G r p (fun s => (δ s).er) = some (a, τ)) :
    ∃ δ' F' D Ff, St G w S δ' F' ∧ (fun s => (δ' s).er) = τ ∧ (∀ s, (δ' s).ann = (δ s).ann) ∧ Ok w S D Ff ∧ D.er = a ∧ (∃ v bx k rows, D = .own v bx k rows) ∧ subD (δ r) p = some D ∧ (∀ s x, F' s x → ¬ Ff x) ∧
      (∀ x, Owned F' x ∨ Ff x → Owned Fr x) ∧ (∀ q v bx k rows, subD (δ' r) q = some (.own v bx k rows) → ∃ rows', subD (δ r) q = some (.own v bx k rows')) ∧ (∀ s, s ≠ r → δ' s = killδ G r δ s) := by
  unfold Abs.tk1 at ht
  split at ht
  · rename_i b k rows hs
    split at ht
    · rename_i t hp
      simp only [Option.some.injEq, Prod.mk.injEq] at ht
      obtain ⟨rfl, rfl⟩ := ht
      obtain ⟨D, hD, hDe⟩ := subD_of_sub (h.ok r).lfy hs
      obtain ⟨Fo, ho, hsub, hrep⟩ := h.replace r p hD
      obtain ⟨td, F', htd, hst, hiff, hann⟩ := hrep S (.lf .dead D.ann) (by simp) (.lf _ _ _ trivial (fun _ h => h)) (fun _ h => h) (fun t b hb _ => (h.ok t).notS b hb) (by simp) (AlOK.dead _)
      have hte : td.er = t := by
        obtain ⟨t', h1, h2⟩ := putD_of_put (d := δ r) (p := p) (a := t) (.lf .dead D.ann) (h.ok r).lfy (by simpa using hp)
        rw [htd] at h1
        obtain rfl := Option.some.inj h1
        exact h2
      have hown : ∃ v bx k rows, D = .own v bx k rows := by
        have := ho.lfy
        cases D with
        | own v bx k rows => exact ⟨v, bx, k, rows, rfl⟩
        | lf a v => cases this with | lf _ _ hl => simp at hDe; subst hDe; simp [leafy] at hl
        | agg cs => simp at hDe
        | tup cs => simp at hDe
      refine ⟨_, _, D, Fo, hst, by rw [er_upd_kill h, hte], ?_, ho, hDe, hown, hD, ?_, ?_, ?_, fun s hs' => upd_ne _ _ hs'⟩
      · intro s; rw [ann_upd_kill h]; split
        · rename_i e; rw [e, hann]
        · rfl
      · intro s x hx hF
        by_cases hs' : s = r
        · subst hs'; rw [upd_same] at hx; exact ((hiff x).1 hx).2 hF
        · rw [upd_ne _ _ hs'] at hx
          exact hs' (h.dis s r x hx (hsub x hF))
      · rintro x (⟨s, hx⟩ | hx)
        · by_cases hs' : s = r
          · subst hs'; rw [upd_same] at hx; exact ⟨s, ((hiff x).1 hx).1⟩
          · rw [upd_ne _ _ hs'] at hx; exact ⟨s, hx⟩
        · exact ⟨r, hsub x hx⟩
      · intro q v bx k' rows' hq
        rw [upd_same] at hq
        exact own_of_putD p htd q hq
    · cases ht
  · cases ht
end Go.Abs
namespace Go.Abs
variable {w w' : World} {S S' : Nat → Prop} {G : Gi} {δ : Nat → DV} {Fr : Nat → Nat → Prop}

theorem own_of_killD {t : DV} (d : Nat) (q : List Step) {v : Value} {bx : Bool} {k : Nat} {rows : List (List DV)} (hq : subD (killD d t) q = some (.own v bx k rows)) : subD t q = some (.own v bx k rows) := by
  induction q generalizing t with
  | nil =>
    simp only [subD, Option.some.injEq] at hq ⊢
    cases t with
    | lf a v => simp at hq
    | own => simpa using hq
    | agg => simp at hq
    | tup => simp at hq
  | cons s q ih =>
    obtain ⟨i, j, k0⟩ := s
    cases t with
    | lf a v => simp [subD] at hq
    | own h b k1 rows1 => rw [killD_own] at hq; exact hq
    | agg cs =>
      simp only [killD_agg, subD, List.getElem?_map] at hq ⊢
      cases hj : cs[j]? with
      | none => simp [hj] at hq
      | some c => simp only [hj, Option.map_some] at hq ⊢; exact ih hq
    | tup cs =>
      simp only [killD_tup, subD, List.getElem?_map] at hq ⊢
      cases hj : cs[j]? with
      | none => simp [hj] at hq
      | some c => simp only [hj, Option.map_some] at hq ⊢; exact ih hq

theorem own_of_killδ (d r : Nat) (q : List Step) {v : Value} {bx : Bool} {k : Nat} {rows : List (List DV)} (hq : subD (killδ G d δ r) q = some (.own v bx k rows)) : subD (δ r) q = some (.own v bx k rows) := by
  unfold killδ at hq
  split at hq
  · exact own_of_killD d q hq
  · exact hq

def Hd (δ δ' : Nat → DV) : Prop := ∀ r q v bx k rows, subD (δ' r) q = some (.own v bx k rows) → ∃ rows', subD (δ r) q = some (.own v bx k rows')
theorem Hd.refl (δ : Nat → DV) : Hd δ δ := fun _ _ _ _ _ rows h => ⟨rows, h⟩
theorem Hd.trans {δ δ' δ'' : Nat → DV} (h : Hd δ δ') (k : Hd δ' δ'') : Hd δ δ'' := by
  intro r q v bx kk rows hq
  obtain ⟨rows', h'⟩ := k r q v bx kk rows hq
  exact h r q v bx kk rows' h'

def OkL (w : World) (S : Nat → Prop) : List DV → (Nat → Prop) → Prop
  | [], F => ∀ x, ¬ F x
  | d :: ds, F => ∃ F1 F2, Ok w S d F1 ∧ OkL w S ds F2 ∧ (∀ x, F1 x → ¬ F2 x) ∧ ∀ x, F x ↔ F1 x ∨ F2 x

def Parts (w : World) (S : Nat → Prop) (cs : List DV) (F : Nat → Prop) : Prop :=
  ∃ Fs : Nat → Nat → Prop, (∀ (i : Nat) d, cs[i]? = some d → Ok w S d (Fs i)) ∧ (∀ i i' x, Fs i x → Fs i' x → i = i') ∧ (∀ i x, Fs i x → ∃ d, cs[i]? = some d) ∧ (∀ x, F x ↔ ∃ i, Fs i x)

theorem OkL_iff {cs : List DV} {F : Nat → Prop} : OkL w S cs F ↔ Parts w S cs F := by
  induction cs generalizing F with
  | nil =>
    constructor
    · intro h
      exact ⟨fun _ _ => False, by simp, fun _ _ _ h => h.elim, fun _ _ h => h.elim, fun x => ⟨fun hx => absurd hx (h x), fun ⟨_, h⟩ => h.elim⟩⟩
    · rintro ⟨Fs, h1, h2, h3, h4⟩ x hx
      obtain ⟨i, hi⟩ := (h4 x).1 hx
      obtain ⟨d, hd⟩ := h3 i x hi
      simp at hd
  | cons d ds ih =>
    constructor
    · rintro ⟨F1, F2, h1, h2, h3, h4⟩
      obtain ⟨Fs, g1, g2, g3, g4⟩ := ih.1 h2
      refine ⟨fun i => match i with | 0 => F1 | i + 1 => Fs i, ?_, ?_, ?_, ?_⟩
      · intro i e he
        cases i with
        | zero => simp only [List.getElem?_cons_zero, Option.some.injEq] at he; exact he ▸ h1
        | succ i => simp only [List.getElem?_cons_succ] at he; exact g1 i e he
      · intro i i' x hx hy
        cases i <;> cases i'
        · rfl
        · exact absurd ((g4 x).2 ⟨_, hy⟩) (h3 x hx)
        · exact absurd ((g4 x).2 ⟨_, hx⟩) (h3 x hy)
        · rename_i a b; rw [g2 a b x hx hy]
      · intro i x hx
        cases i with
        | zero => exact ⟨d, rfl⟩
        | succ i => obtain ⟨e, he⟩ := g3 i x hx; exact ⟨e, by simpa using he⟩
      · intro x
        rw [h4 x]
        constructor
        · rintro (h | h)
          · exact ⟨0, h⟩
          · obtain ⟨i, hi⟩ := (g4 x).1 h; exact ⟨i + 1, hi⟩
        · rintro ⟨i, hi⟩
          cases i with
          | zero => exact .inl hi
          | succ i => exact .inr ((g4 x).2 ⟨i, hi⟩)
    · rintro ⟨Fs, g1, g2, g3, g4⟩
      refine ⟨Fs 0, fun x => ∃ i, Fs (i + 1) x, g1 0 d rfl, ih.2 ⟨fun i => Fs (i + 1), ?_, ?_, ?_, fun x => Iff.rfl⟩, ?_, ?_⟩
      · intro i e he; exact g1 (i + 1) e (by simpa using he)
      · intro i i' x hx hy; have := g2 _ _ x hx hy; omega
      · intro i x hx; obtain ⟨e, he⟩ := g3 _ x hx; exact ⟨e, by simpa using he⟩
      · rintro x hx ⟨i, hi⟩; have := g2 _ _ x hx hi; omega
      · intro x
        rw [g4 x]
        constructor
        · rintro ⟨i, hi⟩
          cases i with
          | zero => exact .inl hi
          | succ i => exact .inr ⟨i, hi⟩
        · rintro (h | ⟨i, h⟩)
          · exact ⟨0, h⟩
          · exact ⟨i + 1, h⟩

theorem Ok_agg_iff {cs : List DV} {F : Nat → Prop} : Ok w S (.agg cs) F ↔ OkL w S cs F := by
  rw [OkL_iff]
  constructor
  · intro h
    cases h with
    | agg _ Fs _ h1 h2 h3 h4 => exact ⟨Fs, h1, h2, h3, h4⟩
  · rintro ⟨Fs, h1, h2, h3, h4⟩
    exact .agg cs Fs F h1 h2 h3 h4
theorem Ok_tup_iff {cs : List DV} {F : Nat → Prop} : Ok w S (.tup cs) F ↔ OkL w S cs F := by
  rw [OkL_iff]
  constructor
  · intro h
    cases h with
    | tup _ Fs _ h1 h2 h3 h4 => exact ⟨Fs, h1, h2, h3, h4⟩
  · rintro ⟨Fs, h1, h2, h3, h4⟩
    exact .tup cs Fs F h1 h2 h3 h4

theorem OkL.mono {cs : List DV} {F : Nat → Prop} (h : OkL w S cs F) (hw : ∀ b, S b → w'.heap[b]? = w.heap[b]?) (hf : ∀ b, F b → w'.heap[b]? = w.heap[b]?) (hS : ∀ b, S b → S' b) (hn : ∀ x, F x → ¬ S' x) : OkL w' S' cs F :=
  Ok_agg_iff.1 ((Ok_agg_iff.2 h).mono hw hf hS hn)

theorem St.tkL {δ0 : Nat → DV} (ds : List DV) : ∀ {δ : Nat → DV} {Fr : Nat → Nat → Prop} {F : Nat → Prop} {l : List AV} {τ : Sg}, St G w S δ Fr → OkL w S ds F → (∀ d ∈ ds, AlOK δ0 d) → Hd δ0 δ → (∀ s x, Fr s x → ¬ F x) →
    Abs.tkL G (ds.map DV.er) (fun s => (δ s).er) = some (l, τ) →
    ∃ δ' F' ds' Ff, St G w S δ' F' ∧ (fun s => (δ' s).er) = τ ∧ (∀ s, (δ' s).ann = (δ s).ann) ∧ OkL w S ds' Ff ∧ ds'.map DV.er = l ∧ ds'.map DV.ann = ds.map DV.ann ∧ (∀ s x, F' s x → ¬ Ff x) ∧
      (∀ x, Owned F' x ∨ Ff x → Owned Fr x ∨ F x) ∧ Hd δ0 δ' ∧ (∀ a ∈ l, cellA a = true) := by
  induction ds with
  | nil =>
    intro δ Fr F l τ h hok hal hhd hdis ht
    simp only [List.map_nil, Abs.tkL, Option.some.injEq, Prod.mk.injEq] at ht
    obtain ⟨rfl, rfl⟩ := ht
    exact ⟨δ, Fr, [], F, h, rfl, fun _ => rfl, hok, rfl, rfl, hdis, fun x hx => hx, hhd, by simp⟩
  | cons d ds ih =>
    intro δ Fr F l τ h hok hal hhd hdis ht
    obtain ⟨F1, F2, hd, hds, h12, hF⟩ := hok
    have hald := hal d (by simp)
    have hal' : ∀ e ∈ ds, AlOK δ0 e := fun e he => hal e (by simp [he])
    simp only [List.map_cons, Abs.tkL] at ht
    cases hde : d.er with
    | al r p =>
      simp only [hde] at ht
      split at ht
      · rename_i n τ1 ht1
        split at ht
        · rename_i l' τ' ht2
          simp only [Option.some.injEq, Prod.mk.injEq] at ht
          obtain ⟨rfl, rfl⟩ := ht
          obtain ⟨δ1, F1', D, Ff, hst, her, hann, hD, hDe, ⟨v, bx, k, rows, rfl⟩, hsub, hdis1, hown1, hhd1, hoth⟩ := h.tk1 ht1
          have hH : Hd δ δ1 := by
            intro r' q v bx k rows hq
            by_cases hr : r' = r
            · subst hr; exact hhd1 q v bx k rows hq
            · rw [hoth r' hr] at hq; exact ⟨rows, own_of_killδ r r' q hq⟩
          subst her
          have hdF2 : ∀ s x, F1' s x → ¬ F2 x := by
            intro s x hx hx2
            obtain ⟨t, ht⟩ := hown1 x (.inl ⟨s, hx⟩)
            exact hdis t x ht ((hF x).2 (.inr hx2))
          obtain ⟨δ2, F2', ds', Fd, hst2, her2, hann2, hok2, hmap, hmapa, hdis2, hown2, hhd2, hcell⟩ := ih hst hds hal' (hhd.trans hH) hdF2 ht2
          have hv : v = d.ann := by
            cases d with
            | lf a u =>
              simp only [er_lf] at hde
              subst hde
              cases hald with
              | lf _ _ hl =>
                obtain ⟨bx', k', rows', hl⟩ := hl
                obtain ⟨rows'', hq⟩ := hhd r p v bx k rows hsub
                rw [hl] at hq
                simp only [Option.some.injEq, DV.own.injEq] at hq
                simp [hq.1]
            | own => simp at hde
            | agg => simp at hde
            | tup => simp at hde
          have hFf : ∀ x, Ff x → ¬ F2 x := by
            intro x hx hx2
            obtain ⟨t, ht⟩ := hown1 x (.inr hx)
            exact hdis t x ht ((hF x).2 (.inr hx2))
          have hdd : ∀ x, Owned F2' x ∨ Fd x → ¬ Ff x := by
            intro x hx hf
            rcases hown2 x hx with ⟨s, hs⟩ | h2
            · exact hdis1 s x hs hf
            · exact hFf x hf h2
          refine ⟨δ2, F2', .own v bx k rows :: ds', fun x => Ff x ∨ Fd x, hst2, her2, fun s => (hann2 s).trans (hann s), ⟨Ff, Fd, hD, hok2, fun x hx hx' => hdd x (.inr hx') hx, fun x => Iff.rfl⟩, ?_, ?_, ?_, ?_, hhd2, ?_⟩
          · simp only [List.map_cons, hDe, hmap]
          · simp only [List.map_cons, hmapa, ann_own, hv]
          · rintro s x hx (hf | hf)
            · exact hdd x (.inl ⟨s, hx⟩) hf
            · exact hdis2 s x hx hf
          · rintro x (hx | hx | hx)
            · rcases hown2 x (.inl hx) with h1 | h1
              · exact .inl (hown1 x (.inl h1))
              · exact .inr ((hF x).2 (.inr h1))
            · exact .inl (hown1 x (.inr hx))
            · rcases hown2 x (.inr hx) with h1 | h1
              · exact .inl (hown1 x (.inl h1))
              · exact .inr ((hF x).2 (.inr h1))
          · intro a ha
            simp only [List.mem_cons] at ha
            rcases ha with rfl | ha
            · rw [← hDe]; simp [cellA]
            · exact hcell a ha
        · cases ht
      · cases ht
    | _ =>
      simp only [hde] at ht
      split at ht
      · rename_i hc
        split at ht
        · rename_i l' τ' ht2
          simp only [Option.some.injEq, Prod.mk.injEq] at ht
          obtain ⟨rfl, rfl⟩ := ht
          have hdF2 : ∀ s x, Fr s x → ¬ F2 x := fun s x hx hx2 => hdis s x hx ((hF x).2 (.inr hx2))
          obtain ⟨δ2, F2', ds', Fd, hst2, her2, hann2, hok2, hmap, hmapa, hdis2, hown2, hhd2, hcell⟩ := ih h hds hal' hhd hdF2 ht2
          have hdd : ∀ x, Owned F2' x ∨ Fd x → ¬ F1 x := by
            intro x hx hf
            rcases hown2 x hx with ⟨s, hs⟩ | h2
            · exact hdis s x hs ((hF x).2 (.inl hf))
            · exact h12 x hf h2
          refine ⟨δ2, F2', d :: ds', fun x => F1 x ∨ Fd x, hst2, her2, hann2, ⟨F1, Fd, hd, hok2, fun x hx hx' => hdd x (.inr hx') hx, fun x => Iff.rfl⟩, ?_, ?_, ?_, ?_, hhd2, ?_⟩
          · simp only [List.map_cons, hde, hmap]
          · simp only [List.map_cons, hmapa]
          · rintro s x hx (hf | hf)
            · exact hdd x (.inl ⟨s, hx⟩) hf
            · exact hdis2 s x hx hf
          · rintro x (hx | hx | hx)
            · rcases hown2 x (.inl hx) with h1 | h1
              · exact .inl h1
              · exact .inr ((hF x).2 (.inr h1))
            · exact .inr ((hF x).2 (.inl hx))
            · rcases hown2 x (.inr hx) with h1 | h1
              · exact .inl h1
              · exact .inr ((hF x).2 (.inr h1))
          · intro a ha
            simp only [List.mem_cons] at ha
            rcases ha with rfl | ha
            · exact hc
            · exact hcell a ha
        · cases ht
      · cases ht
end Go.Abs
namespace Go.Abs
variable {w w' : World} {S S' : Nat → Prop} {G : Gi} {δ : Nat → DV} {Fr : Nat → Nat → Prop}

mutual
def cstD : AV → Option DV
  | .sc v => if plainV v = true then some (.lf (.sc v) v) else none
  | .own false k [] => some (.own (.slice none 0 0) false k [])
  | .sl true k [] => some (.lf (.sl true k []) (.slice none 0 0))
  | .agg cs => match cstL cs with
    | some ds => some (.agg ds)
    | none => none
  | _ => none
def cstL : List AV → Option (List DV)
  | [] => some []
  | a :: r => match cstD a with
    | some d => match cstL r with
      | some ds => some (d :: ds)
      | none => none
    | none => none
end

theorem cst_facts (a : AV) : ∀ D, cstD a = some D → D.er = a ∧ Ok w S D (fun _ => False) ∧ AlOK δ D ∧ (∀ L, rin L a = true) := by
  refine AV.rec (motive_1 := fun a => ∀ D, cstD a = some D → D.er = a ∧ Ok w S D (fun _ => False) ∧ AlOK δ D ∧ (∀ L, rin L a = true)) (motive_2 := fun _ => True)
    (motive_3 := fun l => ∀ ds, cstL l = some ds → ds.map DV.er = l ∧ OkL w S ds (fun _ => False) ∧ (∀ d ∈ ds, AlOK δ d) ∧ (∀ L, rinL L l = true)) ?_ ?_ ?_ ?_ ?_ ?_ ?_ ?_ ?_ ?_ ?_ ?_ ?_ ?_ a
  · intro v D h
    simp only [cstD] at h
    split at h
    · rename_i hp
      obtain rfl := Option.some.inj h
      exact ⟨by simp, .lf _ _ _ ⟨rfl, hp⟩ (fun _ h => h), .lf _ _ trivial, by simp⟩
    · cases h
  · intro x k rows _ D h
    cases x with
    | false => simp [cstD] at h
    | true =>
      cases rows with
      | nil =>
        simp only [cstD] at h
        obtain rfl := Option.some.inj h
        exact ⟨by simp, .lf _ _ _ (Fz.nil true k none 0 (fun _ => rfl)) (fun _ h => h), .lf _ _ trivial, by simp⟩
      | cons r rs => simp [cstD] at h
  · intro b k rows _ D h
    cases b with
    | true => simp [cstD] at h
    | false =>
      cases rows with
      | nil =>
        simp only [cstD] at h
        obtain rfl := Option.some.inj h
        exact ⟨by simp, .nil k _ (fun _ h => h), .own _ _ _ _, by simp⟩
      | cons r rs => simp [cstD] at h
  · intro cs ih D h
    simp only [cstD] at h
    split at h
    · rename_i ds hds
      obtain rfl := Option.some.inj h
      obtain ⟨h1, h2, h3, h4⟩ := ih ds hds
      refine ⟨by simp [h1], Ok_agg_iff.2 h2, .agg _ fun i d hd => h3 d (List.mem_of_getElem? hd), fun L => by simp only [rin]; exact h4 L⟩
    · cases h
  · intro cs _ D h; simp [cstD] at h
  · intro r p D h; simp [cstD] at h
  · intro r p i j k D h; simp [cstD] at h
  · intro cs _ D h; simp [cstD] at h
  · intro D h; simp [cstD] at h
  · intro D h; simp [cstD] at h
  · trivial
  · intros; trivial
  · intro ds h
    simp only [cstL, Option.some.injEq] at h
    subst h
    exact ⟨rfl, fun _ h => h, by simp, fun L => by simp [rinL]⟩
  · intro a l iha ihl ds h
    simp only [cstL] at h
    split at h
    · rename_i d hd
      split at h
      · rename_i ds' hds
        obtain rfl := Option.some.inj h
        obtain ⟨h1, h2, h3, h4⟩ := iha d hd
        obtain ⟨g1, g2, g3, g4⟩ := ihl ds' hds
        refine ⟨by simp [h1, g1], ⟨_, _, h2, g2, fun _ h => h.elim, fun x => by simp⟩, ?_, fun L => by simp [rinL, h4 L, g4 L]⟩
        intro e he
        simp only [List.mem_cons] at he
        rcases he with rfl | he
        · exact h3
        · exact g3 e he
      · cases h
    · cases h

def ArOK : Ar → Prop
  | .t _ => True
  | .c a => ∃ D, cstD a = some D

def argv (δ : Nat → DV) : Ar → Value
  | .t s => (δ s).ann
  | .c a => match cstD a with
    | some D => D.ann
    | none => undef

theorem AlOK_cells {ds : List DV} (hc : ∀ a ∈ ds.map DV.er, cellA a = true) : ∀ d ∈ ds, AlOK δ d := by
  intro d hd
  have h1 := hc d.er (List.mem_map_of_mem hd)
  cases d with
  | lf a v => refine .lf a v ?_; simp only [er_lf] at h1; cases a <;> simp_all [cellA, AlLeaf]
  | own => exact .own _ _ _ _
  | agg cs => simp [cellA] at h1
  | tup cs => simp [cellA] at h1

structure Fly (G : Gi) (w : World) (S : Nat → Prop) (δ : Nat → DV) (Fr : Nat → Nat → Prop) (δ' : Nat → DV) (F' : Nat → Nat → Prop) (D : DV) (Ff : Nat → Prop) : Prop where
  st : St G w S δ' F'
  ann : ∀ s, (δ' s).ann = (δ s).ann
  ok : Ok w S D Ff
  al : AlOK δ' D
  dis : ∀ s x, F' s x → ¬ Ff x
  own : ∀ x, Owned F' x ∨ Ff x → Owned Fr x

theorem St.tk (h : St G w S δ Fr) {x : Ar} {a : AV} {τ : Sg} (hx : ArOK x) (ht : Abs.tk G x (fun s => (δ s).er) = some (a, τ)) :
    ∃ δ' F' D Ff, Fly G w S δ Fr δ' F' D Ff ∧ (fun s => (δ' s).er) = τ ∧ D.er = a ∧ D.ann = argv δ x := by
  cases x with
  | c c =>
    obtain ⟨D, hD⟩ := hx
    simp only [Abs.tk, Option.some.injEq, Prod.mk.injEq] at ht
    obtain ⟨rfl, rfl⟩ := ht
    obtain ⟨h1, h2, h3, _⟩ := cst_facts (w := w) (S := S) (δ := δ) c D hD
    exact ⟨δ, Fr, D, _, ⟨h, fun _ => rfl, h2, h3, fun _ _ _ h => h, fun x hx => hx.elim id False.elim⟩, rfl, h1, by simp [argv, hD]⟩
  | t s =>
    simp only [Abs.tk] at ht
    have hleaf : ∀ b, (δ s).er = b → leafy b = true → ∃ v, δ s = .lf b v := by
      intro b hb hl
      have := (h.ok s).lfy
      cases hd : δ s with
      | lf c v => rw [hd] at hb; simp at hb; exact ⟨v, by rw [hb]⟩
      | own => rw [hd] at hb; simp at hb; subst hb; simp [leafy] at hl
      | agg => rw [hd] at hb; simp at hb; subst hb; simp [leafy] at hl
      | tup => rw [hd] at hb; simp at hb; subst hb; simp [leafy] at hl
    have hcopy : ∀ b, (δ s).er = b → leafy b = true → ∃ δ' F' D Ff, Fly G w S δ Fr δ' F' D Ff ∧ (fun s => (δ' s).er) = (fun s => (δ s).er) ∧ D.er = b ∧ D.ann = argv δ (.t s) := by
      intro b hb hl
      obtain ⟨v, hv⟩ := hleaf b hb hl
      have hok := h.ok s
      rw [hv] at hok
      cases hok with
      | lf _ _ _ ha hF =>
        exact ⟨δ, Fr, .lf b v, fun _ => False, ⟨h, fun _ => rfl, .lf _ _ _ ha (fun _ h => h), hv ▸ h.al s, fun _ _ _ h => h, fun x hx => hx.elim id False.elim⟩, rfl, by simp, by simp [argv, hv]⟩
    cases hs : (δ s).er with
    | al r p =>
      simp only [hs] at ht
      obtain ⟨δ1, F1, D, Ff, hst, her, hann, hD, hDe, ⟨v, bx, k, rows, rfl⟩, hsub, hdis, hown, hhd, hoth⟩ := h.tk1 ht
      refine ⟨δ1, F1, _, Ff, ⟨hst, hann, hD, .own _ _ _ _, hdis, hown⟩, her, hDe, ?_⟩
      obtain ⟨u, hu⟩ := hleaf _ hs rfl
      have hal := h.al s
      rw [hu] at hal
      cases hal with
      | lf _ _ hl =>
        obtain ⟨bx', k', rows', hl⟩ := hl
        rw [hl] at hsub
        simp only [Option.some.injEq, DV.own.injEq] at hsub
        simp [argv, hu, hsub.1]
    | own b k rows =>
      simp only [hs, Option.some.injEq, Prod.mk.injEq] at ht
      obtain ⟨rfl, rfl⟩ := ht
      have hst := h.empty s
      refine ⟨_, _, δ s, Fr s, ⟨hst, ?_, h.ok s, ?_, ?_, ?_⟩, by rw [er_upd_kill h]; simp, hs, rfl⟩
      · intro t; rw [ann_upd_kill h]; split
        · rename_i e; rw [e]; simp
        · rfl
      · have := (h.ok s).lfy
        cases hd : δ s with
        | own => exact .own _ _ _ _
        | lf c v => rw [hd] at hs this; cases this with | lf _ _ hl => simp at hs; subst hs; simp [leafy] at hl
        | agg => rw [hd] at hs; simp at hs
        | tup => rw [hd] at hs; simp at hs
      · intro t x hx hf
        by_cases e : t = s
        · subst e; rw [upd_same] at hx; exact hx
        · rw [upd_ne _ _ e] at hx; exact e (h.dis t s x hx hf)
      · rintro x (⟨t, hx⟩ | hx)
        · by_cases e : t = s
          · subst e; rw [upd_same] at hx; exact hx.elim
          · rw [upd_ne _ _ e] at hx; exact ⟨t, hx⟩
        · exact ⟨s, hx⟩
    | agg cs =>
      simp only [hs] at ht
      obtain ⟨ds, hds, hcs⟩ : ∃ ds, δ s = .agg ds ∧ ds.map DV.er = cs := by
        have := (h.ok s).lfy
        cases hd : δ s with
        | agg ds => rw [hd] at hs; simp at hs; exact ⟨ds, rfl, hs⟩
        | lf c v => rw [hd] at hs this; cases this with | lf _ _ hl => simp at hs; subst hs; simp [leafy] at hl
        | own => rw [hd] at hs; simp at hs
        | tup => rw [hd] at hs; simp at hs
      split at ht
      · rename_i hpl
        simp only [Option.some.injEq, Prod.mk.injEq] at ht
        obtain ⟨rfl, rfl⟩ := ht
        have hok := h.ok s
        rw [hds] at hok
        -- nothing is owned
        have hempty : OkL w S ds (fun _ => False) := by
          have hokL := Ok_agg_iff.1 hok
          clear hok hds
          rw [← hcs] at hpl
          clear hcs hs
          generalize Fr s = F at hokL
          induction ds generalizing F with
          | nil => exact fun _ h => h
          | cons d ds ih =>
            obtain ⟨F1, F2, h1, h2, _, _⟩ := hokL
            simp only [List.map_cons, List.all_cons, Bool.and_eq_true] at hpl
            refine ⟨fun _ => False, fun _ => False, ?_, ih hpl.2 F2 h2, fun _ h => h.elim, fun x => by simp⟩
            cases h1 with
            | lf a v _ ha hF => exact .lf a v _ ha (fun _ h => h)
            | nil => simp [plainA] at hpl
            | own => simp [plainA] at hpl
            | agg => simp [plainA] at hpl
            | tup => simp [plainA] at hpl
        exact ⟨δ, Fr, .agg ds, fun _ => False, ⟨h, fun _ => rfl, Ok_agg_iff.2 hempty, hds ▸ h.al s, fun _ _ _ h => h, fun x hx => hx.elim id False.elim⟩, rfl, by simp [hcs], by simp [argv, hds]⟩
      · split at ht
        · rename_i l τ' htl
          simp only [Option.some.injEq, Prod.mk.injEq] at ht
          obtain ⟨rfl, rfl⟩ := ht
          have hst := h.empty s
          have hok := h.ok s
          rw [hds] at hok
          have hals : ∀ d ∈ ds, AlOK δ d := by
            have := h.al s
            rw [hds] at this
            cases this with
            | agg _ hr => intro d hd; obtain ⟨i, hi⟩ := List.getElem?_of_mem hd; exact hr i d hi
          have hH : Hd δ (upd (killδ G s δ) s (.lf .dead (δ s).ann)) := by
            intro r q v bx k rows hq
            by_cases e : r = s
            · subst e
              rw [upd_same] at hq
              cases q <;> simp [subD] at hq
            · rw [upd_ne _ _ e] at hq
              exact ⟨rows, own_of_killδ s r q hq⟩
          have hdis : ∀ t x, (upd Fr s fun _ => False) t x → ¬ Fr s x := by
            intro t x hx hf
            by_cases e : t = s
            · subst e; rw [upd_same] at hx; exact hx
            · rw [upd_ne _ _ e] at hx; exact e (h.dis t s x hx hf)
          have herr : (fun t => (upd (killδ G s δ) s (.lf .dead (δ s).ann) t).er) = upd (killS G s fun s => (δ s).er) s .dead := by rw [er_upd_kill h]; simp
          obtain ⟨δ2, F2, ds', Ff, hst2, her2, hann2, hok2, hmap, hmapa, hdis2, hown2, _, hcell⟩ := hst.tkL ds (Ok_agg_iff.1 hok) hals hH hdis (l := l) (τ := τ') (by rw [herr, hcs]; exact htl)
          refine ⟨δ2, F2, .agg ds', Ff, ⟨hst2, ?_, Ok_agg_iff.2 hok2, .agg _ fun i d hd => ?_, hdis2, ?_⟩, her2, by simp [hmap], by simp [argv, hds, hmapa]⟩
          · intro t; rw [hann2, ann_upd_kill h]; split
            · rename_i e; rw [e]; simp
            · rfl
          · exact AlOK_cells (by rw [hmap]; exact hcell) d (List.mem_of_getElem? hd)
          · intro x hx
            rcases hown2 x hx with ⟨t, hx'⟩ | hx'
            · by_cases e : t = s
              · subst e; rw [upd_same] at hx'; exact hx'.elim
              · rw [upd_ne _ _ e] at hx'; exact ⟨t, hx'⟩
            · exact ⟨s, hx'⟩
        · cases ht
    | sc v => simp only [hs, Option.some.injEq, Prod.mk.injEq] at ht; obtain ⟨rfl, rfl⟩ := ht; exact hcopy _ hs rfl
    | sl e k rows => simp only [hs, Option.some.injEq, Prod.mk.injEq] at ht; obtain ⟨rfl, rfl⟩ := ht; exact hcopy _ hs rfl
    | adr r p i j k => simp only [hs, Option.some.injEq, Prod.mk.injEq] at ht; obtain ⟨rfl, rfl⟩ := ht; exact hcopy _ hs rfl
    | fp cs => simp only [hs, Option.some.injEq, Prod.mk.injEq] at ht; obtain ⟨rfl, rfl⟩ := ht; exact hcopy _ hs rfl
    | tup cs => simp [hs] at ht
    | dead => simp [hs] at ht
    | un => simp [hs] at ht

theorem St.fzAt (h : St G w S δ Fr) {r : Nat} {p : List Step} {a : AV} {τ : Sg} (ht : Abs.fzAt G r p (fun s => (δ s).er) = some (a, τ)) :
    ∃ (δ' : Nat → DV) (F' : Nat → Nat → Prop) (Fo : Nat → Prop) (v : Value) (bx : Bool) (k : Nat) (rows : List (List DV)), St G w (fun x => S x ∨ Fo x) δ' F' ∧ (fun s => (δ' s).er) = τ ∧ (∀ s, (δ' s).ann = (δ s).ann) ∧ subD (δ r) p = some (.own v bx k rows) ∧ Fz w (fun x => S x ∨ Fo x) a v ∧
      a = frz (DV.own v bx k rows).er ∧ (∀ s x, F' s x → ¬ Fo x) ∧ (∀ x, Owned F' x ∨ Fo x → Owned Fr x) ∧ Hd δ δ' := by
  unfold Abs.fzAt at ht
  split at ht
  · rename_i b k rows hs
    split at ht
    · rename_i t hp
      simp only [Option.some.injEq, Prod.mk.injEq] at ht
      obtain ⟨rfl, rfl⟩ := ht
      obtain ⟨D, hD, hDe⟩ := subD_of_sub (h.ok r).lfy hs
      obtain ⟨Fo, ho, hsub, hrep⟩ := h.replace r p hD
      have hown : ∃ v bx k rows, D = .own v bx k rows := by
        have := ho.lfy
        cases D with
        | own v bx k rows => exact ⟨v, bx, k, rows, rfl⟩
        | lf a v => cases this with | lf _ _ hl => simp at hDe; subst hDe; simp [leafy] at hl
        | agg cs => simp at hDe
        | tup cs => simp at hDe
      obtain ⟨v, bx, k1, rows1, rfl⟩ := hown
      have hfz : Fz w (fun x => S x ∨ Fo x) (frz (.own b k rows)) v := by have := ho.freeze; rw [hDe] at this; simpa using this
      have hnew : Ok w (fun x => S x ∨ Fo x) (.lf (frz (.own b k rows)) v) (fun _ => False) := by
        refine .lf _ _ _ ?_ (fun _ h => h)
        cases b with
        | true => simp only [frz_box]; trivial
        | false => simp only [frz_vec] at hfz ⊢; exact hfz
      obtain ⟨td, F', htd, hst, hiff, hann⟩ := hrep (fun x => S x ∨ Fo x) (.lf (frz (.own b k rows)) v) (by simp) hnew (fun _ h => .inl h)
        (fun t b' hb hno hS => hS.elim ((h.ok t).notS b' hb) hno) (by intro L; cases b <;> simp) (.lf _ _ (by cases b <;> simp [AlLeaf]))
      have hte : td.er = t := by
        obtain ⟨t', h1, h2⟩ := putD_of_put (d := δ r) (p := p) (a := t) (.lf (frz (.own b k rows)) v) (h.ok r).lfy (by simpa using hp)
        rw [htd] at h1
        obtain rfl := Option.some.inj h1
        exact h2
      refine ⟨_, _, Fo, v, bx, k1, rows1, hst, by rw [er_upd_kill h, hte], ?_, hD, hfz, by rw [hDe], ?_, ?_, ?_⟩
      · intro s; rw [ann_upd_kill h]; split
        · rename_i e; rw [e, hann]
        · rfl
      · intro s x hx hF
        by_cases hs' : s = r
        · subst hs'; rw [upd_same] at hx; exact ((hiff x).1 hx).2 hF
        · rw [upd_ne _ _ hs'] at hx
          exact hs' (h.dis s r x hx (hsub x hF))
      · rintro x (⟨s, hx⟩ | hx)
        · by_cases hs' : s = r
          · subst hs'; rw [upd_same] at hx; exact ⟨s, ((hiff x).1 hx).1⟩
          · rw [upd_ne _ _ hs'] at hx; exact ⟨s, hx⟩
        · exact ⟨r, hsub x hx⟩
      · intro r' q v' bx' k' rows' hq
        by_cases e : r' = r
        · subst e
          rw [upd_same] at hq
          exact own_of_putD p htd q hq
        · rw [upd_ne _ _ e] at hq
          exact ⟨rows', own_of_killδ r r' q hq⟩
    · cases ht
  · cases ht

theorem St.wr (h : St G w S δ Fr) {dst : Dst} (hkl : dst.kl = G.als dst.d) (hrs : dst.rs = G.rtOf dst.d) {D : DV} {Ff : Nat → Prop} {σ' : Sg} (hw : ∀ b, S b → w'.heap[b]? = w.heap[b]?) (hf : ∀ s x, Fr s x → w'.heap[x]? = w.heap[x]?)
    (hSS : ∀ b, S b → S' b) (hfS : ∀ s x, Fr s x → ¬ S' x) (hD : Ok w' S' D Ff) (hdis : ∀ s x, Fr s x → ¬ Ff x) (hal : AlOK δ D) (hwr : Abs.wr dst D.er (fun s => (δ s).er) = some σ') :
    ∃ δ' F', St G w' S' δ' F' ∧ (fun s => (δ' s).er) = σ' ∧ (∀ s, (δ' s).ann = if s = dst.d then D.ann else (δ s).ann) ∧ (∀ x, Owned F' x → Owned Fr x ∨ Ff x) := by
  unfold Abs.wr at hwr
  split at hwr
  · rename_i hr
    simp only [Option.some.injEq] at hwr
    subst hwr
    refine ⟨_, _, h.set dst.d D Ff hw (fun s _ => hf s) hSS (fun s _ => hfS s) hD (fun s _ x hx hx' => hdis s x hx' hx) (hrs ▸ hr) hal, ?_, fun s => ann_upd_kill h dst.d D s, ?_⟩
    · rw [er_upd_kill h, hkl, kills_eq]
    · rintro x ⟨s, hx⟩
      by_cases e : s = dst.d
      · subst e; rw [upd_same] at hx; exact .inr hx
      · rw [upd_ne _ _ e] at hx; exact .inl ⟨s, hx⟩
  · cases hwr
end Go.Abs
namespace Go.Abs
variable {w w' : World} {S S' : Nat → Prop} {G : Gi} {δ : Nat → DV} {Fr : Nat → Nat → Prop} {P : Program}

def sameS : Value → Value → Bool
  | .bool a, .bool b => a == b
  | .int k a, .int k' b => decide (k = k') && decide (a = b)
  | .string a, .string b => decide (a.data = b.data)
  | .pointer none, .pointer none => true
  | .slice none 0 0, .slice none 0 0 => true
  | .nilFunc, .nilFunc => true
  | .nilIface, .nilIface => true
  | _, _ => false
def sameL : List Value → List Value → Bool
  | [], [] => true
  | a :: l, b :: r => sameS a b && sameL l r
  | _, _ => false
def sameV : Value → Value → Bool
  | .agg a, .agg b => sameL a.toList b.toList
  | a, b => sameS a b

theorem sameS_eq {a b : Value} (h : sameS a b = true) : a = b := by
  unfold sameS at h
  split at h <;> simp_all
  rename_i x y
  cases x; cases y; simp_all
theorem sameL_eq : ∀ {a b : List Value}, sameL a b = true → a = b
  | [], [], _ => rfl
  | [], _ :: _, h => by simp [sameL] at h
  | _ :: _, [], h => by simp [sameL] at h
  | a :: l, b :: r, h => by
    simp only [sameL, Bool.and_eq_true] at h
    rw [sameS_eq h.1, sameL_eq h.2]
theorem sameV_eq {a b : Value} (h : sameV a b = true) : a = b := by
  unfold sameV at h
  split at h
  · rename_i x y; have := sameL_eq h; rw [Value.agg.injEq]; exact Array.ext' this
  · exact sameS_eq h

def chkA (x : Operand) (y : Ar) : Bool :=
  match x, y with
  | .tmp s, .t s' => s == s'
  | .const v, .c a => match cstD a with
    | some D => sameV v D.ann
    | none => false
  | _, _ => false

def Rd (δ : Nat → DV) (a : Act) : Prop := ∀ s, a.tmps.getD s undef = (δ s).ann

theorem chkA_sound {x : Operand} {y : Ar} {a : Act} (h : chkA x y = true) (ha : Rd δ a) : ArOK y ∧ a.eval x = argv δ y := by
  unfold chkA at h
  split at h
  · simp only [beq_iff_eq] at h; subst h; exact ⟨trivial, ha _⟩
  · rename_i v c
    split at h
    · rename_i D hD
      exact ⟨⟨D, hD⟩, by simp [Act.eval, argv, hD, sameV_eq h]⟩
    · cases h
  · cases h

def chkL : List Operand → List Ar → Bool
  | [], [] => true
  | x :: l, y :: r => chkA x y && chkL l r
  | _, _ => false
def chkO : Option Operand → Option Ar → Bool
  | none, none => true
  | some x, some y => chkA x y
  | _, _ => false

def szOf (P : Program) (t : TypeId) : Option Nat := (P.info? t).map (·.size)
def isAggT (P : Program) (t : TypeId) : Option Bool := (P.underlying t).map fun | .struct _ => true | .array _ _ => true | _ => false

theorem run_sizeOf {t : TypeId} {n : Nat} (h : szOf P t = some n) (w : World) : (sizeOf t).run P w = .ok n w := by
  unfold szOf at h
  cases hi : P.info? t with
  | none => simp [hi] at h
  | some i => simp only [hi, Option.map_some, Option.some.injEq] at h; simp [sizeOf, typeInfo, hi, h]
theorem run_isAgg {t : TypeId} {b : Bool} (h : isAggT P t = some b) (w : World) : (isAgg t).run P w = .ok b w := by
  unfold isAggT at h
  cases hi : P.underlying t with
  | none => simp [hi] at h
  | some d => simp only [hi, Option.map_some, Option.some.injEq] at h; cases d <;> simp_all [isAgg, underlying]

theorem subD_append (t : DV) (p q : List Step) : subD t (p ++ q) = (subD t p).bind (subD · q) := by
  induction p generalizing t with
  | nil => simp [subD]
  | cons s p ih =>
    obtain ⟨i, j, k⟩ := s
    cases t with
    | lf a v => simp [subD]
    | own h b k1 rows =>
      simp only [List.cons_append, subD]
      cases rows[i]? with
      | none => rfl
      | some row => simp only []; cases row[j]? with
        | none => rfl
        | some c => exact ih c
    | agg cs => simp only [List.cons_append, subD]; cases cs[j]? with
      | none => rfl
      | some c => exact ih c
    | tup cs => simp only [List.cons_append, subD]; cases cs[j]? with
      | none => rfl
      | some c => exact ih c

theorem viewL_get (r : Nat) (p : List Step) (l : List AV) (i n : Nat) : (viewL r p i l)[n]? = (l[n]?).map (view r (p ++ [(0, i + n, 0)])) := by
  induction l generalizing i n with
  | nil => simp [viewL]
  | cons c cs ih =>
    cases n with
    | zero => simp [viewL]
    | succ n => simp only [viewL, List.getElem?_cons_succ, ih, Nat.add_assoc, Nat.add_comm 1 n]

theorem OkL_empty {ds : List DV} (h : ∀ d ∈ ds, Ok w S d (fun _ => False)) : OkL w S ds (fun _ => False) := by
  induction ds with
  | nil => exact fun _ h => h
  | cons d ds ih => exact ⟨_, _, h d (by simp), ih (fun e he => h e (by simp [he])), fun _ h => h.elim, fun x => by simp⟩

theorem mkList {α β : Type} (cs : List α) (Φ : Nat → α → β → Prop) (h : ∀ i c, cs[i]? = some c → ∃ D, Φ i c D) : ∃ Ds : List β, Ds.length = cs.length ∧ ∀ i c, cs[i]? = some c → ∃ D, Ds[i]? = some D ∧ Φ i c D := by
  induction cs generalizing Φ with
  | nil => exact ⟨[], rfl, by simp⟩
  | cons c cs ih =>
    obtain ⟨D, hD⟩ := h 0 c rfl
    obtain ⟨Ds, h1, h2⟩ := ih (fun i => Φ (i + 1)) (fun i c' hc => h (i + 1) c' (by simpa using hc))
    refine ⟨D :: Ds, by simp [h1], ?_⟩
    intro i c' hc
    cases i with
    | zero => simp only [List.getElem?_cons_zero, Option.some.injEq] at hc; subst hc; exact ⟨D, rfl, hD⟩
    | succ i => simp only [List.getElem?_cons_succ] at hc ⊢; exact h2 i c' hc

theorem mem_mk {α β : Type} {cs : List α} {Ds : List β} {Φ : Nat → α → β → Prop} (hl : Ds.length = cs.length) (h : ∀ i c, cs[i]? = some c → ∃ D, Ds[i]? = some D ∧ Φ i c D) (i : Nat) (D : β) (hD : Ds[i]? = some D) : ∃ c, cs[i]? = some c ∧ Φ i c D := by
  have hi : i < cs.length := by rw [← hl]; exact (List.getElem?_eq_some_iff.1 hD).1
  obtain ⟨D', h1, h2⟩ := h i cs[i] (List.getElem?_eq_getElem hi)
  rw [hD] at h1
  obtain rfl := Option.some.inj h1
  exact ⟨_, List.getElem?_eq_getElem hi, h2⟩

theorem map_mk {α β γ : Type} {cs : List α} {Ds : List β} {Φ : Nat → α → β → Prop} (hl : Ds.length = cs.length) (h : ∀ i c, cs[i]? = some c → ∃ D, Ds[i]? = some D ∧ Φ i c D) (f : β → γ) (l : List γ) (hll : l.length = cs.length)
    (hf : ∀ i c D, Φ i c D → cs[i]? = some c → l[i]? = some (f D)) : Ds.map f = l := by
  apply List.ext_getElem?
  intro i
  by_cases hi : i < cs.length
  · obtain ⟨D, h1, h2⟩ := h i cs[i] (List.getElem?_eq_getElem hi)
    rw [List.getElem?_map, h1, hf i _ D h2 (List.getElem?_eq_getElem hi)]
    rfl
  · rw [List.getElem?_eq_none (by simp; omega), List.getElem?_eq_none (by omega)]

theorem viewL_length (r : Nat) (p : List Step) (l : List AV) (i : Nat) : (viewL r p i l).length = l.length := by
  induction l generalizing i with
  | nil => simp [viewL]
  | cons c cs ih => simp [viewL, ih]

theorem viewD {t : DV} {F : Nat → Prop} (r : Nat) (h : Ok w S t F) : ∀ (p : List Step), subD (δ r) p = some t → AlOK δ t →
    ∃ D, D.er = view r p t.er ∧ D.ann = t.ann ∧ Ok w S D (fun _ => False) ∧ AlOK δ D := by
  induction h with
  | lf a v F ha hF =>
    intro p hp hal
    have hl := ha.leafy
    refine ⟨.lf a v, ?_, rfl, .lf a v _ ha (fun _ h => h), hal⟩
    cases a <;> simp_all [view, leafy]
  | nil k F hF =>
    intro p hp hal
    exact ⟨.lf (.al r p) (.slice none 0 0), by simp [view], by simp, .lf _ _ _ trivial (fun _ h => h), .lf _ _ ⟨_, _, _, hp⟩⟩
  | own bx k rows b c arr E Fs F hb hk hcap hSb hv hr hd hval hbF hF ih =>
    intro p hp hal
    exact ⟨.lf (.al r p) (hdr bx b rows.length c), by simp [view], by simp, .lf _ _ _ trivial (fun _ h => h), .lf _ _ ⟨_, _, _, hp⟩⟩
  | agg cs Fs F hr hd hval hF ih =>
    intro p hp hal
    cases hal with
    | agg _ hal =>
      obtain ⟨Ds, hl, hDs⟩ := mkList cs (fun i d D => D.er = view r (p ++ [(0, i, 0)]) d.er ∧ D.ann = d.ann ∧ Ok w S D (fun _ => False) ∧ AlOK δ D)
        (fun i d hd => ih i d hd _ (by rw [subD_append, hp]; simp [subD, hd]) (hal i d hd))
      refine ⟨.agg Ds, ?_, ?_, Ok_agg_iff.2 (OkL_empty fun D hD => ?_), .agg _ fun i D hD => ?_⟩
      · simp only [er_agg, view, AV.agg.injEq]
        refine map_mk hl hDs _ _ (by simp [viewL_length]) fun i c D hΦ hc => ?_
        rw [viewL_get, List.getElem?_map, hc]; simp [hΦ.1]
      · simp only [ann_agg]; congr 2
        exact map_mk hl hDs _ _ (by simp) fun i c D hΦ hc => by simp [hc, hΦ.2.1]
      · obtain ⟨i, hi⟩ := List.getElem?_of_mem hD
        obtain ⟨c, _, hΦ⟩ := mem_mk hl hDs i D hi
        exact hΦ.2.2.1
      · obtain ⟨c, _, hΦ⟩ := mem_mk hl hDs i D hD
        exact hΦ.2.2.2
  | tup cs Fs F hr hd hval hF ih =>
    intro p hp hal
    cases hal with
    | tup _ hal =>
      obtain ⟨Ds, hl, hDs⟩ := mkList cs (fun i d D => D.er = view r (p ++ [(0, i, 0)]) d.er ∧ D.ann = d.ann ∧ Ok w S D (fun _ => False) ∧ AlOK δ D)
        (fun i d hd => ih i d hd _ (by rw [subD_append, hp]; simp [subD, hd]) (hal i d hd))
      refine ⟨.tup Ds, ?_, ?_, Ok_tup_iff.2 (OkL_empty fun D hD => ?_), .tup _ fun i D hD => ?_⟩
      · simp only [er_tup, view, AV.tup.injEq]
        refine map_mk hl hDs _ _ (by simp [viewL_length]) fun i c D hΦ hc => ?_
        rw [viewL_get, List.getElem?_map, hc]; simp [hΦ.1]
      · simp only [ann_tup]; congr 2
        exact map_mk hl hDs _ _ (by simp) fun i c D hΦ hc => by simp [hc, hΦ.2.1]
      · obtain ⟨i, hi⟩ := List.getElem?_of_mem hD
        obtain ⟨c, _, hΦ⟩ := mem_mk hl hDs i D hi
        exact hΦ.2.2.1
      · obtain ⟨c, _, hΦ⟩ := mem_mk hl hDs i D hD
        exact hΦ.2.2.2

theorem viewC_length (r : Nat) (p : List Step) (i k j : Nat) (l : List AV) : (viewC r p i k j l).length = l.length := by
  induction l generalizing j with
  | nil => simp [viewC]
  | cons c cs ih => simp [viewC, ih]
theorem viewC_get (r : Nat) (p : List Step) (i k j n : Nat) (l : List AV) : (viewC r p i k j l)[n]? = (l[n]?).map (vC r p i (j + n) k) := by
  induction l generalizing j n with
  | nil => simp [viewC]
  | cons c cs ih =>
    cases n with
    | zero => simp [viewC]
    | succ n => simp only [viewC, List.getElem?_cons_succ, ih, Nat.add_assoc, Nat.add_comm 1 n]
theorem viewF_length (s j : Nat) (l : List AV) : (viewF s j l).length = l.length := by
  induction l generalizing j with
  | nil => simp [viewF]
  | cons c cs ih => simp [viewF, ih]
theorem viewF_get (s j n : Nat) (l : List AV) : (viewF s j l)[n]? = (l[n]?).map (vF s (j + n)) := by
  induction l generalizing j n with
  | nil => simp [viewF]
  | cons c cs ih =>
    cases n with
    | zero => simp [viewF]
    | succ n => simp only [viewF, List.getElem?_cons_succ, ih, Nat.add_assoc, Nat.add_comm 1 n]
end Go.Abs
namespace Go.Abs
variable {w w' : World} {S S' : Nat → Prop} {G : Gi} {δ : Nat → DV} {Fr : Nat → Nat → Prop} {P : Program}

def Lf (w : World) (S : Nat → Prop) (δ : Nat → DV) (a : AV) (v : Value) : Prop := ∃ D : DV, D.er = a ∧ D.ann = v ∧ Ok w S D (fun _ => False) ∧ AlOK δ D

theorem Lf.sc (v : Value) (h : plainV v = true) : Lf w S δ (.sc v) v := ⟨.lf (.sc v) v, by simp, by simp, .lf _ _ _ ⟨rfl, h⟩ (fun _ h => h), .lf _ _ trivial⟩
theorem Lf.al {r : Nat} {p : List Step} {v : Value} {bx : Bool} {k : Nat} {rows : List (List DV)} (h : subD (δ r) p = some (.own v bx k rows)) : Lf w S δ (.al r p) v :=
  ⟨.lf (.al r p) v, by simp, by simp, .lf _ _ _ trivial (fun _ h => h), .lf _ _ ⟨_, _, _, h⟩⟩
theorem Lf.adr {r : Nat} {p : List Step} {i j k b : Nat} {v : Value} {bx : Bool} {rows : List (List DV)} (h : subD (δ r) p = some (.own v bx k rows)) (hb : hblk v = some b) : Lf w S δ (.adr r p i j k) (.pointer (some ⟨b, i * k + j, none⟩)) :=
  ⟨.lf (.adr r p i j k) _, by simp, by simp, .lf _ _ _ trivial (fun _ h => h), .lf _ _ ⟨_, _, _, _, h, hb, rfl⟩⟩
theorem Lf.fp {cs : List AV} {b off : Nat} (hS : S b) (h : ∀ (j : Nat) a, cs[j]? = some a → ∃ u, w.cell? ⟨b, off + j, none⟩ = some u ∧ Fz w S a u) : Lf w S δ (.fp cs) (.pointer (some ⟨b, off, none⟩)) :=
  ⟨.lf (.fp cs) _, by simp, by simp, .lf _ _ _ ⟨b, off, rfl, hS, h⟩ (fun _ h => h), .lf _ _ trivial⟩

theorem St.leaf (h : St G w S δ Fr) {s : Nat} {a : AV} (hs : (δ s).er = a) (hl : leafy a = true) : δ s = .lf a (δ s).ann ∧ LeafOK w S a (δ s).ann ∧ AlLeaf δ a (δ s).ann := by
  have hok := h.ok s
  have hal := h.al s
  cases hd : δ s with
  | lf b v =>
    rw [hd] at hs hok hal
    simp only [er_lf] at hs
    subst hs
    cases hok with
    | lf _ _ _ ha _ => cases hal with | lf _ _ hl => exact ⟨by simp, ha, hl⟩
  | own => rw [hd] at hs; simp at hs; subst hs; simp [leafy] at hl
  | agg => rw [hd] at hs; simp at hs; subst hs; simp [leafy] at hl
  | tup => rw [hd] at hs; simp at hs; subst hs; simp [leafy] at hl

theorem St.argSc (h : St G w S δ Fr) {x : Ar} (hx : ArOK x) {v : Value} (ha : ar (fun s => (δ s).er) x = .sc v) : argv δ x = v ∧ plainV v = true := by
  cases x with
  | t s =>
    obtain ⟨_, h2, _⟩ := h.leaf (s := s) ha rfl
    exact ⟨h2.1, h2.2⟩
  | c a =>
    obtain ⟨D, hD⟩ := hx
    simp only [ar] at ha
    subst ha
    simp only [cstD] at hD
    split at hD
    · rename_i hp
      obtain rfl := Option.some.inj hD
      exact ⟨by simp [argv, cstD, hp], hp⟩
    · cases hD

theorem asI_sc {a : AV} {n : Int} (h : asI a = some n) : ∃ k, a = .sc (.int k n) := by
  unfold asI at h
  split at h
  · simp only [Option.some.injEq] at h; subst h; exact ⟨_, rfl⟩
  · cases h

theorem St.node (h : St G w S δ Fr) {s r : Nat} {p : List Step} (hs : (δ s).er = .al r p) {bx : Bool} {k : Nat} {rows : List (List AV)} (hn : sub (δ r).er p = some (.own bx k rows)) :
    ∃ rowsD F, subD (δ r) p = some (.own (δ s).ann bx k rowsD) ∧ rowsD.map (·.map DV.er) = rows ∧ Ok w S (.own (δ s).ann bx k rowsD) F := by
  obtain ⟨_, _, hal⟩ := h.leaf hs rfl
  obtain ⟨bx', k', rows', hl⟩ := hal
  obtain ⟨D, hD, hDe⟩ := subD_of_sub (h.ok r).lfy hn
  rw [hl] at hD
  obtain rfl := Option.some.inj hD
  simp only [er_own, AV.own.injEq] at hDe
  obtain ⟨rfl, rfl, h3⟩ := hDe
  obtain ⟨F, hF, _⟩ := (h.ok r).subD hl
  exact ⟨rows', F, hl, h3, hF⟩

theorem St.nodeS (h : St G w S δ Fr) {s : Nat} {bx : Bool} {k : Nat} {rows : List (List AV)} (hs : (δ s).er = .own bx k rows) :
    ∃ rowsD, δ s = .own (δ s).ann bx k rowsD ∧ rowsD.map (·.map DV.er) = rows := by
  have := (h.ok s).lfy
  cases hd : δ s with
  | own v b k' rows' => rw [hd] at hs; simp only [er_own, AV.own.injEq] at hs; obtain ⟨rfl, rfl, h3⟩ := hs; exact ⟨rows', by simp, h3⟩
  | lf b v => rw [hd] at hs this; cases this with | lf _ _ hl => simp at hs; subst hs; simp [leafy] at hl
  | agg => rw [hd] at hs; simp at hs
  | tup => rw [hd] at hs; simp at hs

theorem St.adrOf (h : St G w S δ Fr) {s r i j k : Nat} {p : List Step} (ha : Abs.adrOf (fun s => (δ s).er) (.t s) = some (r, p, i, j, k)) :
    ∃ v bx rowsD b F, subD (δ r) p = some (.own v bx k rowsD) ∧ hblk v = some b ∧ (δ s).ann = .pointer (some ⟨b, i * k + j, none⟩) ∧ Ok w S (.own v bx k rowsD) F ∧ (∀ x, F x → Fr r x) := by
  simp only [Abs.adrOf] at ha
  cases hs : (δ s).er with
  | adr r' p' i' j' k' =>
    simp only [hs, Option.some.injEq, Prod.mk.injEq] at ha
    obtain ⟨rfl, rfl, rfl, rfl, rfl⟩ := ha
    obtain ⟨_, _, hal⟩ := h.leaf hs rfl
    obtain ⟨v, bx, rows, b, hl, hb, he⟩ := hal
    obtain ⟨F, hF, hsub⟩ := (h.ok _).subD hl
    exact ⟨v, bx, rows, b, F, hl, hb, he, hF, hsub⟩
  | own bx k' rows =>
    cases bx with
    | false => simp [hs] at ha
    | true =>
      simp only [hs, Option.some.injEq, Prod.mk.injEq] at ha
      obtain ⟨rfl, rfl, rfl, rfl, rfl⟩ := ha
      obtain ⟨rowsD, hd, _⟩ := h.nodeS hs
      have hok := h.ok s
      rw [hd] at hok
      generalize hv : (δ s).ann = v at *
      cases hok with
      | own _ _ _ b c arr E Fs _ hb hk hcap hSb hv' hr hdd hval hbF hF =>
        exact ⟨hdr true b rowsD.length c, true, rowsD, b, Fr s, by simp [subD, hd], by simp, by simp [hdr], by rw [← hd]; exact h.ok s, fun x hx => hx⟩
  | al r' p' =>
    simp only [hs] at ha
    split at ha
    · rename_i k' rows' hn
      simp only [Option.some.injEq, Prod.mk.injEq] at ha
      obtain ⟨rfl, rfl, rfl, rfl, rfl⟩ := ha
      obtain ⟨rowsD, F, hl, _, hF⟩ := h.node hs hn
      obtain ⟨F2, hF2, hsub⟩ := (h.ok _).subD hl
      generalize hv : (δ s).ann = v at *
      cases hF2 with
      | own _ _ _ b c arr E Fs _ hb hk hcap hSb hv' hr hdd hval hbF hF' =>
        exact ⟨hdr true b rowsD.length c, true, rowsD, b, F2, hl, by simp, by simp [hdr], .own true _ _ b c arr E Fs _ hb hk hcap hSb hv' hr hdd hval hbF hF', hsub⟩
    · cases ha
  | _ => simp [hs] at ha

theorem run_loadVar {t : TypeId} {g : Bool} {n b off : Nat} {vs : List Value} (hn : szOf P t = some n) (hg : isAggT P t = some g) (h1 : g = true ∨ n = 1) (hl : vs.length = n) (hc : ∀ (j : Nat) v, vs[j]? = some v → w.cell? ⟨b, off + j, none⟩ = some v) :
    (loadVar t ⟨b, off, none⟩).run P w = .ok (if g = true then .agg vs.toArray else vs.headD undef) w := by
  cases g with
  | true =>
    have := run_loadCells_list (P := P) w ⟨b, off, none⟩ vs (fun j v hv => by rw [Addr.add_lit]; exact hc j v hv)
    rw [hl] at this
    simp [loadVar, run_isAgg hg, run_sizeOf hn, this]
  | false =>
    obtain rfl := h1.resolve_left (by simp)
    match vs, hl with
    | [v], _ =>
      have h0 := hc 0 v rfl
      simp only [Nat.add_zero] at h0
      simp [loadVar, run_isAgg hg, h0]

theorem gather {agg : Bool} {n : Nat} {cs : List AV} {v : AV} (hv : asCells agg n cs = some v) (Ds : List DV) (he : Ds.map DV.er = cs) (hok : ∀ D ∈ Ds, Ok w S D (fun _ => False)) (hal : ∀ D ∈ Ds, AlOK δ D) :
    cs.length = n ∧ Lf w S δ v (if agg = true then .agg (Ds.map DV.ann).toArray else (Ds.map DV.ann).headD undef) := by
  unfold asCells at hv
  split at hv
  · rename_i hn
    refine ⟨hn, ?_⟩
    cases agg with
    | true =>
      simp only [if_true, Option.some.injEq] at hv
      subst hv
      exact ⟨.agg Ds, by simp [he], by simp, Ok_agg_iff.2 (OkL_empty hok), .agg _ fun i d hd => hal d (List.mem_of_getElem? hd)⟩
    | false =>
      simp only [Bool.false_eq_true, if_false] at hv
      split at hv
      · rename_i c
        simp only [Option.some.injEq] at hv
        subst hv
        match Ds, he with
        | [D], he =>
          simp only [List.map_cons, List.map_nil, List.cons.injEq, and_true] at he
          exact ⟨D, he, by simp, hok D (by simp), hal D (by simp)⟩
      · cases hv
  · cases hv

theorem frozenLeaf {a : AV} {v : Value} (h : Fz w S a v) : ∃ D : DV, D.er = plainC a ∧ D.ann = v ∧ Ok w S D (fun _ => False) ∧ AlOK δ D := by
  cases h with
  | sc v hp => exact ⟨.lf (.sc v) v, by simp [plainC], by simp, .lf _ _ _ ⟨rfl, hp⟩ (fun _ h => h), .lf _ _ trivial⟩
  | nil x k a c hx => exact ⟨.lf (.sl x k []) _, by simp [plainC], by simp, .lf _ _ _ (Fz.nil x k a c hx) (fun _ h => h), .lf _ _ trivial⟩
  | sl x k rows b off c vs hx hlc hS hk hc hr => exact ⟨.lf (.sl x k rows) _, by simp [plainC], by simp, .lf _ _ _ (Fz.sl x k rows b off c vs hx hlc hS hk hc hr) (fun _ h => h), .lf _ _ trivial⟩
  | dead => exact ⟨.lf .dead v, by simp [plainC], by simp, .lf _ _ _ trivial (fun _ h => h), .lf _ _ trivial⟩
  | agg cs vs => exact ⟨.lf .dead _, by simp [plainC], rfl, .lf _ _ _ trivial (fun _ h => h), .lf _ _ trivial⟩
  | tup cs vs => exact ⟨.lf .dead _, by simp [plainC], rfl, .lf _ _ _ trivial (fun _ h => h), .lf _ _ trivial⟩
end Go.Abs
namespace Go.Abs
variable {w w' : World} {S S' : Nat → Prop} {G : Gi} {δ : Nat → DV} {Fr : Nat → Nat → Prop} {P : Program}

def Gives (P : Program) (w : World) (S : Nat → Prop) (δ : Nat → DV) (a : Act) (o : Oper) (v : AV) : Prop :=
  ∃ u, (execOp a.eval o).run P w = .ok (.value u) w ∧ Lf w S δ v u

theorem gives_cp (h : St G w S δ Fr) {a : Act} (ha : Rd δ a) {o : Oper} {x : Operand} {y : Ar} (ho : o.op = .move x) (hc : chkA x y = true) {v : AV} (hv : valOf (.cp y) (fun s => (δ s).er) = some v) : Gives P w S δ a o v := by
  obtain ⟨hy, he⟩ := chkA_sound hc ha
  refine ⟨argv δ y, by simp [execOp, ho, he], ?_⟩
  cases y with
  | t s =>
    simp only [valOf, Option.some.injEq] at hv
    subst hv
    obtain ⟨D, h1, h2, h3, h4⟩ := viewD (δ := δ) s (h.ok s) [] (by simp [subD]) (h.al s)
    exact ⟨D, h1, h2, h3, h4⟩
  | c c =>
    simp only [valOf, Option.some.injEq] at hv
    subst hv
    obtain ⟨D, hD⟩ := hy
    obtain ⟨h1, h2, h3, _⟩ := cst_facts (w := w) (S := S) (δ := δ) c D hD
    exact ⟨D, h1, by simp [argv, hD], h2, h3⟩

theorem gives_pick (h : St G w S δ Fr) {a : Act} (ha : Rd δ a) {o : Oper} {c x y : Operand} {c' x' y' : Ar} (ho : o.op = .pick c x y) (h1 : chkA c c' = true) (h2 : chkA x x' = true) (h3 : chkA y y' = true) {v : AV}
    (hv : valOf (.pick c' x' y') (fun s => (δ s).er) = some v) : Gives P w S δ a o v := by
  obtain ⟨hc, ec⟩ := chkA_sound h1 ha
  obtain ⟨hx, ex⟩ := chkA_sound h2 ha
  obtain ⟨hy, ey⟩ := chkA_sound h3 ha
  simp only [valOf] at hv
  split at hv
  · rename_i b hb
    obtain ⟨e1, _⟩ := h.argSc hc hb
    split at hv
    · rename_i u hu
      simp only [Option.some.injEq] at hv
      subst hv
      refine ⟨u, ?_, ?_⟩
      · cases b with
        | true => have := (h.argSc hx (by simpa using hu)).1; simp [execOp, ho, ec, e1, asBool, ex, this]
        | false => have := (h.argSc hy (by simpa using hu)).1; simp [execOp, ho, ec, e1, asBool, ey, this]
      · cases b with
        | true => exact Lf.sc u (h.argSc hx (by simpa using hu)).2
        | false => exact Lf.sc u (h.argSc hy (by simpa using hu)).2
    · cases hv
  · cases hv

theorem node_cells {v : Value} {bx : Bool} {k : Nat} {rows : List (List DV)} {F : Nat → Prop} (h : Ok w S (.own v bx k rows) F) {r : Nat} {p : List Step} (hs : subD (δ r) p = some (.own v bx k rows)) {b : Nat} (hb : hblk v = some b) {i : Nat} {row : List DV}
    (hi : rows[i]? = some row) (j n : Nat) :
    ∃ Ds : List DV, Ds.map DV.er = viewC r p i k j (((row.map DV.er).drop j).take n) ∧ (∀ D ∈ Ds, Ok w S D (fun _ => False)) ∧ (∀ D ∈ Ds, AlOK δ D) ∧ (∀ (m : Nat) u, (Ds.map DV.ann)[m]? = some u → w.cell? ⟨b, i * k + j + m, none⟩ = some u) := by
  generalize hvv : v = v' at h
  cases h with
  | nil => simp at hi
  | own _ _ _ b' c arr E Fs _ hbb hk hcap hSb hv hr hd hval hbF hF =>
    subst hvv
    simp only [hblk_hdr, Option.some.injEq] at hb
    subst hb
    obtain ⟨Ds, hl, hDs⟩ := mkList ((row.drop j).take n) (fun m d D => D.er = vC r p i (j + m) k d.er ∧ D.ann = d.ann ∧ Ok w S D (fun _ => False) ∧ AlOK δ D ∧ w.cell? ⟨b', i * k + j + m, none⟩ = some D.ann) (by
      intro m d hd'
      have hd2 : row[j + m]? = some d := by
        rw [List.getElem?_take] at hd'
        split at hd'
        · simpa using hd'
        · cases hd'
      have hok := hr i (j + m) row d hi hd2
      have hcell : w.cell? ⟨b', i * k + j + m, none⟩ = some d.ann := by
        simp only [World.cell?, hbb]
        have := hv i (j + m) row d hi hd2
        rw [show i * k + j + m = i * k + (j + m) from by omega]
        simpa using this
      cases hok with
      | lf a v _ ha hFF =>
        have hl := ha.leafy
        cases a with
        | sc u => exact ⟨.lf (.sc u) v, by simp [vC], by simp, .lf _ _ _ ha (fun _ h => h), .lf _ _ trivial, hcell⟩
        | sl x k' rows' => exact ⟨.lf (.sl x k' rows') v, by simp [vC], by simp, .lf _ _ _ ha (fun _ h => h), .lf _ _ trivial, hcell⟩
        | own => simp [leafy] at hl
        | agg => simp [leafy] at hl
        | tup => simp [leafy] at hl
        | _ => exact ⟨.lf .dead v, by simp [vC], by simp, .lf _ _ _ trivial (fun _ h => h), .lf _ _ trivial, by simpa using hcell⟩
      | nil k' _ hFF => exact ⟨.lf (.al r (p ++ [(i, j + m, k)])) (.slice none 0 0), by simp [vC], by simp, .lf _ _ _ trivial (fun _ h => h), .lf _ _ ⟨false, k', [], by rw [subD_append, hs]; simp [subD, hi, hd2]⟩, by simpa using hcell⟩
      | own bx' k' rows' b'' c' arr' E' Fs' _ g1 g2 g3 g4 g5 g6 g7 g8 g9 g10 =>
        exact ⟨.lf (.al r (p ++ [(i, j + m, k)])) (hdr bx' b'' rows'.length c'), by simp [vC], by simp, .lf _ _ _ trivial (fun _ h => h), .lf _ _ ⟨bx', k', rows', by rw [subD_append, hs]; simp [subD, hi, hd2]⟩, by simpa using hcell⟩
      | agg cs => exact ⟨.lf .dead (.agg (cs.map DV.ann).toArray), by simp [vC], by simp, .lf _ _ _ trivial (fun _ h => h), .lf _ _ trivial, by simpa using hcell⟩
      | tup cs => exact ⟨.lf .dead (.tuple (cs.map DV.ann).toArray), by simp [vC], by simp, .lf _ _ _ trivial (fun _ h => h), .lf _ _ trivial, by simpa using hcell⟩)
    refine ⟨Ds, ?_, ?_, ?_, ?_⟩
    · refine map_mk hl hDs _ _ (by simp [viewC_length]) fun m d D hΦ hd' => ?_
      rw [viewC_get, ← List.map_drop, ← List.map_take, List.getElem?_map, hd']
      simp [hΦ.1]
    · intro D hD; obtain ⟨m, hm⟩ := List.getElem?_of_mem hD; obtain ⟨c, _, hΦ⟩ := mem_mk hl hDs m D hm; exact hΦ.2.2.1
    · intro D hD; obtain ⟨m, hm⟩ := List.getElem?_of_mem hD; obtain ⟨c, _, hΦ⟩ := mem_mk hl hDs m D hm; exact hΦ.2.2.2.1
    · intro m u hu
      rw [List.getElem?_map, Option.map_eq_some_iff] at hu
      obtain ⟨D, hD, rfl⟩ := hu
      obtain ⟨c, _, hΦ⟩ := mem_mk hl hDs m D hD
      exact hΦ.2.2.2.2

theorem gives_ld (h : St G w S δ Fr) {a : Act} (ha : Rd δ a) {o : Oper} {t : TypeId} {x : Operand} {g : Bool} {n : Nat} {y : Ar} (ho : o.op = .load t x) (hn : szOf P t = some n) (hg : isAggT P t = some g) (hg1 : g = true ∨ n = 1) (hc : chkA x y = true) {v : AV}
    (hv : valOf (.ld g n y) (fun s => (δ s).er) = some v) : Gives P w S δ a o v := by
  obtain ⟨hy, he⟩ := chkA_sound hc ha
  cases y with
  | c c => simp [valOf] at hv
  | t s =>
    have key : ∀ (b off : Nat) (Ds : List DV), (δ s).ann = .pointer (some ⟨b, off, none⟩) → asCells g n (Ds.map DV.er) = some v → (∀ D ∈ Ds, Ok w S D (fun _ => False)) → (∀ D ∈ Ds, AlOK δ D) →
        (∀ (m : Nat) u, (Ds.map DV.ann)[m]? = some u → w.cell? ⟨b, off + m, none⟩ = some u) → Gives P w S δ a o v := by
      intro b off Ds hp hcs hok hal hcell
      obtain ⟨hlen, hlf⟩ := gather hcs Ds rfl hok hal
      refine ⟨_, ?_, hlf⟩
      have := run_loadVar (P := P) (w := w) (b := b) (off := off) (vs := Ds.map DV.ann) hn hg hg1 (by simpa using hlen) hcell
      simp only [execOp, ho, he, argv, hp, Instr.loadAt, Instr.sureAddr, Sem.run_bind, Sem.run_pure, Result.andThen_ok, this]
    simp only [valOf] at hv
    cases hs : (δ s).er with
    | fp cs =>
      simp only [hs] at hv
      obtain ⟨_, h2, _⟩ := h.leaf hs rfl
      obtain ⟨b, off, hp, hS, hcell⟩ := h2
      obtain ⟨Ds, hl, hDs⟩ := mkList (cs.take n) (fun m c D => D.er = plainC c ∧ w.cell? ⟨b, off + m, none⟩ = some D.ann ∧ Ok w S D (fun _ => False) ∧ AlOK δ D) (by
        intro m c hm
        rw [List.getElem?_take] at hm
        split at hm
        · obtain ⟨u, hu, hf⟩ := hcell m c hm
          obtain ⟨D, h1, h2, h3, h4⟩ := frozenLeaf (δ := δ) hf
          exact ⟨D, h1, by rw [h2]; exact hu, h3, h4⟩
        · cases hm)
      refine key b off Ds hp ?_ ?_ ?_ ?_
      · rw [← hv]; congr 1
        exact map_mk hl hDs _ _ (by simp) fun i c D hΦ hc => by simp only [List.getElem?_map, hc, Option.map_some, hΦ.1]
      · intro D hD; obtain ⟨m, hm⟩ := List.getElem?_of_mem hD; obtain ⟨c, _, hΦ⟩ := mem_mk hl hDs m D hm; exact hΦ.2.2.1
      · intro D hD; obtain ⟨m, hm⟩ := List.getElem?_of_mem hD; obtain ⟨c, _, hΦ⟩ := mem_mk hl hDs m D hm; exact hΦ.2.2.2
      · intro m u hu
        rw [List.getElem?_map, Option.map_eq_some_iff] at hu
        obtain ⟨D, hD, rfl⟩ := hu
        obtain ⟨c, _, hΦ⟩ := mem_mk hl hDs m D hD
        exact hΦ.2.1
    | _ =>
      simp only [hs] at hv
      split at hv
      · rename_i r p i j k hadr
        obtain ⟨vh, bx, rowsD, b, F, hsub, hb, hp, hok, _⟩ := h.adrOf hadr
        split at hv
        · rename_i bx' k' rows hn'
          obtain ⟨D, hD, hDe⟩ := subD_of_sub (h.ok r).lfy hn'
          rw [hsub] at hD
          obtain rfl := Option.some.inj hD
          simp only [er_own, AV.own.injEq] at hDe
          obtain ⟨rfl, rfl, rfl⟩ := hDe
          split at hv
          · rename_i row hrow
            rw [List.getElem?_map, Option.map_eq_some_iff] at hrow
            obtain ⟨rowD, hrD, rfl⟩ := hrow
            obtain ⟨Ds, h1, h2, h3, h4⟩ := node_cells hok hsub hb hrD j n
            exact key b (i * k + j) Ds hp (by rw [h1]; exact hv) h2 h3 h4
          · cases hv
        · cases hv
      · cases hv
end Go.Abs
