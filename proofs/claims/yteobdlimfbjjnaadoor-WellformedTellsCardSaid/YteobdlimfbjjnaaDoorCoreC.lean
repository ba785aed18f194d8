/- A calculus of abstract states of Go memory, and that it is sound (part C). -/
import Derived.Test.YteobdlimfbjjnaaDoorCoreB
import Derived.Laws.Sem
set_option linter.unusedSimpArgs false
set_option linter.unusedVariables false
namespace Go.Abs
variable {w w' : World} {S S' : Nat → Prop} {G : Gi} {δ : Nat → DV} {Fr : Nat → Nat → Prop} {P : Program}
theorem run_equalIn_nil (d : Nat) (t e : TypeId) (a : Option Addr) (n c : Nat) (h : P.underlying t = some (.slice e)) : (Op.equalIn (d + 1) t (.slice a n c) (.slice none 0 0)).run P w = .ok a.isNone w := by
 have hu : (underlying t).run P w = .ok (.slice e) w := run_underlying h w
 cases a <;> simp [Op.equalIn, hu]
theorem run_eql_nil (t e : TypeId) (a : Option Addr) (n c : Nat) (h : P.underlying t = some (.slice e)) : (binOp .eql t (.slice a n c) (.slice none 0 0)).run P w = .ok (.bool a.isNone) w := by
 simp only [binOp]
 have : (Op.equal t (.slice a n c) (.slice none 0 0)).run P w = .ok a.isNone w := run_equalIn_nil 9999 t e a n c h
 simp [this]
theorem run_neq_nil (t e : TypeId) (a : Option Addr) (n c : Nat) (h : P.underlying t = some (.slice e)) : (binOp .neq t (.slice a n c) (.slice none 0 0)).run P w = .ok (.bool (!a.isNone)) w := by
 simp only [binOp]
 have : (Op.equal t (.slice a n c) (.slice none 0 0)).run P w = .ok a.isNone w := run_equalIn_nil 9999 t e a n c h
 simp [this]
def chkNil (P : Program) (o : Op) (neg : Bool) (y : Ar) : Bool := match o with
 | .binOp op t x (.const (.slice none 0 0)) _ => (match op with | .eql => !neg | .neq => neg | _ => false) && (match P.underlying t with | some (.slice _) => true | _ => false) && chkA x y
 | _ => false
theorem nilq_sound {n : Nat} {w0 : World} {S0 U0 : Nat → Prop} {a : Act} {σ : Sg} (h : Rel G n w0 S0 U0 a w σ) {o : Oper} {d : Dst} {neg : Bool} {x : Ar} {K : Sg → Prop} {rows : List (List AV)} {hv : AV} {pl : Option (Nat × List Step)} (hc : chkNil P o.op neg x = true) (hdt : chkDst G n o.dst (some d) = true)
 (hh : hd σ x = some (hv, pl)) (hrows : rowsOf hv = some rows) (hK : ∀ b : Bool, (b = true → rows = []) → toDst (some d) (.sc (.bool (if neg = true then !b else b))) K σ) (Q : Exit → Act → World → Prop) :
 o.wp P a w (fun a' w' => ∃ σ', Rel G n w0 S0 U0 a' w' σ' ∧ K σ') Q := by
 obtain ⟨S, δ, Fr, hn, hdef, ha, rfl, hst, hnx, hSlt⟩ := h
 unfold chkNil at hc
 split at hc
 · rename_i op t x' u ho
   simp only [Bool.and_eq_true] at hc
   obtain ⟨⟨h1, h2⟩, h3⟩ := hc
   obtain ⟨hx, ex⟩ := chkA_sound h3 ha
   obtain ⟨e, he⟩ : ∃ e, P.underlying t = some (.slice e) := by
    split at h2
    · exact ⟨_, ‹_›⟩
    · cases h2
   -- the slice's own value
   obtain ⟨ad, l, c, hval, hnil⟩ : ∃ ad l c, argv δ x = .slice ad l c ∧ (ad.isNone = true → rows = []) := by
    obtain ⟨g1, g2⟩ := hst.hdD hx hh
    cases hv with
    | own b k rows' =>
     cases b with
     | true => simp [rowsOf] at hrows
     | false =>
      simp only [rowsOf, Option.some.injEq] at hrows
      subst hrows
      obtain ⟨rowsD, F, e1, hok, _⟩ := g1 _ _ _ rfl
      generalize argv δ x = v at hok
      cases hok with
      | nil => exact ⟨none, 0, 0, rfl, fun _ => by rw [← e1]; rfl⟩
      | own _ _ _ b c arr E Fs _ hb hk hcap hSb hvv hr hdd hval hbF hF => exact ⟨_, _, _, by simp [hdr]; exact ⟨rfl, rfl, rfl⟩, by simp⟩
    | sl e' k rows' =>
     simp only [rowsOf, Option.some.injEq] at hrows
     subst hrows
     obtain ⟨s, hs1, hs2⟩ := hst.hdSl hx hh
     have hfz := g2 _ _ _ rfl ⟨s, hs1, hs2⟩
     generalize argv δ x = v at hfz
     cases hfz with
     | nil => exact ⟨_, _, _, rfl, fun _ => rfl⟩
     | sl => exact ⟨_, _, _, rfl, by simp⟩
    | _ => simp [rowsOf] at hrows
   have hb : (execOp a.eval o).run P w = .ok (.value (.bool (if neg = true then !ad.isNone else ad.isNone))) w := by
    have hg : ∀ op, (eqGuard op t x' (.const (.slice none 0 0)) (.slice ad l c) (.slice none 0 0)).run P w = .ok () w := by intro op; cases op <;> simp [eqGuard]
    have hev : a.eval (.const (.slice none 0 0)) = .slice none 0 0 := rfl
    cases op <;> simp only [Bool.false_eq_true] at h1
    · have : neg = false := by simpa using h1
      subst this
      simp only [execOp, ho, ex, hval, hev, Sem.run_bind, hg, Result.andThen_ok, run_eql_nil t e ad l c he, Sem.run_pure, Bool.false_eq_true, if_false]
    · subst h1
      simp only [execOp, ho, ex, hval, hev, Sem.run_bind, hg, Result.andThen_ok, run_neq_nil t e ad l c he, Sem.run_pure, if_true]
   have hk := hK ad.isNone hnil
   have hdd := chkDst_ok hdt hn
   unfold Oper.wp
   rw [hb, Oper.upon_value]
   exact call_end (S2 := S) (D := .lf (.sc (.bool (if neg = true then !ad.isNone else ad.isNone))) (.bool (if neg = true then !ad.isNone else ad.isNone))) (FD := fun _ => False) hst hn hdef ha hdd (by simp) (fun _ _ => rfl) hSlt (fun _ h => h) (fun _ h => .inl h) hSlt (.lf _ _ _ ⟨rfl, rfl⟩ (fun _ h => h)) (fun _ h => h.elim) (.lf _ _ trivial) hnx rfl rfl rfl (Nat.le_refl _) hk
 · cases hc
theorem plc_sound (h : St G w S δ Fr) {x : Ar} {r : Nat} {p : List Step} {b : Bool} {k : Nat} {rows : List (List AV)} (hp : plc (fun s => (δ s).er) x = some (r, p)) (hs : sub (δ r).er p = some (.own b k rows)) :
 ∃ rowsD, subD (δ r) p = some (.own (argv δ x) b k rowsD) ∧ (DV.own (argv δ x) b k rowsD).er = .own b k rows := by
 obtain ⟨D, hD, hDe⟩ := subD_of_sub (h.ok r).lfy hs
 have hown : ∃ v rowsD, D = .own v b k rowsD := by
  have := (h.ok r).lfy.subD hD
  cases D with
  | own v bx k' rows' => simp only [er_own, AV.own.injEq] at hDe; obtain ⟨rfl, rfl, _⟩ := hDe; exact ⟨v, rows', rfl⟩
  | lf a v => cases this with | lf _ _ hl => simp at hDe; subst hDe; simp [leafy] at hl
  | agg cs => simp at hDe
  | tup cs => simp at hDe
 obtain ⟨v, rowsD, rfl⟩ := hown
 unfold plc at hp
 split at hp
 · rename_i s
   split at hp
   · rename_i r' p' hs'
     simp only [Option.some.injEq, Prod.mk.injEq] at hp
     obtain ⟨rfl, rfl⟩ := hp
     obtain ⟨e1, _, hal⟩ := h.leaf hs' rfl
     obtain ⟨bx, k', rows', hl⟩ := hal
     rw [hD] at hl
     simp only [Option.some.injEq, DV.own.injEq] at hl
     obtain ⟨rfl, rfl, rfl, rfl⟩ := hl
     exact ⟨_, hD, hDe⟩
   · simp only [Option.some.injEq, Prod.mk.injEq] at hp
     obtain ⟨rfl, rfl⟩ := hp
     simp only [subD, Option.some.injEq] at hD
     refine ⟨rowsD, ?_, ?_⟩
     · simp [subD, argv, hD]
     · rw [← hDe]; simp
   · cases hp
 · cases hp
theorem rdSc_sound (h : St G w S δ Fr) {a : Act} (ha : Rd δ a) (ys : List Ar) : ∀ {xs : List Operand} {as : List AV}, chkL xs ys = true → rdSc (fun s => (δ s).er) ys = some as →
 ∃ vs : List Value, as = vs.map .sc ∧ xs.map a.eval = vs ∧ ∀ v ∈ vs, plainV v = true := by
 induction ys with
 | nil =>
  intro xs as hc hr
  cases xs with
  | nil => simp only [rdSc, Option.some.injEq] at hr; exact ⟨[], hr.symm, rfl, by simp⟩
  | cons => simp [chkL] at hc
 | cons y ys ih =>
  intro xs as hc hr
  cases xs with
  | nil => simp [chkL] at hc
  | cons x xs =>
   simp only [chkL, Bool.and_eq_true] at hc
   simp only [rdSc] at hr
   split at hr
   · rename_i v l hv hl
     simp only [Option.some.injEq] at hr
     subst hr
     obtain ⟨vs, e1, e2, e3⟩ := ih hc.2 hl
     obtain ⟨hy, ey⟩ := chkA_sound hc.1 ha
     obtain ⟨g1, g2⟩ := h.argSc hy hv
     refine ⟨v :: vs, by simp [e1], by simp [ey, g1, e2], ?_⟩
     intro u hu
     rcases List.mem_cons.1 hu with rfl | hu
     · exact g2
     · exact e3 u hu
   · cases hr
theorem backOK_al {d : DV} (h : backOK d.er = true) : AlOK δ d := by
 cases d with
 | own => exact .own _ _ _ _
 | lf a v => refine .lf _ _ ?_; simp only [er_lf] at h; cases a <;> simp_all [backOK, AlLeaf]
 | agg => simp [backOK] at h
 | tup => simp [backOK] at h
theorem backOK_rin {L : List Nat} {a : AV} (h : backOK a = true) : rin L a = true := by cases a <;> simp_all [backOK]
theorem clean_al {d : DV} {F : Nat → Prop} (h : Ok w S d F) (hc : clean d.er = true) : AlOK δ d := by
 have leaf : ∀ {e : DV}, Lfy e → cleanL e.er = true → AlOK δ e := by
  intro e hl hc
  cases hl with
  | lf a v hl => refine .lf _ _ ?_; simp only [er_lf] at hc; cases a <;> simp_all [cleanL, AlLeaf]
  | own => exact .own _ _ _ _
  | agg => simp [cleanL] at hc
  | tup => simp [cleanL] at hc
 have aggc : ∀ {cs : List DV}, (∀ (i : Nat) d, cs[i]? = some d → Lfy d) → (cs.map DV.er).all cleanL = true → AlOK δ (.agg cs) := by
  intro cs hr hc
  refine .agg _ fun i e hi => leaf (hr i e hi) ?_
  rw [List.all_eq_true] at hc
  exact hc _ (List.mem_map_of_mem (List.mem_of_getElem? hi))
 have hl := h.lfy
 cases hl with
 | lf a v hl =>
  refine leaf (.lf a v hl) ?_
  simp only [er_lf] at hc ⊢
  cases a <;> simp_all [clean, cleanL, leafy]
 | own => exact .own _ _ _ _
 | agg cs hr => simp only [er_agg, clean] at hc; exact aggc hr hc
 | tup cs hr =>
  simp only [er_tup, clean] at hc
  refine .tup _ fun i e hi => ?_
  rw [List.all_eq_true] at hc
  have he := hc _ (List.mem_map_of_mem (List.mem_of_getElem? hi))
  have hle := hr i e hi
  cases hle with
  | lf a v hl => refine leaf (.lf a v hl) ?_; simp only [er_lf] at he ⊢; cases a <;> simp_all [cleanL, leafy]
  | own => exact .own _ _ _ _
  | agg cs hr => simp only [er_agg] at he; exact aggc hr he
  | tup => simp [cleanL] at he
theorem rdF1_sound {d : DV} {F : Nat → Prop} (h : Ok w S d F) : ∃ D, D.er = rdF1 d.er ∧ D.ann = d.ann ∧ Ok w S D (fun _ => False) := by
 have dead : rdF1 d.er = .dead → ∃ D, D.er = rdF1 d.er ∧ D.ann = d.ann ∧ Ok w S D (fun _ => False) := fun e => ⟨.lf .dead d.ann, by simp [e], by simp, .lf _ _ _ trivial (fun _ h => h)⟩
 cases h with
 | lf a v _ ha _ =>
  cases a with
  | sc u => exact ⟨.lf (.sc u) v, by simp [rdF1], by simp, .lf _ _ _ ha (fun _ h => h)⟩
  | sl e k rows =>
   refine ⟨.lf (.sl false k rows) v, by simp [rdF1], by simp, .lf _ _ _ ?_ (fun _ h => h)⟩
   have hf : Fz w S (.sl e k rows) v := ha
   show Fz w S (.sl false k rows) v
   cases hf with
   | nil x k a c hx => exact .nil _ _ _ _ (by simp)
   | sl x k rows b off c vs hx hlc hS hk hc hr => exact .sl _ _ _ b off c vs (by simp) hlc hS hk hc hr
  | _ => exact dead (by simp [rdF1])
 | nil => exact dead (by simp [rdF1])
 | own => exact dead (by simp [rdF1])
 | agg => exact dead (by simp [rdF1])
 | tup => exact dead (by simp [rdF1])
theorem rdF1s_sound {ds : List DV} (h : ∀ (i : Nat) d, ds[i]? = some d → ∃ F, Ok w S d F) : ∃ Ds : List DV, Ds.map DV.er = (ds.map DV.er).map rdF1 ∧ Ds.map DV.ann = ds.map DV.ann ∧ ∀ D ∈ Ds, Ok w S D (fun _ => False) := by
 induction ds with
 | nil => exact ⟨[], rfl, rfl, by simp⟩
 | cons d ds ih =>
  obtain ⟨F, hF⟩ := h 0 d rfl
  obtain ⟨D, h1, h2, h3⟩ := rdF1_sound hF
  obtain ⟨Ds, g1, g2, g3⟩ := ih (fun i e hi => h (i + 1) e hi)
  refine ⟨D :: Ds, by simp [h1, g1], by simp [h2, g2], fun e he => ?_⟩
  rcases List.mem_cons.1 he with rfl | he
  · exact h3
  · exact g3 e he
theorem agg_of_er {d : DV} {F : Nat → Prop} {cs : List AV} (h : Ok w S d F) (he : d.er = .agg cs) : ∃ ds, d = .agg ds ∧ ds.map DV.er = cs := by
 have := h.lfy
 cases d with
 | agg ds => exact ⟨ds, rfl, by simpa using he⟩
 | lf c v => cases this with | lf _ _ hl => simp at he; subst he; simp [leafy] at hl
 | own => simp at he
 | tup => simp at he
theorem rdF_sound (h : St G w S δ Fr) {x : Ar} (hx : ArOK x) {b : AV} (hr : rdF (fun s => (δ s).er) x = some b) : ∃ D, D.er = b ∧ D.ann = argv δ x ∧ Ok w S D (fun _ => False) := by
 cases x with
 | t s =>
  simp only [rdF] at hr
  cases hs : (δ s).er with
  | agg cs =>
   rw [hs] at hr
   simp only [Option.some.injEq] at hr
   subst hr
   obtain ⟨ds, hd, hm⟩ := agg_of_er (h.ok s) hs
   have hok := h.ok s
   rw [hd] at hok
   cases hok with
   | agg _ Fs _ h1 h2 h3 h4 =>
    obtain ⟨Ds, g1, g2, g3⟩ := rdF1s_sound (fun i d hi => ⟨_, h1 i d hi⟩)
    exact ⟨.agg Ds, by simp [g1, ← hm], by simp [argv, hd, g2], Ok_agg_iff.2 (OkL_empty g3)⟩
  | _ =>
   rw [hs] at hr
   simp only [Option.some.injEq] at hr
   subst hr
   rw [← hs]
   exact rdF1_sound (h.ok s)
 | c c =>
  obtain ⟨D0, hD0⟩ := hx
  obtain ⟨e1, e2, e3, _⟩ := cst_facts (w := w) (S := S) (δ := δ) c D0 hD0
  simp only [rdF] at hr
  split at hr
  · rename_i v
    simp only [Option.some.injEq] at hr
    subst hr
    exact ⟨D0, e1, by simp [argv, hD0], e2⟩
  · rename_i k _
    simp only [Option.some.injEq] at hr
    subst hr
    refine ⟨.lf (.sl false k []) D0.ann, by simp, by simp [argv, hD0], .lf _ _ _ ?_ (fun _ h => h)⟩
    have := e2
    cases D0 with
    | own v bx k' rows =>
     simp only [er_own, AV.own.injEq, List.map_eq_nil_iff] at e1
     obtain ⟨rfl, rfl, rfl⟩ := e1
     cases this with
     | nil => rw [ann_own]; exact Fz.nil false k' none 0 (by simp)
     | own _ _ _ b c arr E Fs _ hb hk hcap hSb hv hr' hdd hval hbF hFF => exact absurd ((hFF b).2 (.inl rfl)) id
    | lf a v => simp only [er_lf] at e1; subst e1; cases this with | lf _ _ _ ha _ => exact ha.elim
    | agg => simp at e1
    | tup => simp at e1
  · cases hr
theorem rdFs_sound (h : St G w S δ Fr) {a : Act} (ha : Rd δ a) (ys : List Ar) : ∀ {xs : List Operand} {as : List AV}, chkL xs ys = true → rdFs (fun s => (δ s).er) ys = some as →
 ∃ Ds : List DV, Ds.map DV.er = as ∧ Ds.map DV.ann = xs.map a.eval ∧ ∀ D ∈ Ds, Ok w S D (fun _ => False) := by
 induction ys with
 | nil =>
  intro xs as hc hr
  cases xs with
  | cons => simp [chkL] at hc
  | nil => simp only [rdFs, Option.some.injEq] at hr; subst hr; exact ⟨[], rfl, rfl, by simp⟩
 | cons y ys ih =>
  intro xs as hc hr
  cases xs with
  | nil => simp [chkL] at hc
  | cons x xs =>
   simp only [chkL, Bool.and_eq_true] at hc
   obtain ⟨hy, hev⟩ := chkA_sound hc.1 ha
   simp only [rdFs] at hr
   split at hr
   · rename_i b l h1 h2
     simp only [Option.some.injEq] at hr
     subst hr
     obtain ⟨D, k1, k2, k3⟩ := rdF_sound h hy h1
     obtain ⟨Ds, m1, m2, m3⟩ := ih hc.2 h2
     refine ⟨D :: Ds, by simp [k1, m1], by simp [k2, m2, hev], ?_⟩
     intro e he
     rcases List.mem_cons.1 he with rfl | he
     · exact k3
     · exact m3 e he
   · cases hr
theorem OkL_one {l r : List DV} {D : DV} {F : Nat → Prop} (hl : ∀ d ∈ l, Ok w S d (fun _ => False)) (hD : Ok w S D F) (hr : ∀ d ∈ r, Ok w S d (fun _ => False)) : OkL w S (l ++ D :: r) F := by
 have h2 : OkL w S (D :: r) F := ⟨F, fun _ => False, hD, OkL_empty hr, fun _ _ h => h, fun x => by simp⟩
 exact (OkL_append (OkL_empty hl) h2 (fun _ h => h.elim)).congr fun x => by simp
theorem OkL_at {l r : List DV} {D : DV} {F : Nat → Prop} (h : OkL w S (l ++ D :: r) F) : ∃ F', Ok w S D F' ∧ ∀ x, F' x → F x := by
 obtain ⟨Fs, h1, h2, h3, h4⟩ := OkL_iff.1 h
 exact ⟨Fs l.length, h1 _ D (by simp), fun x hx => (h4 x).2 ⟨_, hx⟩⟩
theorem plcC_sound (h : St G w S δ Fr) {x : Ar} (hx : ArOK x) {c : Option Nat} {r : Nat} {p : List Step} {b : Bool} {k : Nat} {rows : List (List AV)} (hp : plcC (fun s => (δ s).er) x c = some (r, p)) (hs : sub (δ r).er p = some (.own b k rows)) :
 ∃ v rowsD, subD (δ r) p = some (.own v b k rowsD) ∧ (DV.own v b k rowsD).er = .own b k rows ∧ ∀ (Fo : Nat → Prop), Ok w S (.own v b k rowsD) Fo →
  ∃ D, D.er = lentA (fun s => (δ s).er) x c (.own b k rows) ∧ D.ann = argv δ x ∧ Ok w S D Fo ∧ ∀ (w' : World) (S' F' : Nat → Prop) (oD : DV) (o : AV), oD.ann = D.ann → backA c oD.er = some o → Ok w' S' oD F' → ∃ (o' : DV) (F'' : Nat → Prop), o'.er = o ∧ o'.ann = v ∧ Ok w' S' o' F'' ∧ ∀ y, F'' y → F' y := by
 cases c with
 | none =>
  obtain ⟨rowsD, h1, h2⟩ := plc_sound h (x := x) hp hs
  refine ⟨_, rowsD, h1, h2, fun Fo hok => ⟨_, h2, by simp, hok, ?_⟩⟩
  intro w' S' F' oD o ha hb hok'
  simp only [backA, Option.some.injEq] at hb
  exact ⟨oD, F', hb, by simpa using ha, hok', fun _ h => h⟩
 | some j =>
  cases x with
  | c => simp [plcC] at hp
  | t s =>
   simp only [plcC] at hp
   cases hse : (δ s).er with
   | agg cs =>
    rw [hse] at hp
    simp only at hp
    obtain ⟨ds, hd, hm⟩ := agg_of_er (h.ok s) hse
    have hoks := h.ok s
    rw [hd] at hoks
    cases hoks with
    | agg _ Fs _ g1 g2 g3 g4 =>
     cases hdj : ds[j]? with
     | none => rw [← hm] at hp; simp [hdj] at hp
     | some dj =>
      have hcj : cs[j]? = some dj.er := by rw [← hm]; simp [hdj]
      rw [hcj] at hp
      try simp only at hp
      obtain ⟨v, rowsD, e1, e2, e3⟩ : ∃ v rowsD, subD (δ r) p = some (.own v b k rowsD) ∧ (DV.own v b k rowsD).er = .own b k rows ∧ dj.ann = v := by
       obtain ⟨D, hD, hDe⟩ := subD_of_sub (h.ok r).lfy hs
       have hown : ∃ v rowsD, D = .own v b k rowsD := by
        have := (h.ok r).lfy.subD hD
        cases D with
        | own v bx k' rows' => simp only [er_own, AV.own.injEq] at hDe; obtain ⟨rfl, rfl, _⟩ := hDe; exact ⟨v, rows', rfl⟩
        | lf a v => cases this with | lf _ _ hl => simp at hDe; subst hDe; simp [leafy] at hl
        | agg cs => simp at hDe
        | tup cs => simp at hDe
       obtain ⟨v, rowsD, rfl⟩ := hown
       refine ⟨v, rowsD, hD, hDe, ?_⟩
       split at hp
       · rename_i r' p' he
         simp only [Option.some.injEq, Option.some.injEq, Prod.mk.injEq] at hp he
         obtain ⟨rfl, rfl⟩ := hp
         have hal := h.al s
         rw [hd] at hal
         cases hal with
         | agg _ hal =>
          have h1 := hal j dj hdj
          have h2 := g1 j dj hdj
          cases dj with
          | lf a u =>
           simp only [er_lf] at he
           subst he
           cases h1 with
           | lf _ _ h1 =>
            obtain ⟨bx, k', rows', hl⟩ := h1
            rw [hD] at hl
            simp only [Option.some.injEq, DV.own.injEq] at hl
            simp [hl.1]
          | own => simp at he
          | agg => simp at he
          | tup => simp at he
       · rename_i he
         simp only [Option.some.injEq, Prod.mk.injEq] at hp
         obtain ⟨rfl, rfl⟩ := hp
         simp only [hd, subD, hdj, Option.some.injEq] at hD
         subst hD
         simp
       · cases hp
      refine ⟨v, rowsD, e1, e2, fun Fo hok => ?_⟩
      obtain ⟨Ds, k1, k2, k3⟩ := rdF1s_sound (fun i d hi => ⟨_, g1 i d hi⟩)
      have hjl : j < ds.length := (List.getElem?_eq_some_iff.1 hdj).1
      have hlen : Ds.length = ds.length := by have := congrArg List.length k2; simpa using this
      have hset : Ds.set j (.own v b k rowsD) = Ds.take j ++ .own v b k rowsD :: Ds.drop (j + 1) := List.set_eq_take_append_cons_drop.trans (by rw [if_pos (by omega)])
      refine ⟨.agg (Ds.set j (.own v b k rowsD)), ?_, ?_, ?_, ?_⟩
      · simp only [er_agg, lentA, ar, hse, List.map_set, k1, e2, hm]
      · simp only [ann_agg, argv, hd, List.map_set, k2, ann_own]
        congr 2
        rw [← e3]
        apply List.ext_getElem?
        intro i
        simp only [List.getElem?_set, List.getElem?_map, List.length_map]
        split
        · rename_i hij; subst hij; rw [hdj]; rfl
        · rfl
      · rw [hset]
        exact Ok_agg_iff.2 (OkL_one (fun d hd' => k3 d (List.mem_of_mem_take hd')) hok (fun d hd' => k3 d (List.mem_of_mem_drop hd')))
      · intro w' S' F' oD o ha hb hok'
        simp only [backA] at hb
        split at hb
        · rename_i os he
          obtain ⟨ods, rfl, hom⟩ := agg_of_er hok' he
          rw [← hom] at hb
          simp only [List.getElem?_map] at hb
          cases hoj : ods[j]? with
          | none => simp [hoj] at hb
          | some oj =>
           simp only [hoj, Option.map_some, Option.some.injEq] at hb
           cases hok' with
           | agg _ Fs' _ m1 m2 m3 m4 =>
            refine ⟨oj, Fs' j, hb, ?_, m1 j oj hoj, fun y hy => (m4 y).2 ⟨j, hy⟩⟩
            simp only [ann_agg, Value.agg.injEq] at ha
            have ha' : ods.map DV.ann = (Ds.set j (.own v b k rowsD)).map DV.ann := by have := congrArg Array.toList ha; simpa using this
            have := congrArg (·[j]?) ha'
            simp only [List.getElem?_map, hoj, Option.map_some, List.getElem?_set] at this
            rw [if_pos trivial, if_pos (by omega)] at this
            simpa using this
        · cases hb
   | _ => rw [hse] at hp; cases hp
theorem lnd_sound {n : Nat} {w0 : World} {S0 U0 : Nat → Prop} (hG : GIn w0 S0 U0) {a : Act} {σ : Sg} (h : Rel G n w0 S0 U0 a w σ) {o : Oper} {d : Option Dst} {f : Nat} {x : Ar} {c : Option Nat} {pre post : List Ar} {K : Sg → Prop} {r : Nat} {p : List Step} {as bs : List AV} {b : Bool} {k : Nat} {rows : List (List AV)} {res out ou t : AV}
 (hchk : chkCall P o.op f (pre ++ x :: post) 0 = true) (hdt : chkDst G n o.dst d = true) (hp : plcC σ x c = some (r, p)) (hpre : rdFs σ pre = some as) (hpost : rdFs σ post = some bs) (hs : sub (σ r) p = some (.own b k rows))
 (hsays : SoundAt P f (as ++ lentA σ x c (.own b k rows) :: bs) res ((as.map fun _ => .dead) ++ out :: bs.map fun _ => .dead)) (hba : backA c out = some ou) (hback : backOK ou = true) (hcl : clean res = true) (hput : put (σ r) p ou = some t) (hK : toDst d res K (upd (killS G r σ) r t)) (Q : Exit → Act → World → Prop) :
 o.wp P a w (fun a' w' => ∃ σ', Rel G n w0 S0 U0 a' w' σ' ∧ K σ') Q := by
 obtain ⟨S, δ, Fr, hn, hdef, ha, rfl, hst, hnx, hSlt⟩ := h
 obtain ⟨cc, fn, ho, hcal, hf, hfb, hfn, hm3, hcll⟩ := chkCall_spec hchk
 have hd := chkDst_ok hdt hn
 obtain ⟨xs, x0, ys, hargs, hxs, hx0, hys⟩ : ∃ xs x0 ys, cc.args.toList = xs ++ x0 :: ys ∧ chkL xs pre = true ∧ chkA x0 x = true ∧ chkL ys post = true := by
  generalize cc.args.toList = l at hcll
  clear hpre hpost hp hsays hchk
  induction pre generalizing l with
  | nil =>
   cases l with
   | nil => simp [chkL] at hcll
   | cons x0 xs => simp only [List.nil_append, chkL, Bool.and_eq_true] at hcll; exact ⟨[], x0, xs, rfl, rfl, hcll.1, hcll.2⟩
  | cons y pre ih =>
   cases l with
   | nil => simp [chkL] at hcll
   | cons y0 l =>
    simp only [List.cons_append, chkL, Bool.and_eq_true] at hcll
    obtain ⟨xs, x0, ys, h1, h2, h3, h4⟩ := ih l hcll.2
    exact ⟨y0 :: xs, x0, ys, by simp [h1], by simp [chkL, hcll.1, h2], h3, h4⟩
 obtain ⟨hxo, ex0⟩ := chkA_sound hx0 ha
 obtain ⟨v, rowsD, hD, hDe, hlent⟩ := plcC_sound hst hxo hp hs
 obtain ⟨Fo, hokD, hsub, hrep⟩ := (hst.ok r).replace p hD
 obtain ⟨Dx, hDx, hDxa, hDxo, hbk⟩ := hlent Fo hokD
 obtain ⟨Ds1, p1, p2, p3⟩ := rdFs_sound hst ha pre hxs hpre
 obtain ⟨Ds2, q1, q2, q3⟩ := rdFs_sound hst ha post hys hpost
 have hcalls := hsays w S (Ds1 ++ Dx :: Ds2) Fo (hG.now hnx) (by simp [p1, q1, hDx]) (Ok_tup_iff.2 (OkL_one p3 hDxo q3)) hSlt
 have harg : (List.map DV.ann (Ds1 ++ Dx :: Ds2)) = cc.args.toList.map a.eval := by
  rw [hargs]; simp [p2, q2, hDxa, ex0]
 unfold Oper.wp
 rw [run_call ho hcal hf hfb hfn, Oper.upon_enter, ← harg]
 refine hcalls.mono ?_
 rintro e w' ⟨rD, os, S', F', rfl, hre, hoe, hoa, hok, hext, hSS, hS', hS'lt, hF'⟩
 obtain ⟨Fa, Fb, hra', hosk, hdab, hFab⟩ := Ok_tup_iff.1 hok
 obtain ⟨os1, oX, os2, rfl, hl1, hXe, hXa⟩ : ∃ os1 oX os2, os = os1 ++ oX :: os2 ∧ os1.length = Ds1.length ∧ oX.er = out ∧ oX.ann = Dx.ann := by
  have hlen1 : as.length = Ds1.length := by rw [← p1]; simp
  have hlen : os.length = Ds1.length + (Ds2.length + 1) := by have := congrArg List.length hoa; simpa using this
  have hlt : Ds1.length < os.length := by omega
  refine ⟨os.take Ds1.length, os[Ds1.length], os.drop (Ds1.length + 1), ?_, by simp; omega, ?_, ?_⟩
  · rw [← List.drop_eq_getElem_cons hlt, List.take_append_drop]
  · have := congrArg (·[Ds1.length]?) hoe
    simp only [List.getElem?_map, List.getElem?_eq_getElem hlt, Option.map_some] at this
    rw [List.getElem?_append_right (by simp [hlen1])] at this
    simpa [hlen1] using this
  · have := congrArg (·[Ds1.length]?) hoa
    simp only [List.getElem?_map, List.getElem?_eq_getElem hlt, Option.map_some] at this
    simpa using this
 obtain ⟨FX, hoX, hFX⟩ := OkL_at hosk
 obtain ⟨oD, Fc, hoe', hoa', hoD, hFcX⟩ := hbk w' S' FX oX ou hXa (by rw [hXe]; exact hba) hoX
 have hlt : ∀ s x, Fr s x → x < w.heap.size := fun s x hx => (hst.ok s).lt x hx
 have hFcB : ∀ x, Fc x → Fb x := fun x hx => hFX x (hFcX x hx)
 have hFc : ∀ x, Fc x → Fo x ∨ w.heap.size ≤ x := fun x hx => hF' x ((hFab x).2 (.inr (hFcB x hx)))
 have hFa : ∀ x, Fa x → Fo x ∨ w.heap.size ≤ x := fun x hx => hF' x ((hFab x).2 (.inl hx))
 have hwS : ∀ b, S b → w'.heap[b]? = w.heap[b]? := fun b hb => hext.block b (hSlt b hb) (fun hf => hokD.notS b hf hb)
 have hwF : ∀ s b, Fr s b → ¬ Fo b → w'.heap[b]? = w.heap[b]? := fun s b hb hno => hext.block b (hlt s b hb) hno
 have hS'n : ∀ s b, Fr s b → ¬ Fo b → ¬ S' b := by
  intro s b hb hno h'
  rcases hS' b h' with h1 | h1 | h1
  · exact (hst.ok s).notS b hb h1
  · exact hno h1
  · have := hlt s b hb; omega
 have hnoFo : ∀ s, s ≠ r → ∀ x, Fr s x → ¬ Fo x := fun s hs' x hx hf => hs' (hst.dis s r x hx (hsub x hf))
 obtain ⟨tD, F2, htD, hokt, hiff, hann⟩ := hrep w' S' oD Fc (by rw [hoa']; simp) hoD (fun x hx hr => (hFc x hx).elim id fun hge => absurd (hlt r x hr) (by omega)) hwS (fun b hb hno => hwF r b hb hno) hSS (fun b hb hno => hS'n r b hb hno)
 have hte : tD.er = t := by
  obtain ⟨t', h1, h2⟩ := putD_of_put (d := δ r) (p := p) (a := t) oD (hst.ok r).lfy (by rw [hoe']; exact hput)
  rw [htD] at h1
  obtain rfl := Option.some.inj h1
  exact h2
 have hdisr : ∀ s, s ≠ r → ∀ x, F2 x → ¬ Fr s x := by
  intro s hs' x hx hy
  rcases (hiff x).1 hx with ⟨h1, _⟩ | h1
  · exact hs' (hst.dis s r x hy h1)
  · rcases hFc x h1 with h2 | h2
    · exact hnoFo s hs' x hy h2
    · have := hlt s x hy; omega
 have hb' : backOK oD.er = true := by rw [hoe']; exact hback
 have hal : AlOK δ oD := backOK_al hb'
 have hrin : ∀ L, rin L oD.er = true := fun L => backOK_rin hb'
 have hst1 : St G w' S' (upd (killδ G r δ) r tD) (upd Fr r F2) :=
  hst.set r tD F2 hwS (fun s hs' x hx => hwF s x hx (hnoFo s hs' x hx)) hSS (fun s hs' x hx => hS'n s x hx (hnoFo s hs' x hx)) hokt hdisr (putD_rin p htD (hst.rt r) (hrin _)) (putD_al p htD (hst.al r) hal)
 have her1 : (fun s => (upd (killδ G r δ) r tD s).er) = upd (killS G r fun s => (δ s).er) r t := by rw [er_upd_kill hst, hte]
 have hann1 : ∀ s, (upd (killδ G r δ) r tD s).ann = (δ s).ann := by
  intro s; rw [ann_upd_kill hst]; split
  · rename_i e; rw [e, hann]
  · rfl
 have hF1 : ∀ s x, upd Fr r F2 s x → (Fr s x ∧ ¬ Fo x) ∨ (s = r ∧ Fc x) := by
  intro s x hx
  by_cases hs' : s = r
  · subst hs'; rw [upd_same] at hx
    exact ((hiff x).1 hx).imp id fun h => ⟨rfl, h⟩
  · rw [upd_ne _ _ hs'] at hx; exact .inl ⟨hx, hnoFo s hs' x hx⟩
 have hdisD : ∀ s x, upd Fr r F2 s x → ¬ Fa x := by
  intro s x hx hy
  rcases hF1 s x hx with ⟨h1, h2⟩ | ⟨_, h1⟩
  · rcases hFa x hy with h3 | h3
    · exact h2 h3
    · have := hlt s x h1; omega
  · exact hdab x hy (hFcB x h1)
 have hOwn1 : ∀ x, Owned (upd Fr r F2) x → Owned Fr x ∨ w.heap.size ≤ x := by
  rintro x ⟨s, hx⟩
  rcases hF1 s x hx with ⟨h1, _⟩ | ⟨_, h1⟩
  · exact .inl ⟨s, h1⟩
  · exact (hFc x h1).imp (fun h => ⟨r, hsub x h⟩) id
 have hstep : ∀ F3 : Nat → Nat → Prop, (∀ x, Owned F3 x → Owned (upd Fr r F2) x ∨ Fa x) → Nx w0 S0 U0 w' S' (Owned F3) := by
  intro F3 hF3
  refine hnx.trans ⟨hext.os, hext.tape, hext.output, hext.size, fun b hb hno => hext.block b hb fun hf => hno ⟨r, hsub b hf⟩, hSS, fun b hb => (hS' b hb).imp id (Or.imp (fun h => ⟨r, hsub b h⟩) id), fun _ => hS'lt, fun x hx => ?_⟩
  rcases hF3 x hx with h1 | h1
  · exact hOwn1 x h1
  · exact (hFa x h1).imp (fun h => ⟨r, hsub x h⟩) id
 rw [← her1] at hK
 have ha1 : Rd (upd (killδ G r δ) r tD) a := fun s => (ha s).trans (hann1 s).symm
 simp only
 cases d with
 | none =>
  have h0 : o.dst = none := hd
  refine ⟨_, ⟨S', _, _, ?_, ?_, ?_, rfl, hst1, hstep _ (fun x hx => .inl hx), hS'lt⟩, hK⟩
  · rw [h0]; exact hn
  · rw [h0]; exact hdef
  · rw [h0]; exact ha1
 | some d =>
  simp only [toDst] at hK
  split at hK
  · rename_i τ' hwr
    obtain ⟨h1, h2, h3, h4⟩ := hd
    rw [← hre] at hwr
    obtain ⟨δ', F3, hst', her, hann', hown⟩ := hst1.wr h2 h3 (fun _ _ => rfl) (fun _ _ _ => rfl) (fun _ h => h) (fun s x hx => (hst1.ok s).notS x hx) hra' hdisD (clean_al hra' (by rw [hre]; exact hcl)) hwr
    refine ⟨τ', ⟨S', δ', F3, ?_, ?_, ?_, her, hst', hstep F3 hown, hS'lt⟩, hK⟩
    · rw [h1]; simpa [Act.put] using hn
    · rw [h1]; simpa [Act.put] using hdef
    · intro s
      rw [h1, put_get a d.d rD.ann h4 s, hann' s]
      split
      · rfl
      · exact ha1 s
  · exact hK.elim
theorem capR_sound (h : St G w S δ Fr) (rs : List (Nat × List Step)) : ∀ {vs : List Value} {bs : List AV}, vs.length = rs.length → (∀ (i : Nat) r p u, rs[i]? = some (r, p) → vs[i]? = some u → ∃ bx k rows, subD (δ r) p = some (.own u bx k rows)) → capR (fun s => (δ s).er) rs = some bs →
 ∃ Ds : List DV, Ds.map DV.er = bs ∧ Ds.map DV.ann = vs ∧ ∀ D ∈ Ds, Ok w (fun x => S x ∨ Owned Fr x) D (fun _ => False) := by
 induction rs with
 | nil =>
  intro vs bs hl _ hr
  cases vs with
  | nil => simp only [capR, Option.some.injEq] at hr; subst hr; exact ⟨[], rfl, rfl, by simp⟩
  | cons => simp at hl
 | cons x rs ih =>
  obtain ⟨r, p⟩ := x
  intro vs bs hl hv hr
  cases vs with
  | nil => simp at hl
  | cons v vs =>
   simp only [capR] at hr
   split at hr
   · rename_i a as h1 h2
     simp only [Option.some.injEq] at hr
     subst hr
     obtain ⟨bx, k, rows, hs⟩ := hv 0 r p v rfl rfl
     obtain ⟨D, k1, k2, k3⟩ := rdV_sound h (d := .lf (.al r p) v) (F := fun _ => False) (.lf _ _ _ trivial (fun _ h => h)) (fun _ h => h.elim) (.lf _ _ ⟨bx, k, rows, hs⟩) (by simpa using h1)
     obtain ⟨Ds, m1, m2, m3⟩ := ih (by simpa using hl) (fun i r p u hi hu => hv (i + 1) r p u (by simpa using hi) (by simpa using hu)) h2
     refine ⟨D :: Ds, by simp [k1, m1], by simpa [m2] using k2, ?_⟩
     intro e he
     rcases List.mem_cons.1 he with rfl | he
     · exact k3
     · exact m3 e he
   · cases hr
def chkClo (P : Program) (o : Op) (f : Nat) (y : Ar) (ys : List Ar) : Bool := match o with
 | .call c => (match c.callee with
  | .value x => chkA x y && chkL c.args.toList ys && (match P.funcs[f]? with | some fn => fn.body.isSome && fn.name != "runtime.NumGoroutine" | none => false)
  | _ => false)
 | _ => false
theorem run_clo {a : Act} {o : Oper} {c : Call} {x : Operand} {f : Nat} {fn : Func} {vs : List Value} (ho : o.op = .call c) (hc : c.callee = .value x) (hx : a.eval x = .func (.func f) #[] vs.toArray) (hf : P.funcs[f]? = some fn) (hb : fn.body.isSome = true) (hn : (fn.name != "runtime.NumGoroutine") = true) :
 (execOp a.eval o).run P w = .ok (.enter f (c.args.toList.map a.eval ++ vs).toArray) w := by
 have hbn : fn.body.isNone = false := by cases h : fn.body <;> simp_all
 have hnm : (fn.name == "runtime.NumGoroutine") = false := by simpa using hn
 have harr : c.args.map a.eval = (c.args.toList.map a.eval).toArray := by apply Array.ext'; simp
 simp only [execOp, ho, resolve, hc, hx, Deferred.ofValue, Sem.run_bind, Sem.run_pure, Result.andThen_ok, invoke, callFunc, harr]
 have hp : (program).run P w = .ok P w := rfl
 rw [hp]
 simp only [Result.andThen_ok, hf, hnm, hbn, Bool.false_eq_true, if_false, Sem.run_pure]
 simp
theorem clo_sound {n : Nat} {w0 : World} {S0 U0 : Nat → Prop} (hG : GIn w0 S0 U0) {a : Act} {σ : Sg} (h : Rel G n w0 S0 U0 a w σ) {o : Oper} {d : Option Dst} {f : Nat} {x : Ar} {args : List Ar} {K : Sg → Prop} {as : List AV} {res v : AV}
 (hchk : chkClo P o.op f x args = true) (hdt : chkDst G n o.dst d = true) (hca : cloA σ f x args = some as) (hsays : Says P f as res) (hres : resV 0 res = some v) (hK : toDst d v K σ) (Q : Exit → Act → World → Prop) :
 o.wp P a w (fun a' w' => ∃ σ', Rel G n w0 S0 U0 a' w' σ' ∧ K σ') Q := by
 obtain ⟨S, δ, Fr, hn, hdef, ha, rfl, hst, hnx, hSlt⟩ := h
 have hd := chkDst_ok hdt hn
 have hgi := hG.now hnx
 unfold chkClo at hchk
 split at hchk
 · rename_i c ho
   split at hchk
   · rename_i x0 hcal
     simp only [Bool.and_eq_true] at hchk
     obtain ⟨⟨h1, h2⟩, h3⟩ := hchk
     split at h3
     · rename_i fn hf
       simp only [Bool.and_eq_true] at h3
       obtain ⟨hx, ex⟩ := chkA_sound h1 ha
       unfold cloA at hca
       split at hca
       · rename_i f' rs hcl
         split at hca
         · rename_i e
           subst e
           split at hca
           · rename_i as1 bs hr1 hr2
             simp only [Option.some.injEq] at hca
             subst hca
             obtain ⟨vs, hval, hvl, hvs⟩ : AlLeaf δ (.cl f' rs) (argv δ x) := by
              cases x with
              | t s => exact (hst.leaf hcl rfl).2.2
              | c c0 =>
               obtain ⟨D0, hD0⟩ := hx
               simp only [ar] at hcl
               subst hcl
               simp [cstD] at hD0
             obtain ⟨Ds1, p1, p2, p3⟩ := rdArgs_sound hst ha args h2 hr1
             obtain ⟨Ds2, q1, q2, q3⟩ := capR_sound hst rs hvl hvs hr2
             have hcalls := hsays w (fun x => S x ∨ Owned Fr x) (Ds1 ++ Ds2) (fun _ => False) (hgi.mono fun _ h => .inl h) (by simp [p1, q1]) (Ok_tup_iff.2 (OkL_empty fun D hD => (List.mem_append.1 hD).elim (p3 D) (q3 D))) (by
              rintro b (hb | ⟨s, hs⟩)
              · exact hSlt b hb
              · exact (hst.ok s).lt b hs)
             have harg : (List.map DV.ann (Ds1 ++ Ds2)) = c.args.toList.map a.eval ++ vs := by simp [p2, q2]
             simp only [resV] at hres
             split at hres
             · rename_i hfl
               simp only [Option.some.injEq] at hres
               have hfr := flat_fresh hfl
               unfold Oper.wp
               rw [run_clo ho hcal (by rw [ex, hval]) hf h3.1 h3.2, Oper.upon_enter, ← harg]
               refine hcalls.mono ?_
               rintro e w' ⟨r, os, S', F', rfl, hre, hoe, hoa, hok, hext, hSS, hS', hS'lt, hF'⟩
               obtain ⟨Fa, Fb, hra, _, _, hFab⟩ := Ok_tup_iff.1 hok
               have hfa : ∀ x, Fa x → w.heap.size ≤ x := fun x hx => (hF' x ((hFab x).2 (.inl hx))).resolve_left id
               have hok' : Ok w' S r Fa := fresh_ok hra (by rw [hre]; exact hfr) (fun x hx hs => by have := hSlt x hs; have := hfa x hx; omega)
               simp only
               exact call_end (S2 := S) hst hn hdef ha hd (hre.trans hres) (fun b hb => hext.block b hb id) hSlt (fun _ h => h) (fun _ h => .inl h) (fun b hb => Nat.lt_of_lt_of_le (hSlt b hb) hext.size) hok' hfa (fresh_al hra (by rw [hre]; exact hfr)) hnx hext.os hext.tape hext.output hext.size hK
             · cases hres
           · cases hca
         · cases hca
       · cases hca
     · cases h3
   · cases hchk
 · cases hchk
def chkBxv (P : Program) (o : Op) (n s : Nat) : Bool := match o with
 | .box t (.tmp s') => s == s' && szOf P t == some n
 | _ => false
theorem bxv_sound {n : Nat} {w0 : World} {S0 U0 : Nat → Prop} {a : Act} {σ : Sg} (h : Rel G n w0 S0 U0 a w σ) {o : Oper} {d : Dst} {m s : Nat} {K : Sg → Prop} {cs : List AV} (hc : chkBxv P o.op m s = true) (hdt : chkDst G n o.dst (some d) = true)
 (hs : σ s = .agg cs) (hl : cs.length = m) (hK : ∀ us : List Value, us.length = m → toDst (some d) (.vb s 0 us) K σ) (Q : Exit → Act → World → Prop) :
 o.wp P a w (fun a' w' => ∃ σ', Rel G n w0 S0 U0 a' w' σ' ∧ K σ') Q := by
 obtain ⟨S, δ, Fr, hn, hdef, ha, rfl, hst, hnx, hSlt⟩ := h
 have hd := chkDst_ok hdt hn
 unfold chkBxv at hc
 split at hc
 · rename_i t s' ho
   simp only [Bool.and_eq_true, beq_iff_eq] at hc
   obtain ⟨rfl, _⟩ := hc
   obtain ⟨ds, hd', hm⟩ := agg_of_er (hst.ok s) hs
   have hann : (δ s).ann = .agg (ds.map DV.ann).toArray := by rw [hd']; simp
   have hev : a.eval (.tmp s) = .agg (ds.map DV.ann).toArray := by simp only [Act.eval]; rw [ha s, hann]
   have hlen : (ds.map DV.ann).length = m := by rw [← hl, ← hm]; simp
   have hr : (execOp a.eval o).run P w = .ok (.value (.pointer (some ⟨w.heap.size, 0, none⟩))) (w.alloc (.cells (ds.map DV.ann).toArray t)) := by
    simp only [execOp, ho, hev, Sem.run_bind, run_box, Result.andThen_ok, Sem.run_pure, Value.cells]
   unfold Oper.wp
   rw [hr, Oper.upon_value]
   have hsz : (w.alloc (.cells (ds.map DV.ann).toArray t)).heap.size = w.heap.size + 1 := by
    show (w.heap.push _).size = _
    exact Array.size_push _
   have hlt2 : ∀ b, (S b ∨ b = w.heap.size) → b < (w.alloc (.cells (ds.map DV.ann).toArray t)).heap.size := by
    intro b hb
    rw [hsz]
    rcases hb with hb | hb
    · have := hSlt b hb; omega
    · omega
   have := call_end (w' := w.alloc (.cells (ds.map DV.ann).toArray t)) (S2 := fun x => S x ∨ x = w.heap.size) (D := .lf (.vb s 0 (ds.map DV.ann)) (.pointer (some ⟨w.heap.size, 0, none⟩))) (FD := fun _ => False) (v := .vb s 0 (ds.map DV.ann)) (K := K) hst hn hdef ha hd (by simp)
    (fun b hb => alloc_old w _ b hb) hSlt (fun _ h => .inl h) (fun b hb => hb.imp id (fun e => by omega)) hlt2
    (.lf _ _ _ ⟨w.heap.size, rfl, .inr rfl, fun j u hj => by simp only [World.cell?, alloc_new]; simpa using hj⟩ (fun _ h => h)) (fun _ h => h.elim) (.lf _ _ hann) hnx rfl rfl rfl (by omega) (hK _ hlen)
   simpa using this
 · cases hc
theorem lend_sound {n : Nat} {w0 : World} {S0 U0 : Nat → Prop} (hG : GIn w0 S0 U0) {a : Act} {σ : Sg} (h : Rel G n w0 S0 U0 a w σ) {o : Oper} {d : Option Dst} {f : Nat} {x : Ar} {rest : List Ar} {K : Sg → Prop} {r : Nat} {p : List Step} {as : List AV} {b : Bool} {k : Nat} {rows : List (List AV)} {res out t v : AV}
 (hchk : chkCall P o.op f (x :: rest) 0 = true) (hdt : chkDst G n o.dst d = true) (hp : plc σ x = some (r, p)) (hra : rdSc σ rest = some as) (hs : sub (σ r) p = some (.own b k rows))
 (hsays : SoundAt P f (.own b k rows :: as) res (out :: as.map fun _ => .dead)) (hback : backOK out = true) (hput : put (σ r) p out = some t) (hres : resV 2 res = some v) (hK : toDst d v K (upd (killS G r σ) r t)) (Q : Exit → Act → World → Prop) :
 o.wp P a w (fun a' w' => ∃ σ', Rel G n w0 S0 U0 a' w' σ' ∧ K σ') Q := by
 obtain ⟨S, δ, Fr, hn, hdef, ha, rfl, hst, hnx, hSlt⟩ := h
 obtain ⟨c, fn, ho, hcal, hf, hfb, hfn, hm3, hcl⟩ := chkCall_spec hchk
 have hd := chkDst_ok hdt hn
 obtain ⟨rowsD, hD, hDe⟩ := plc_sound hst hp hs
 obtain ⟨Fo, hokD, hsub, hrep⟩ := (hst.ok r).replace p hD
 obtain ⟨x0, xs, hargs, hx0, hxs⟩ : ∃ x0 xs, c.args.toList = x0 :: xs ∧ chkA x0 x = true ∧ chkL xs rest = true := by
  cases hl : c.args.toList with
  | nil => rw [hl] at hcl; simp [chkL] at hcl
  | cons x0 xs => rw [hl] at hcl; simp only [chkL, Bool.and_eq_true] at hcl; exact ⟨x0, xs, rfl, hcl.1, hcl.2⟩
 obtain ⟨_, ex0⟩ := chkA_sound hx0 ha
 obtain ⟨vs, e1, e2, e3⟩ := rdSc_sound hst ha rest hxs hra
 simp only [resV] at hres
 split at hres
 · rename_i hfr
   simp only [Option.some.injEq] at hres
   subst hres
   have hokvs : OkL w S (vs.map fun v => DV.lf (.sc v) v) (fun _ => False) := by
    refine OkL_empty fun d hd => ?_
    obtain ⟨u, hu, rfl⟩ := List.mem_map.1 hd
    exact .lf _ _ _ ⟨rfl, e3 u hu⟩ (fun _ h => h)
   have hcalls := hsays w S (DV.own (argv δ x) b k rowsD :: vs.map fun v => DV.lf (.sc v) v) Fo (hG.now hnx) (by simp only [List.map_cons, hDe, e1]; simp) (Ok_tup_iff.2 ⟨Fo, fun _ => False, hokD, hokvs, fun _ _ h => h, fun x => by simp⟩) hSlt
   have harg : (List.map DV.ann (DV.own (argv δ x) b k rowsD :: vs.map fun v => DV.lf (.sc v) v)) = c.args.toList.map a.eval := by
    rw [hargs]; simp [ex0, e2, Function.comp_def]
   unfold Oper.wp
   rw [run_call ho hcal hf hfb hfn, Oper.upon_enter, ← harg]
   refine hcalls.mono ?_
   rintro e w' ⟨rD, os, S', F', rfl, hre, hoe, hoa, hok, hext, hSS, hS', hS'lt, hF'⟩
   obtain ⟨Fa, Fb, hra', hosk, hdab, hFab⟩ := Ok_tup_iff.1 hok
   obtain ⟨oD, ors, rfl⟩ : ∃ oD ors, os = oD :: ors := by cases os with | nil => simp at hoe | cons oD ors => exact ⟨oD, ors, rfl⟩
   obtain ⟨Fc, Fd, hoD, _, _, hFcd⟩ := hosk
   simp only [List.map_cons, List.cons.injEq] at hoe hoa
   have hlt : ∀ s x, Fr s x → x < w.heap.size := fun s x hx => (hst.ok s).lt x hx
   have hFc : ∀ x, Fc x → Fo x ∨ w.heap.size ≤ x := fun x hx => hF' x ((hFab x).2 (.inr ((hFcd x).2 (.inl hx))))
   have hFa : ∀ x, Fa x → Fo x ∨ w.heap.size ≤ x := fun x hx => hF' x ((hFab x).2 (.inl hx))
   have hwS : ∀ b, S b → w'.heap[b]? = w.heap[b]? := fun b hb => hext.block b (hSlt b hb) (fun hf => hokD.notS b hf hb)
   have hwF : ∀ s b, Fr s b → ¬ Fo b → w'.heap[b]? = w.heap[b]? := fun s b hb hno => hext.block b (hlt s b hb) hno
   have hS'n : ∀ s b, Fr s b → ¬ Fo b → ¬ S' b := by
    intro s b hb hno h'
    rcases hS' b h' with h1 | h1 | h1
    · exact (hst.ok s).notS b hb h1
    · exact hno h1
    · have := hlt s b hb; omega
   have hnoFo : ∀ s, s ≠ r → ∀ x, Fr s x → ¬ Fo x := fun s hs' x hx hf => hs' (hst.dis s r x hx (hsub x hf))
   obtain ⟨tD, F2, htD, hokt, hiff, hann⟩ := hrep w' S' oD Fc (by rw [hoa.1]) hoD (fun x hx hr => (hFc x hx).elim id fun hge => absurd (hlt r x hr) (by omega)) hwS (fun b hb hno => hwF r b hb hno) hSS (fun b hb hno => hS'n r b hb hno)
   have hte : tD.er = t := by
    obtain ⟨t', h1, h2⟩ := putD_of_put (d := δ r) (p := p) (a := t) oD (hst.ok r).lfy (by rw [hoe.1]; exact hput)
    rw [htD] at h1
    obtain rfl := Option.some.inj h1
    exact h2
   have hdisr : ∀ s, s ≠ r → ∀ x, F2 x → ¬ Fr s x := by
    intro s hs' x hx hy
    rcases (hiff x).1 hx with ⟨h1, _⟩ | h1
    · exact hs' (hst.dis s r x hy h1)
    · rcases hFc x h1 with h2 | h2
      · exact hnoFo s hs' x hy h2
      · have := hlt s x hy; omega
   have hb' : backOK oD.er = true := by rw [hoe.1]; exact hback
   have hal : AlOK δ oD := backOK_al hb'
   have hrin : ∀ L, rin L oD.er = true := fun L => backOK_rin hb'
   have hst1 : St G w' S' (upd (killδ G r δ) r tD) (upd Fr r F2) :=
    hst.set r tD F2 hwS (fun s hs' x hx => hwF s x hx (hnoFo s hs' x hx)) hSS (fun s hs' x hx => hS'n s x hx (hnoFo s hs' x hx)) hokt hdisr (putD_rin p htD (hst.rt r) (hrin _)) (putD_al p htD (hst.al r) hal)
   have her1 : (fun s => (upd (killδ G r δ) r tD s).er) = upd (killS G r fun s => (δ s).er) r t := by rw [er_upd_kill hst, hte]
   have hann1 : ∀ s, (upd (killδ G r δ) r tD s).ann = (δ s).ann := by
    intro s; rw [ann_upd_kill hst]; split
    · rename_i e; rw [e, hann]
    · rfl
   have hF1 : ∀ s x, upd Fr r F2 s x → (Fr s x ∧ ¬ Fo x) ∨ (s = r ∧ Fc x) := by
    intro s x hx
    by_cases hs' : s = r
    · subst hs'; rw [upd_same] at hx
      exact ((hiff x).1 hx).imp id fun h => ⟨rfl, h⟩
    · rw [upd_ne _ _ hs'] at hx; exact .inl ⟨hx, hnoFo s hs' x hx⟩
   have hdisD : ∀ s x, upd Fr r F2 s x → ¬ Fa x := by
    intro s x hx hy
    rcases hF1 s x hx with ⟨h1, h2⟩ | ⟨_, h1⟩
    · rcases hFa x hy with h3 | h3
      · exact h2 h3
      · have := hlt s x h1; omega
    · exact hdab x hy ((hFcd x).2 (.inl h1))
   have hOwn1 : ∀ x, Owned (upd Fr r F2) x → Owned Fr x ∨ w.heap.size ≤ x := by
    rintro x ⟨s, hx⟩
    rcases hF1 s x hx with ⟨h1, _⟩ | ⟨_, h1⟩
    · exact .inl ⟨s, h1⟩
    · exact (hFc x h1).imp (fun h => ⟨r, hsub x h⟩) id
   have hstep : ∀ F3 : Nat → Nat → Prop, (∀ x, Owned F3 x → Owned (upd Fr r F2) x ∨ Fa x) → Nx w0 S0 U0 w' S' (Owned F3) := by
    intro F3 hF3
    refine hnx.trans ⟨hext.os, hext.tape, hext.output, hext.size, fun b hb hno => hext.block b hb fun hf => hno ⟨r, hsub b hf⟩, hSS, fun b hb => (hS' b hb).imp id (Or.imp (fun h => ⟨r, hsub b h⟩) id), fun _ => hS'lt, fun x hx => ?_⟩
    rcases hF3 x hx with h1 | h1
    · exact hOwn1 x h1
    · exact (hFa x h1).imp (fun h => ⟨r, hsub x h⟩) id
   rw [← her1] at hK
   have ha1 : Rd (upd (killδ G r δ) r tD) a := fun s => (ha s).trans (hann1 s).symm
   simp only
   cases d with
   | none =>
    have h0 : o.dst = none := hd
    refine ⟨_, ⟨S', _, _, ?_, ?_, ?_, rfl, hst1, hstep _ (fun x hx => .inl hx), hS'lt⟩, hK⟩
    · rw [h0]; exact hn
    · rw [h0]; exact hdef
    · rw [h0]; exact ha1
   | some d =>
    simp only [toDst] at hK
    split at hK
    · rename_i τ' hwr
      obtain ⟨h1, h2, h3, h4⟩ := hd
      rw [← hre] at hwr
      obtain ⟨δ', F3, hst', her, hann', hown⟩ := hst1.wr h2 h3 (fun _ _ => rfl) (fun _ _ _ => rfl) (fun _ h => h) (fun s x hx => (hst1.ok s).notS x hx) hra' hdisD (fresh_al hra' (by rw [hre]; exact hfr)) hwr
      refine ⟨τ', ⟨S', δ', F3, ?_, ?_, ?_, her, hst', hstep F3 hown, hS'lt⟩, hK⟩
      · rw [h1]; simpa [Act.put] using hn
      · rw [h1]; simpa [Act.put] using hdef
      · intro s
        rw [h1, put_get a d.d rD.ann h4 s, hann' s]
        split
        · rfl
        · exact ha1 s
    · exact hK.elim
 · cases hres
def chkGld (P : Program) (o : Op) (g n : Nat) : Bool := match o with
 | .load t (.global g') => g == g' && szOf P t == some n && isAggT P t == some true
 | _ => false
theorem gld_sound {n : Nat} {w0 : World} {S0 U0 : Nat → Prop} (hG : GIn w0 S0 U0) {a : Act} {σ : Sg} (h : Rel G n w0 S0 U0 a w σ) {o : Oper} {d : Dst} {g m : Nat} {cs : List Value} {K : Sg → Prop} (hc : chkGld P o.op g m = true) (hdt : chkDst G n o.dst (some d) = true)
 (hg : gamAt g m = some cs) (hK : toDst (some d) (.agg (cs.map .sc)) K σ) (Q : Exit → Act → World → Prop) :
 o.wp P a w (fun a' w' => ∃ σ', Rel G n w0 S0 U0 a' w' σ' ∧ K σ') Q := by
 obtain ⟨S, δ, Fr, hn, hdef, ha, rfl, hst, hnx, hSlt⟩ := h
 have hgi := hG.now hnx
 have hd := chkDst_ok hdt hn
 unfold gamAt at hg
 split at hg
 · rename_i x hx
   split at hg
   · rename_i hx2
     obtain rfl := Option.some.inj hg
     have hmem := List.mem_of_find?_eq_some hx
     have hxg : x.1 = g := by have := List.find?_some hx; simpa using this
     obtain ⟨_, arr, E, fz, hb, hcell⟩ := hgi x hmem
     unfold chkGld at hc
     split at hc
     · rename_i t g' ho
       simp only [Bool.and_eq_true, beq_iff_eq] at hc
       obtain ⟨⟨rfl, h2⟩, h3⟩ := hc
       have hrun := run_loadVar (P := P) (w := w) (b := g) (off := 0) (vs := x.2) h2 h3 (.inl rfl) hx2.1 (by
        intro j v hj
        have := hcell j v hj
        simp only [World.cell?]
        rw [← hxg, hb]
        simpa using this)
       simp only [if_true] at hrun
       have hr : (execOp a.eval o).run P w = .ok (.value (.agg x.2.toArray)) w := by
        simp only [execOp, ho, Act.eval, Instr.loadAt, Instr.sureAddr, Sem.run_bind, Sem.run_pure, Result.andThen_ok, hrun]
       unfold Oper.wp
       rw [hr, Oper.upon_value]
       have hDs : ∀ D ∈ x.2.map (fun v => DV.lf (.sc v) v), Ok w S D (fun _ => False) ∧ AlOK δ D := by
        intro D hD
        obtain ⟨v, hv, rfl⟩ := List.mem_map.1 hD
        exact ⟨.lf _ _ _ ⟨rfl, List.all_eq_true.1 hx2.2 v hv⟩ (fun _ h => h), .lf _ _ trivial⟩
       have := call_end (S2 := S) (D := .agg (x.2.map fun v => DV.lf (.sc v) v)) (FD := fun _ => False) (v := .agg (x.2.map .sc)) (K := K) hst hn hdef ha hd (by simp [Function.comp_def]) (fun _ _ => rfl) hSlt (fun _ h => h) (fun _ h => .inl h) hSlt (Ok_agg_iff.2 (OkL_empty fun D hD => (hDs D hD).1)) (fun _ h => h.elim) (.agg _ fun i D hD => (hDs D (List.mem_of_getElem? hD)).2) hnx rfl rfl rfl (Nat.le_refl _) hK
       simpa [Function.comp_def] using this
     · cases hc
   · cases hg
 · cases hg
end Go.Abs
namespace Go.Abs
variable {G : Gi} {A : Nat → Prop} {σ σ' τ τ' : Sg}
structure Ag (G : Gi) (A : Nat → Prop) (σ σ' : Sg) : Prop where
 eq : ∀ s, A s → σ' s = σ s
 ri : ∀ s, A s → rin (G.rtOf s) (σ s) = true
structure Mv (G : Gi) (A : Nat → Prop) (σ σ' τ τ' : Sg) : Prop where
 ag : Ag G A τ τ'
 off : ∀ s, ¬ A s → τ' s = σ' s ∧ τ s = σ s
structure Cl (G : Gi) (A : Nat → Prop) (s : Nat) : Prop where
 own : A s
 als : ∀ x ∈ G.als s, A x
 rt : ∀ r ∈ G.rtOf s, A r ∧ ∀ x ∈ G.als r, A x
def ClA (G : Gi) (A : Nat → Prop) : Ar → Prop
 | .t s => Cl G A s
 | .c a => rin [] a = true
theorem Mv.refl (h : Ag G A σ σ') : Mv G A σ σ' σ σ' := ⟨h, fun _ _ => ⟨rfl, rfl⟩⟩
theorem Mv.trans {υ υ' : Sg} (h : Mv G A σ σ' τ τ') (h' : Mv G A τ τ' υ υ') : Mv G A σ σ' υ υ' :=
 ⟨h'.ag, fun s hs => ⟨(h'.off s hs).1.trans (h.off s hs).1, (h'.off s hs).2.trans (h.off s hs).2⟩⟩
theorem rin_killr' (L : List Nat) (d : Nat) : ∀ (a : AV), rin L a = true → rin L (killr d a) = true
 | .al r p, h => by
  rw [killr_al]; split
  · simp
  · exact h
 | .adr r p i j k, h => by
  rw [killr_adr]; split
  · simp
  · exact h
 | .agg cs, h => by
  rw [rin_agg, List.all_eq_true] at h
  rw [killr_agg, rin_agg, List.all_map, List.all_eq_true]
  intro c hc
  exact rin_killr' L d c (h c hc)
 | .tup cs, h => by
  rw [rin_tup, List.all_eq_true] at h
  rw [killr_tup, rin_tup, List.all_map, List.all_eq_true]
  intro c hc
  exact rin_killr' L d c (h c hc)
 | .sc _, _ => by simp
 | .sl .., _ => by simp
 | .own .., _ => by simp
 | .fp _, _ => by simp
 | .dead, _ => by simp
 | .un, _ => by simp
 | .fcl .., _ => by simp [killr, rin]
 | .vb s o us, h => by
  rw [killr_vb]; split
  · simp
  · exact h
 | .cl f rs, h => by
  rw [killr_cl]; split
  · exact h
  · simp
theorem rin_put {L : List Nat} (p : List Step) : ∀ {t x t' : AV}, put t p x = some t' → rin L t = true → rin L x = true → rin L t' = true := by
 induction p with
 | nil =>
  intro t x t' h _ hx
  have : t' = x := by cases t <;> simp [put] at h <;> exact h.symm
  subst this; exact hx
 | cons s p ih =>
  obtain ⟨i, j, k⟩ := s
  intro t x t' h ht hx
  cases t with
  | own b k rows =>
   simp only [put] at h
   split at h
   · split at h
     · split at h
       · cases h; simp
       · cases h
     · cases h
   · cases h
  | agg cs =>
   simp only [put] at h
   split at h
   · rename_i c hc
     split at h
     · rename_i c' hc'
       cases h
       rw [rin_agg, List.all_eq_true] at ht ⊢
       intro e he
       rcases List.mem_or_eq_of_mem_set he with he | rfl
       · exact ht e he
       · exact ih hc' (ht c (List.mem_of_getElem? hc)) hx
     · cases h
   · cases h
  | tup cs =>
   simp only [put] at h
   split at h
   · rename_i c hc
     split at h
     · rename_i c' hc'
       cases h
       rw [rin_tup, List.all_eq_true] at ht ⊢
       intro e he
       rcases List.mem_or_eq_of_mem_set he with he | rfl
       · exact ht e he
       · exact ih hc' (ht c (List.mem_of_getElem? hc)) hx
     · cases h
   · cases h
  | _ => simp [put] at h
theorem Ag.kup (h : Ag G A σ σ') {r : Nat} {t : AV} (hr : A r) (ha : ∀ x ∈ G.als r, A x) (ht : rin (G.rtOf r) t = true) : Mv G A σ σ' (upd (killS G r σ) r t) (upd (killS G r σ') r t) := by
 refine ⟨⟨fun s hs => ?_, fun s hs => ?_⟩, fun s hs => ?_⟩
 · simp only [upd, killS, h.eq s hs]
 · simp only [upd, killS]
   split
   · rename_i e; subst e; exact ht
   · split
     · exact rin_killr' _ _ _ (h.ri s hs)
     · exact h.ri s hs
 · have h1 : s ≠ r := fun e => hs (e ▸ hr)
   have h2 : s ∉ G.als r := fun e => hs (ha s e)
   simp [upd, killS, h1, h2]
theorem Ag.up (h : Ag G A σ σ') {r : Nat} {t : AV} (hr : A r) (ht : rin (G.rtOf r) t = true) : Mv G A σ σ' (upd σ r t) (upd σ' r t) := by
 refine ⟨⟨fun s hs => ?_, fun s hs => ?_⟩, fun s hs => ?_⟩
 · simp only [upd, h.eq s hs]
 · simp only [upd]
   split
   · rename_i e; subst e; exact ht
   · exact h.ri s hs
 · have h1 : s ≠ r := fun e => hs (e ▸ hr)
   simp [upd, h1]
theorem Ag.kupn (h : Ag G A σ σ') (n : Nat) {r : Nat} {t : AV} (hr : A r) (ha : ∀ x ∈ G.als r, A x) (ht : rin (G.rtOf r) t = true) : Mv G A σ σ' (upd (killnS G n r σ) r t) (upd (killnS G n r σ') r t) := by
 refine ⟨⟨fun s hs => ?_, fun s hs => ?_⟩, fun s hs => ?_⟩
 · simp only [upd, killnS, h.eq s hs]
 · simp only [upd, killnS]
   split
   · rename_i e; subst e; exact ht
   · split
     · exact killn_rin _ _ _ _ (h.ri s hs)
     · exact h.ri s hs
 · have h1 : s ≠ r := fun e => hs (e ▸ hr)
   have h2 : s ∉ G.als r := fun e => hs (ha s e)
   simp [upd, killnS, h1, h2]
theorem tk1_loc (h : Ag G A σ σ') {r : Nat} {p : List Step} {v : AV} (hr : A r) (ha : ∀ x ∈ G.als r, A x) (ht : tk1 G r p σ = some (v, τ)) : ∃ τ', tk1 G r p σ' = some (v, τ') ∧ Mv G A σ σ' τ τ' := by
 unfold tk1 at ht ⊢
 rw [h.eq r hr]
 split at ht
 · rename_i b k rows hs
   split at ht
   · rename_i t hp
     cases ht
     exact ⟨_, rfl, h.kupn _ hr ha (rin_put p hp (h.ri r hr) (by simp))⟩
   · cases ht
 · cases ht
theorem fzAt_loc (h : Ag G A σ σ') {r : Nat} {p : List Step} {v : AV} (hr : A r) (ha : ∀ x ∈ G.als r, A x) (ht : fzAt G r p σ = some (v, τ)) : ∃ τ', fzAt G r p σ' = some (v, τ') ∧ Mv G A σ σ' τ τ' := by
 unfold fzAt at ht ⊢
 rw [h.eq r hr]
 split at ht
 · rename_i b k rows hs
   split at ht
   · rename_i t hp
     cases ht
     refine ⟨_, rfl, h.kup hr ha (rin_put p hp (h.ri r hr) ?_)⟩
     cases b <;> simp
   · cases ht
 · cases ht
theorem tkL_loc (cs : List AV) : ∀ {σ σ' τ : Sg} {l : List AV}, Ag G A σ σ' → (∀ r p, AV.al r p ∈ cs → A r ∧ ∀ x ∈ G.als r, A x) → tkL G cs σ = some (l, τ) → ∃ τ', tkL G cs σ' = some (l, τ') ∧ Mv G A σ σ' τ τ' := by
 induction cs with
 | nil => intro σ σ' τ l h _ ht; simp only [tkL, Option.some.injEq, Prod.mk.injEq] at ht ⊢; obtain ⟨rfl, rfl⟩ := ht; exact ⟨σ', ⟨rfl, rfl⟩, .refl h⟩
 | cons a cs ih =>
  intro σ σ' τ l h hc ht
  have hc' : ∀ r p, AV.al r p ∈ cs → A r ∧ ∀ x ∈ G.als r, A x := fun r p hm => hc r p (by simp [hm])
  have plain : (∀ r p, a ≠ .al r p) → ∃ τ', tkL G (a :: cs) σ' = some (l, τ') ∧ Mv G A σ σ' τ τ' := by
   intro hna
   have e : ∀ σ, tkL G (a :: cs) σ = if cellA a = true then (match tkL G cs σ with | some (l, τ) => some (a :: l, τ) | none => none) else none := by
    intro σ; cases a <;> first | rfl | exact absurd rfl (hna _ _)
   rw [e] at ht ⊢
   split at ht
   · rename_i hca
     rw [if_pos hca]
     split at ht
     · rename_i l' τ1 h1
       cases ht
       obtain ⟨τ', g1, g2⟩ := ih h hc' h1
       exact ⟨τ', by rw [g1], g2⟩
     · cases ht
   · cases ht
  cases a with
  | al r p =>
   obtain ⟨hr, ha⟩ := hc r p (by simp)
   simp only [tkL] at ht ⊢
   split at ht
   · rename_i n τ1 h1
     obtain ⟨τ1', g1, g2⟩ := tk1_loc h hr ha h1
     rw [g1]
     simp only
     split at ht
     · rename_i l' τ2 h2
       cases ht
       obtain ⟨τ2', g3, g4⟩ := ih g2.ag hc' h2
       exact ⟨τ2', by rw [g3], g2.trans g4⟩
     · cases ht
   · cases ht
  | _ => exact plain (by simp)
theorem tk_loc (h : Ag G A σ σ') {x : Ar} {v : AV} (hx : ClA G A x) (ht : tk G x σ = some (v, τ)) : ∃ τ', tk G x σ' = some (v, τ') ∧ Mv G A σ σ' τ τ' := by
 cases x with
 | c a => simp only [tk, Option.some.injEq, Prod.mk.injEq] at ht ⊢; obtain ⟨rfl, rfl⟩ := ht; exact ⟨σ', ⟨rfl, rfl⟩, .refl h⟩
 | t s =>
  have hcl : Cl G A s := hx
  have hs := h.eq s hcl.own
  have hri := h.ri s hcl.own
  simp only [tk] at ht ⊢
  rw [hs]
  cases hv : σ s with
  | al r p =>
   rw [hv] at ht hri
   simp only [rin_al, List.contains_iff_mem] at hri
   obtain ⟨h1, h2⟩ := hcl.rt r hri
   exact tk1_loc h h1 h2 ht
  | own b k rows =>
   rw [hv] at ht
   cases ht
   exact ⟨_, rfl, h.kup hcl.own hcl.als (by simp)⟩
  | agg cs =>
   rw [hv] at ht hri
   simp only at ht ⊢
   split at ht
   · rename_i hp
     cases ht
     rw [if_pos hp]
     exact ⟨σ', rfl, .refl h⟩
   · rename_i hp
     rw [if_neg hp]
     split at ht
     · rename_i l τ1 h1
       cases ht
       have hm := h.kup (t := .dead) hcl.own hcl.als (by simp)
       obtain ⟨τ', g1, g2⟩ := tkL_loc cs hm.ag (by
        intro r p hrp
        rw [rin_agg, List.all_eq_true] at hri
        have := hri _ hrp
        simp only [rin_al, List.contains_iff_mem] at this
        exact hcl.rt r this) h1
       exact ⟨τ', by rw [g1], hm.trans g2⟩
     · cases ht
  | sc => rw [hv] at ht; cases ht; exact ⟨σ', rfl, .refl h⟩
  | sl => rw [hv] at ht; cases ht; exact ⟨σ', rfl, .refl h⟩
  | adr => rw [hv] at ht; cases ht; exact ⟨σ', rfl, .refl h⟩
  | fp => rw [hv] at ht; cases ht; exact ⟨σ', rfl, .refl h⟩
  | _ => rw [hv] at ht; cases ht
theorem tkArgs_loc (xs : List Ar) : ∀ {σ σ' τ : Sg} {l : List AV}, Ag G A σ σ' → (∀ x ∈ xs, ClA G A x) → tkArgs G xs σ = some (l, τ) → ∃ τ', tkArgs G xs σ' = some (l, τ') ∧ Mv G A σ σ' τ τ' := by
 induction xs with
 | nil => intro σ σ' τ l h _ ht; simp only [tkArgs, Option.some.injEq, Prod.mk.injEq] at ht ⊢; obtain ⟨rfl, rfl⟩ := ht; exact ⟨σ', ⟨rfl, rfl⟩, .refl h⟩
 | cons x xs ih =>
  intro σ σ' τ l h hx ht
  simp only [tkArgs] at ht ⊢
  split at ht
  · rename_i a τ1 h1
    obtain ⟨τ1', g1, g2⟩ := tk_loc h (hx x (by simp)) h1
    rw [g1]
    simp only
    split at ht
    · rename_i l' τ2 h2
      cases ht
      obtain ⟨τ2', g3, g4⟩ := ih g2.ag (fun y hy => hx y (by simp [hy])) h2
      exact ⟨τ2', by rw [g3], g2.trans g4⟩
    · cases ht
  · cases ht
theorem tkRaw_loc (xs : List Ar) : ∀ {σ σ' τ : Sg} {l : List AV}, Ag G A σ σ' → (∀ x ∈ xs, ClA G A x) → tkRaw G xs σ = some (l, τ) → ∃ τ', tkRaw G xs σ' = some (l, τ') ∧ Mv G A σ σ' τ τ' := by
 induction xs with
 | nil => intro σ σ' τ l h _ ht; simp only [tkRaw, Option.some.injEq, Prod.mk.injEq] at ht ⊢; obtain ⟨rfl, rfl⟩ := ht; exact ⟨σ', ⟨rfl, rfl⟩, .refl h⟩
 | cons x xs ih =>
  intro σ σ' τ l h hx ht
  simp only [tkRaw] at ht ⊢
  split at ht
  · rename_i a τ1 h1
    obtain ⟨τ1', g1, g2⟩ := tk_loc h (hx x (by simp)) h1
    rw [g1]
    simp only
    split at ht
    · rename_i l' τ2 h2
      cases ht
      obtain ⟨τ2', g3, g4⟩ := ih g2.ag (fun y hy => hx y (by simp [hy])) h2
      exact ⟨τ2', by rw [g3], g2.trans g4⟩
    · cases ht
  · cases ht
theorem bldL_loc (ps : List (Nat × Nat × Ar)) : ∀ {σ σ' τ : Sg} {cs l : List AV}, Ag G A σ σ' → (∀ p ∈ ps, ClA G A p.2.2) → bldL G ps cs σ = some (l, τ) → ∃ τ', bldL G ps cs σ' = some (l, τ') ∧ Mv G A σ σ' τ τ' := by
 induction ps with
 | nil => intro σ σ' τ cs l h _ ht; simp only [bldL, Option.some.injEq, Prod.mk.injEq] at ht ⊢; obtain ⟨rfl, rfl⟩ := ht; exact ⟨σ', ⟨rfl, rfl⟩, .refl h⟩
 | cons p ps ih =>
  obtain ⟨off, n, x⟩ := p
  intro σ σ' τ cs l h hx ht
  simp only [bldL] at ht ⊢
  split at ht
  · rename_i a τ1 h1
    obtain ⟨τ1', g1, g2⟩ := tk_loc h (hx _ (List.mem_cons_self ..)) h1
    rw [g1]
    simp only
    split at ht
    · rename_i hc
      rw [if_pos hc]
      obtain ⟨τ2', g3, g4⟩ := ih g2.ag (fun y hy => hx y (by simp [hy])) ht
      exact ⟨τ2', g3, g2.trans g4⟩
    · cases ht
  · cases ht
theorem bslL_loc (k : Nat) (ps : List (Nat × Ar)) : ∀ {σ σ' τ : Sg} {cs l : List (List AV)}, Ag G A σ σ' → (∀ p ∈ ps, ClA G A p.2) → bslL G k ps cs σ = some (l, τ) → ∃ τ', bslL G k ps cs σ' = some (l, τ') ∧ Mv G A σ σ' τ τ' := by
 induction ps with
 | nil => intro σ σ' τ cs l h _ ht; simp only [bslL, Option.some.injEq, Prod.mk.injEq] at ht ⊢; obtain ⟨rfl, rfl⟩ := ht; exact ⟨σ', ⟨rfl, rfl⟩, .refl h⟩
 | cons p ps ih =>
  obtain ⟨i, x⟩ := p
  intro σ σ' τ cs l h hx ht
  simp only [bslL] at ht ⊢
  split at ht
  · rename_i a τ1 h1
    obtain ⟨τ1', g1, g2⟩ := tk_loc h (hx _ (List.mem_cons_self ..)) h1
    rw [g1]
    simp only
    split at ht
    · rename_i hc
      rw [if_pos hc]
      obtain ⟨τ2', g3, g4⟩ := ih g2.ag (fun y hy => hx y (by simp [hy])) ht
      exact ⟨τ2', g3, g2.trans g4⟩
    · cases ht
  · cases ht
theorem appY_loc {k : Nat} {y : Ar} {rows : List (List AV)} (h : Ag G A σ σ') (hy : ClA G A y) (ht : appY G k y σ = some (rows, τ)) : ∃ τ', appY G k y σ' = some (rows, τ') ∧ Mv G A σ σ' τ τ' := by
 cases y with
 | c a =>
  simp only [appY] at ht ⊢
  split at ht
  · cases ht; exact ⟨σ', rfl, .refl h⟩
  · cases ht
 | t s =>
  have hcl : Cl G A s := hy
  have hs := h.eq s hcl.own
  have hri := h.ri s hcl.own
  simp only [appY] at ht ⊢
  rw [hs]
  cases hv : σ s with
  | own b k' rows' =>
   rw [hv] at ht
   cases b with
   | true => cases ht
   | false =>
    simp only at ht ⊢
    split at ht
    · rename_i hc; cases ht; rw [if_pos hc]; exact ⟨_, rfl, h.kup hcl.own hcl.als (by simp)⟩
    · cases ht
  | sl e k' rows' =>
   rw [hv] at ht
   simp only at ht ⊢
   split at ht
   · rename_i hc; cases ht; rw [if_pos hc]; exact ⟨_, rfl, .refl h⟩
   · cases ht
  | al r p =>
   rw [hv] at ht hri
   simp only [rin_al, List.contains_iff_mem] at hri
   obtain ⟨h1, h2⟩ := hcl.rt r hri
   simp only at ht ⊢
   split at ht
   · rename_i hf
     obtain ⟨τ1', g1, g2⟩ := fzAt_loc h h1 h2 hf
     rw [g1]
     simp only
     split at ht
     · rename_i hc; cases ht; rw [if_pos hc]; exact ⟨_, rfl, g2⟩
     · cases ht
   · cases ht
  | _ => rw [hv] at ht; cases ht
theorem appX_loc {k : Nat} {x : Ar} {v : AV} (h : Ag G A σ σ') (hy : ClA G A x) (ht : appX G k x σ = some (v, τ)) : ∃ τ', appX G k x σ' = some (v, τ') ∧ Mv G A σ σ' τ τ' := by
 cases x with
 | c a =>
  simp only [appX] at ht ⊢
  split at ht
  · cases ht; exact ⟨σ', rfl, .refl h⟩
  · cases ht
 | t s =>
  have hcl : Cl G A s := hy
  have hs := h.eq s hcl.own
  have hri := h.ri s hcl.own
  simp only [appX] at ht ⊢
  rw [hs]
  cases hv : σ s with
  | own b k' rows' =>
   rw [hv] at ht
   cases b with
   | true => cases ht
   | false =>
    simp only at ht ⊢
    split at ht
    · rename_i hc; cases ht; rw [if_pos hc]; exact ⟨_, rfl, h.kup hcl.own hcl.als (by simp)⟩
    · cases ht
  | sl e k' rows' =>
   rw [hv] at ht
   cases e with
   | false => cases ht
   | true =>
    simp only at ht ⊢
    split at ht
    · rename_i hc; cases ht; rw [if_pos hc]; exact ⟨_, rfl, .refl h⟩
    · cases ht
  | al r p =>
   rw [hv] at ht hri
   simp only [rin_al, List.contains_iff_mem] at hri
   obtain ⟨h1, h2⟩ := hcl.rt r hri
   simp only at ht ⊢
   split at ht
   · rename_i hf
     obtain ⟨τ1', g1, g2⟩ := tk1_loc h h1 h2 hf
     rw [g1]
     simp only
     split at ht
     · rename_i hc; cases ht; rw [if_pos hc]; exact ⟨_, rfl, g2⟩
     · cases ht
   · cases ht
  | _ => rw [hv] at ht; cases ht
end Go.Abs
namespace Go.Abs
variable {G : Gi} {A : Nat → Prop} {σ σ' τ τ' : Sg} {P : Program}
def LkA (G : Gi) (A : Nat → Prop) : Ar → Prop
 | .t s => A s ∧ ∀ r ∈ G.rtOf s, A r
 | .c a => rin [] a = true
theorem Cl.look {s : Nat} (h : Cl G A s) : LkA G A (.t s) := ⟨h.own, fun r hr => (h.rt r hr).1⟩
theorem ClA.look {x : Ar} (h : ClA G A x) : LkA G A x := by
 cases x with
 | t s => exact Cl.look h
 | c => exact h
theorem Ag.ar (h : Ag G A σ σ') {x : Ar} (hx : LkA G A x) : ar σ' x = ar σ x := by
 cases x with
 | t s => exact h.eq s hx.1
 | c => rfl
theorem Ag.root (h : Ag G A σ σ') {s r : Nat} {p : List Step} (hx : LkA G A (.t s)) (hs : σ s = .al r p) : A r := by
 have := h.ri s hx.1
 rw [hs] at this
 simp only [rin_al, List.contains_iff_mem] at this
 exact hx.2 r this
theorem Ag.rootAdr (h : Ag G A σ σ') {s r : Nat} {p : List Step} {i j k : Nat} (hx : LkA G A (.t s)) (hs : σ s = .adr r p i j k) : A r := by
 have := h.ri s hx.1
 rw [hs] at this
 simp only [rin_adr, List.contains_iff_mem] at this
 exact hx.2 r this
theorem Ag.hd (h : Ag G A σ σ') {x : Ar} (hx : LkA G A x) : hd σ' x = hd σ x := by
 cases x with
 | c => rfl
 | t s =>
  unfold Abs.hd
  simp only
  rw [h.eq s hx.1]
  cases hs : σ s with
  | al r p => simp only; rw [h.eq r (h.root hx hs)]
  | _ => rfl
theorem Ag.adrOf (h : Ag G A σ σ') {x : Ar} (hx : LkA G A x) : adrOf σ' x = adrOf σ x := by
 cases x with
 | c => rfl
 | t s =>
  unfold Abs.adrOf
  simp only
  rw [h.eq s hx.1]
  cases hs : σ s with
  | al r p => simp only; rw [h.eq r (h.root hx hs)]
  | own b k rows => cases b <;> rfl
  | _ => rfl
theorem Ag.adrRoot (h : Ag G A σ σ') {x : Ar} (hx : LkA G A x) {r : Nat} {p : List Step} {i j k : Nat} (ha : Abs.adrOf σ x = some (r, p, i, j, k)) : A r := by
 cases x with
 | c => cases ha
 | t s =>
  unfold Abs.adrOf at ha
  simp only at ha
  cases hs : σ s with
  | al r' p' =>
   rw [hs] at ha
   simp only at ha
   split at ha
   · cases ha; exact h.root hx hs
   · cases ha
  | adr r' p' i' j' k' => rw [hs] at ha; cases ha; exact h.rootAdr hx hs
  | own b k' rows => rw [hs] at ha; cases b <;> cases ha; exact hx.1
  | _ => rw [hs] at ha; cases ha
theorem Ag.optI (h : Ag G A σ σ') {x : Option Ar} (hx : ∀ y, x = some y → LkA G A y) (d : Nat) : optI σ' x d = optI σ x d := by
 cases x with
 | none => rfl
 | some y => simp only [Abs.optI]; rw [h.ar (hx y rfl)]
theorem Ag.mxI (h : Ag G A σ σ') {x : Option Ar} (hx : ∀ y, x = some y → LkA G A y) (d : Nat) : mxI σ' x d = mxI σ x d := by
 cases x with
 | none => rfl
 | some y => simp only [Abs.mxI]; rw [h.optI hx]
def reads : IOp → List Ar
 | .cp x => [x]
 | .pick c a b => [c, a, b]
 | .ld _ _ a => [a]
 | .fad _ x => [x]
 | .fld _ _ _ x => [x]
 | .iad _ x i => [x, i]
 | .aad _ _ x i => [x, i]
 | .idx _ _ _ x i => [x, i]
 | .bin _ x y => [x, y]
 | .beq _ x y => [x, y]
 | .un _ x => [x]
 | .cvt _ x => [x]
 | .mm _ x y => [x, y]
 | .len x => [x]
 | .slen x => [x]
 | .sidx x i => [x, i]
 | .seqs _ _ x y => [x, y]
 | .ext x _ => [x]
 | .mk _ _ _ l c => [l, c]
 | .nchk x => [x]
 | .mkf _ xs => xs
 | .lda a => [a]
 | .iadr r _ _ _ i => [.t r, i]
 | .slc _ _ _ lo hi mx => lo.toList ++ hi.toList ++ mx.toList
 | .call _ args m => if m = 1 ∨ m = 3 ∨ m = 4 then [] else args
 | _ => []
def takes : IOp → List Ar
 | .mv x => [x]
 | .fz x => [x]
 | .bx _ x => [x]
 | .bld _ ps => ps.map (·.2.2)
 | .bsl _ _ ps => ps.map (·.2)
 | .st _ a v => [a, v]
 | .sts a v => [a, v]
 | .app _ _ x y => [x, y]
 | .slc _ _ x _ _ _ => [x]
 | .call _ args m => if m = 1 ∨ m = 3 ∨ m = 4 then args else []
 | _ => []
theorem Ag.valOf (h : Ag G A σ σ') (o : IOp) (hx : ∀ x ∈ reads o, LkA G A x) : valOf o σ' = valOf o σ := by
 cases o with
 | cp x =>
  cases x with
  | c => rfl
  | t s => simp only [Abs.valOf]; rw [h.eq s (hx (.t s) (by simp [reads])).1]
 | pick c a b =>
  have h1 := h.ar (hx c (by simp [reads]))
  have h2 := h.ar (hx a (by simp [reads]))
  have h3 := h.ar (hx b (by simp [reads]))
  simp only [Abs.valOf]
  rw [h1]
  cases Abs.ar σ c with
  | sc v =>
   cases v with
   | bool x => cases x <;> simp [h2, h3]
   | _ => rfl
  | _ => rfl
 | ld agg n a =>
  cases a with
  | c => rfl
  | t s =>
   have hl := hx (.t s) (by simp [reads])
   simp only [Abs.valOf]
   rw [h.eq s hl.1]
   cases hs : σ s with
   | fp => rfl
   | vb q o us =>
    have hq : A q := by
     have := h.ri s hl.1
     rw [hs] at this
     simp only [rin_vb, List.contains_iff_mem] at this
     exact hl.2 q this
    simp only
    rw [h.eq q hq]
   | _ =>
    simp only
    rw [h.adrOf hl]
    cases ha : Abs.adrOf σ (.t s) with
    | none => rfl
    | some q => obtain ⟨r, p, i, j, k⟩ := q; simp only; rw [h.eq r (h.adrRoot hl ha)]
 | fad off x =>
  cases x with
  | c => rfl
  | t s =>
   have hl := hx (.t s) (by simp [reads])
   simp only [Abs.valOf]
   rw [h.eq s hl.1, h.adrOf hl]
 | fld agg off n x =>
  cases x with
  | c => rfl
  | t s =>
   have hl := hx (.t s) (by simp [reads])
   simp only [Abs.valOf]
   rw [h.eq s hl.1]
 | iad k x i =>
  simp only [Abs.valOf]
  rw [h.hd (hx x (by simp [reads])), h.ar (hx i (by simp [reads]))]
 | aad len k x i =>
  cases x with
  | c => rfl
  | t s =>
   have hl := hx (.t s) (by simp [reads])
   simp only [Abs.valOf]
   rw [h.ar (hx i (by simp [reads]))]
   cases asI (Abs.ar σ i) with
   | none => rfl
   | some n => simp only; rw [h.eq s hl.1, h.adrOf hl]
 | idx agg len k x i =>
  cases x with
  | c => rfl
  | t s =>
   have hl := hx (.t s) (by simp [reads])
   simp only [Abs.valOf]
   rw [h.ar (hx i (by simp [reads]))]
   cases asI (Abs.ar σ i) with
   | none => rfl
   | some n => simp only; rw [h.eq s hl.1]
 | bin op x y => simp only [Abs.valOf]; rw [h.ar (hx x (by simp [reads])), h.ar (hx y (by simp [reads]))]
 | beq op x y => simp only [Abs.valOf]; rw [h.ar (hx x (by simp [reads])), h.ar (hx y (by simp [reads]))]
 | un op x => simp only [Abs.valOf]; rw [h.ar (hx x (by simp [reads]))]
 | cvt op x => simp only [Abs.valOf]; rw [h.ar (hx x (by simp [reads]))]
 | mm mx x y => simp only [Abs.valOf]; rw [h.ar (hx x (by simp [reads])), h.ar (hx y (by simp [reads]))]
 | len x => simp only [Abs.valOf]; rw [h.hd (hx x (by simp [reads]))]
 | slen x => simp only [Abs.valOf]; rw [h.ar (hx x (by simp [reads]))]
 | seqs neg kd x y => simp only [Abs.valOf]; rw [h.ar (hx x (by simp [reads])), h.ar (hx y (by simp [reads]))]
 | sidx x y => simp only [Abs.valOf]; rw [h.ar (hx x (by simp [reads])), h.ar (hx y (by simp [reads]))]
 | ext x i =>
  cases x with
  | c => rfl
  | t s => simp only [Abs.valOf]; rw [h.eq s (hx (.t s) (by simp [reads])).1]
 | mkf f xs =>
  have key : ∀ l : List Ar, (∀ x ∈ l, LkA G A x) → capL σ' l = capL σ l := by
   intro l
   induction l with
   | nil => intro _; rfl
   | cons x l ih =>
    intro hl
    have h1 := hl x (by simp)
    have h2 := ih fun y hy => hl y (by simp [hy])
    cases x with
    | c => rfl
    | t s =>
     simp only [capL]
     rw [h.eq s h1.1, h2]
     cases hs : σ s with
     | al r p => cases capL σ l <;> first | rfl | (simp only; rw [h.eq r (h.root h1 hs)])
     | own b k rows => cases b <;> cases capL σ l <;> rfl
     | _ => cases capL σ l <;> rfl
  simp only [Abs.valOf]
  rw [key xs (fun x hx' => hx x (by simpa [reads] using hx'))]
 | fl => rfl
 | iadr r off kb k i => simp only [Abs.valOf]; rw [h.eq r (hx (.t r) (by simp [reads])).1, h.ar (hx i (by simp [reads]))]
 | lda a =>
  have hl := hx a (by simp [reads])
  simp only [Abs.valOf]
  rw [h.adrOf hl]
  cases ha : Abs.adrOf σ a with
  | none => rfl
  | some q => obtain ⟨r, p, i, j, k⟩ := q; simp only; rw [h.eq r (h.adrRoot hl ha)]
 | nchk x =>
  have hl := hx x (by simp [reads])
  simp only [Abs.valOf]
  rw [h.ar hl]
  cases x with
  | c a =>
   cases a with
   | al r p => simp [LkA] at hl
   | own b k rows => cases b <;> rfl
   | _ => rfl
  | t s =>
   simp only [Abs.ar]
   cases hs : σ s with
   | al r p => simp only; rw [h.eq r (h.root hl hs)]
   | own b k rows => cases b <;> rfl
   | _ => rfl
 | _ => rfl
variable {W : Nat → Prop}
theorem kills_at (kl : List Nat) (d : Nat) (σ : Sg) (s : Nat) : kills kl d σ s = if s ∈ kl then killr d (σ s) else σ s := by
 cases kl <;> simp [kills]
theorem Ag.mono {R : Nat → Prop} (h : Ag G R σ σ') (hs : ∀ s, A s → R s) : Ag G A σ σ' := ⟨fun s a => h.eq s (hs s a), fun s a => h.ri s (hs s a)⟩
theorem Mv.wr {d : Dst} {v : AV} {υ : Sg} (h : Mv G W σ σ' τ τ') (hd : W d.d ∧ d.rs = G.rtOf d.d) (hk : ∀ x ∈ d.kl, W x) (hw : wr d v τ = some υ) : ∃ υ', wr d v τ' = some υ' ∧ Mv G W σ σ' υ υ' := by
 unfold Abs.wr at hw ⊢
 split at hw
 · rename_i hr
   cases hw
   rw [if_pos hr]
   refine ⟨_, rfl, ⟨fun s hs => ?_, fun s hs => ?_⟩, fun s hs => ?_⟩
   · simp only [upd, kills_at, h.ag.eq s hs]
   · simp only [upd, kills_at]
     split
     · rename_i e; subst e; rw [← hd.2]; exact hr
     · split
       · exact rin_killr' _ _ _ (h.ag.ri s hs)
       · exact h.ag.ri s hs
   · have h1 : s ≠ d.d := fun e => hs (e ▸ hd.1)
     have h2 : s ∉ d.kl := fun e => hs (hk s e)
     simp only [upd, h1, if_false, kills_at, h2]
     exact h.off s hs
 · cases hw
theorem stC_rin {L : List Nat} (p : List Step) (i k : Nat) (cs : List AV) : ∀ {j : Nat} {t t' : AV}, stC p i k j cs t = some t' → rin L t = true → cs.all cellA = true → rin L t' = true := by
 induction cs with
 | nil => intro j t t' h ht _; simp only [stC, Option.some.injEq] at h; subst h; exact ht
 | cons c cs ih =>
  intro j t t' h ht hc
  simp only [List.all_cons, Bool.and_eq_true] at hc
  simp only [stC] at h
  split at h
  · rename_i t1 h1
    exact ih h (rin_put _ h1 ht (cell_rin hc.1)) hc.2
  · cases h
def HasD (G : Gi) (W : Nat → Prop) (d : Option Dst) : Prop := ∀ x, d = some x → (W x.d ∧ x.rs = G.rtOf x.d) ∧ ∀ y ∈ x.kl, W y
theorem eff_loc {R : Nat → Prop} (h : Ag G R σ σ') (hWR : ∀ s, W s → R s) {o : IOp} {d : Option Dst} (ht : ∀ x ∈ takes o, ClA G W x) (hr : ∀ x ∈ reads o, LkA G R x) (hd : HasD G W d) (he : eff G o d σ = some τ) :
 ∃ τ', eff G o d σ' = some τ' ∧ Mv G W σ σ' τ τ' := by
 have hW : Ag G W σ σ' := h.mono hWR
 have val : ∀ d', d = some d' → (match Abs.valOf o σ with | some v => Abs.wr d' v σ | none => none) = some τ → ∃ τ', (match Abs.valOf o σ' with | some v => Abs.wr d' v σ' | none => none) = some τ' ∧ Mv G W σ σ' τ τ' := by
  intro d' hd' he
  rw [h.valOf o hr]
  cases hv : Abs.valOf o σ with
  | none => rw [hv] at he; cases he
  | some v => rw [hv] at he; exact (Mv.refl hW).wr (hd d' hd').1 (hd d' hd').2 he
 cases d with
 | none =>
  cases o with
  | st n a v =>
   simp only [eff] at he ⊢
   split at he
   · rename_i x τ1 h1
     obtain ⟨τ1', g1, g2⟩ := tk_loc hW (ht v (by simp [takes])) h1
     rw [g1]
     simp only
     have hla := (ht a (by simp [takes])).look
     rw [g2.ag.adrOf hla]
     split at he
     · rename_i r p i j k ha
       have hAr : W r := g2.ag.adrRoot hla ha
       have hals : ∀ x ∈ G.als r, W x := by
        have hca := ht a (by simp [takes])
        cases a with
        | c => cases ha
        | t s =>
         have hcl : Cl G W s := hca
         simp only [Abs.adrOf] at ha
         have hri := g2.ag.ri s hcl.own
         cases hs : τ1 s with
         | al r' p' =>
          rw [hs] at ha hri
          simp only at ha
          simp only [rin_al, List.contains_iff_mem] at hri
          split at ha
          · cases ha; exact (hcl.rt _ hri).2
          · cases ha
         | adr r' p' i' j' k' =>
          rw [hs] at ha hri; cases ha
          simp only [rin_adr, List.contains_iff_mem] at hri
          exact (hcl.rt _ hri).2
         | own b k' rows => rw [hs] at ha; cases b <;> cases ha; exact hcl.als
         | _ => rw [hs] at ha; cases ha
       rw [g2.ag.eq r hAr]
       split at he
       · rename_i b0 k0 rows hsub
         split at he
         · rename_i row hrow
           split at he
           · rename_i hc
             rw [if_pos hc]
             split at he
             · rename_i t hst
               have hrt : rin (G.rtOf r) t = true := stC_rin p i k _ hst (g2.ag.ri r hAr) hc.2.1
               split at he
               · rename_i hl
                 cases he
                 rw [if_pos hl]
                 exact ⟨_, rfl, (g2.trans (g2.ag.up hAr hrt))⟩
               · rename_i hl
                 cases he
                 rw [if_neg hl]
                 exact ⟨_, rfl, (g2.trans (g2.ag.kup hAr hals hrt))⟩
             · cases he
           · cases he
         · cases he
       · cases he
     · cases he
   · cases he
  | sts a v =>
   have hla := (ht a (by simp [takes])).look
   simp only [eff] at he ⊢
   rw [hW.ar (ht v (by simp [takes])).look, hW.adrOf hla]
   split at he
   · rename_i u hu
     split at he
     · rename_i r p i j k ha
       have hAr : W r := hW.adrRoot hla ha
       rw [hW.eq r hAr]
       split at he
       · rename_i b0 k0 rows hsub
         split at he
         · rename_i row hrow
           split at he
           · rename_i u0 hc0
             split at he
             · rename_i t hst
               have hrt : rin (G.rtOf r) t = true := stC_rin p i k [.sc u] (j := j) (by simp only [stC]; rw [hst]) (hW.ri r hAr) (by simp [cellA])
               cases he
               exact ⟨_, rfl, hW.up hAr hrt⟩
             · cases he
           · cases he
         · cases he
       · cases he
     · cases he
   · cases he
  | _ => simp [eff] at he
 | some d =>
  obtain ⟨hd1, hd2⟩ := hd d rfl
  cases o with
  | mv x =>
   simp only [eff] at he ⊢
   split at he
   · rename_i v τ1 h1
     obtain ⟨τ1', g1, g2⟩ := tk_loc hW (ht x (by simp [takes])) h1
     rw [g1]
     exact g2.wr hd1 hd2 he
   · cases he
  | fz x =>
   cases x with
   | c => simp [eff] at he
   | t s =>
    have hcl : Cl G W s := ht (.t s) (by simp [takes])
    have hri := hW.ri s hcl.own
    simp only [eff] at he ⊢
    rw [hW.eq s hcl.own]
    cases hs : σ s with
    | al r p =>
     rw [hs] at he hri
     simp only [rin_al, List.contains_iff_mem] at hri
     simp only at he ⊢
     split at he
     · rename_i v τ1 h1
       obtain ⟨τ1', g1, g2⟩ := fzAt_loc hW (hcl.rt r hri).1 (hcl.rt r hri).2 h1
       rw [g1]
       exact g2.wr hd1 hd2 he
     · cases he
    | own b k rows =>
     rw [hs] at he
     simp only at he ⊢
     split at he
     · rename_i v τ1 h1
       obtain ⟨τ1', g1, g2⟩ := fzAt_loc hW hcl.own hcl.als h1
       rw [g1]
       exact g2.wr hd1 hd2 he
     · cases he
    | sc v => rw [hs] at he; exact (Mv.refl hW).wr hd1 hd2 he
    | sl e k rows => rw [hs] at he; exact (Mv.refl hW).wr hd1 hd2 he
    | _ => rw [hs] at he; cases he
  | bx n x =>
   simp only [eff] at he ⊢
   split at he
   · rename_i v τ1 h1
     obtain ⟨τ1', g1, g2⟩ := tk_loc hW (ht x (by simp [takes])) h1
     rw [g1]
     simp only
     split at he
     · rename_i hc; rw [if_pos hc]; exact g2.wr hd1 hd2 he
     · cases he
   · cases he
  | bld z ps =>
   simp only [eff] at he ⊢
   split at he
   · rename_i v τ1 h1
     obtain ⟨τ1', g1, g2⟩ := bldL_loc ps hW (fun p hp => ht _ (by simp only [takes, List.mem_map]; exact ⟨p, hp, rfl⟩)) h1
     rw [g1]
     exact g2.wr hd1 hd2 he
   · cases he
  | bsl k z ps =>
   simp only [eff] at he ⊢
   split at he
   · rename_i v τ1 h1
     obtain ⟨τ1', g1, g2⟩ := bslL_loc k ps hW (fun p hp => ht _ (by simp only [takes, List.mem_map]; exact ⟨p, hp, rfl⟩)) h1
     rw [g1]
     exact g2.wr hd1 hd2 he
   · cases he
  | mk k bytes z l c =>
   simp only [eff] at he ⊢
   rw [h.ar (hr l (by simp [reads])), h.ar (hr c (by simp [reads]))]
   split at he
   · rename_i l' c' h1 h2
     split at he
     · rename_i hc; rw [if_pos hc]; exact (Mv.refl hW).wr hd1 hd2 he
     · cases he
   · cases he
  | slc k fr x lo hi mx =>
   have hcx := ht x (by simp [takes])
   have hlo : ∀ y, lo = some y → LkA G R y := fun y hy => hr y (by simp [reads, hy])
   have hhi : ∀ y, hi = some y → LkA G R y := fun y hy => hr y (by simp [reads, hy])
   have hmx : ∀ y, mx = some y → LkA G R y := fun y hy => hr y (by simp [reads, hy])
   simp only [eff] at he ⊢
   rw [hW.hd hcx.look]
   have eo : ∀ d, Abs.optI σ' lo d = Abs.optI σ lo d := h.optI hlo
   have eh : ∀ d, Abs.optI σ' hi d = Abs.optI σ hi d := h.optI hhi
   have em : ∀ d, Abs.mxI σ' mx d = Abs.mxI σ mx d := h.mxI hmx
   simp only [eo, eh, em]
   split at he
   · rename_i e k' rows q hhd
     try rw [hhd]
     try simp only
     split at he
     · rename_i l hh h1 h2
       try rw [h1, h2]
       try simp only
       split at he
       · rename_i rs m h3 h4
         try rw [h3, h4]
         try simp only
         split at he
         · rename_i hc; rw [if_pos hc]; exact (Mv.refl hW).wr hd1 hd2 he
         · cases he
       · cases he
     · cases he
   · rename_i k' rows r p hhd
     have hroot : W r ∧ ∀ x ∈ G.als r, W x := by
      cases x with
      | c a => cases a <;> cases hhd
      | t s =>
       have hcl : Cl G W s := hcx
       have hri := hW.ri s hcl.own
       simp only [Abs.hd] at hhd
       cases hs : σ s with
       | al r' p' =>
        rw [hs] at hhd hri
        simp only [rin_al, List.contains_iff_mem] at hri
        simp only at hhd
        split at hhd
        · cases hhd; exact hcl.rt _ hri
        · cases hhd
       | own b k rows => rw [hs] at hhd; cases hhd; exact ⟨hcl.own, hcl.als⟩
       | sl => rw [hs] at hhd; cases hhd
       | _ => rw [hs] at hhd; cases hhd
     try rw [hhd]
     try simp only
     split at he
     · rename_i l hh h1 h2
       try rw [h1, h2]
       try simp only
       split at he
       · rename_i rs m h3 h4
         try rw [h3, h4]
         try simp only
         split at he
         · rename_i hc
           rw [if_pos hc]
           split at he
           · rename_i hf
             rw [if_pos hf]
             split at he
             · rename_i v τ1 h5
               obtain ⟨τ1', g1, g2⟩ := fzAt_loc hW hroot.1 hroot.2 h5
               rw [g1]
               exact g2.wr hd1 hd2 he
             · cases he
           · rename_i hf
             rw [if_neg hf]
             split at he
             · rename_i hl
               rw [if_pos hl]
               split at he
               · rename_i v τ1 h5
                 obtain ⟨τ1', g1, g2⟩ := tk1_loc hW hroot.1 hroot.2 h5
                 rw [g1]
                 exact g2.wr hd1 hd2 he
               · cases he
             · cases he
         · cases he
       · cases he
     · cases he
   · cases he
  | app k bytes x y =>
   simp only [eff] at he ⊢
   split at he
   · rename_i ys τ1 h1
     obtain ⟨τ1', g1, g2⟩ := appY_loc hW (ht y (by simp [takes])) h1
     rw [g1]
     simp only
     split at he
     · rename_i b k' rows τ2 h2
       obtain ⟨τ2', g3, g4⟩ := appX_loc g2.ag (ht x (by simp [takes])) h2
       rw [g3]
       simp only
       split at he
       · rename_i hc; rw [if_pos hc]; exact (g2.trans g4).wr hd1 hd2 he
       · cases he
     · rename_i e k' rows τ2 h2
       obtain ⟨τ2', g3, g4⟩ := appX_loc g2.ag (ht x (by simp [takes])) h2
       rw [g3]
       simp only
       split at he
       · exact (g2.trans g4).wr hd1 hd2 he
       · split at he
         · rename_i hc; rw [if_pos hc]; exact (g2.trans g4).wr hd1 hd2 he
         · cases he
     · cases he
   · cases he
  | st => simp [eff, Abs.valOf] at he
  | call => simp [eff, Abs.valOf] at he
  | bad => simp [eff, Abs.valOf] at he
  | _ => exact val d rfl he
end Go.Abs
namespace Go.Abs
variable {G : Gi} {A : Nat → Prop} {σ σ' τ τ' : Sg} {P : Program}
theorem toDst_step {d : Option Dst} {v : AV} {K : Sg → Prop} {τ : Sg} : toDst d v K τ ↔ ∃ υ, toDst d v (· = υ) τ ∧ K υ := by
 cases d with
 | none => simp [toDst]
 | some d =>
  simp only [toDst]
  split <;> simp
theorem arun_step {o : IOper} {K : Sg → Prop} : arun P G o K σ ↔ ∃ τ, arun P G o (· = τ) σ ∧ K τ := by
 unfold arun
 split
 · split
   · constructor
     · rintro ⟨res, h1, h2⟩
       split at h2
       · obtain ⟨υ, g1, g2⟩ := toDst_step.1 h2
         rename_i v hv
         exact ⟨υ, ⟨res, h1, by rw [hv]; exact g1⟩, g2⟩
       · exact h2.elim
     · rintro ⟨υ, ⟨res, h1, h2⟩, h3⟩
       refine ⟨res, h1, ?_⟩
       split at h2
       · rename_i v hv
         exact toDst_step.2 ⟨υ, h2, h3⟩
       · exact h2.elim
   · simp
 · split <;> simp
theorem aop_step {o : IOper} {K : Sg → Prop} : aop P G o K σ ↔ ∃ τ, aop P G o (· = τ) σ ∧ K τ := by
 unfold aop
 split
 · exact arun_step
 · split
   · split
     · exact arun_step
     · split <;> simp
   · split <;> simp
   · simp
theorem aops_steps (ios : List IOper) : ∀ {σ : Sg} {K : Sg → Prop}, aops P G ios K σ → ∃ q : Nat → Sg, q 0 = σ ∧ (∀ i io, ios[i]? = some io → aop P G io (· = q (i + 1)) (q i)) ∧ K (q ios.length) := by
 induction ios with
 | nil => intro σ K h; exact ⟨fun _ => σ, rfl, by simp, h⟩
 | cons o os ih =>
  intro σ K h
  obtain ⟨τ, h1, h2⟩ := aop_step.1 h
  obtain ⟨q, g1, g2, g3⟩ := ih h2
  refine ⟨fun i => match i with | 0 => σ | i + 1 => q i, rfl, ?_, g3⟩
  intro i io hi
  cases i with
  | zero => simp only [List.getElem?_cons_zero, Option.some.injEq] at hi; subst hi; simp only [g1]; exact h1
  | succ i => simp only [List.getElem?_cons_succ] at hi; exact g2 i io hi
theorem Ag.rdV (h : Ag G A σ σ') {a : AV} (ha : ∀ r p, a = .al r p → A r) : rdV σ' a = rdV σ a := by
 cases a with
 | al r p => simp only [Abs.rdV]; rw [h.eq r (ha r p rfl)]
 | own b k rows => cases b <;> first | rfl | (match rows with | [] => rfl | [_] => rfl | _ :: _ :: _ => rfl)
 | _ => rfl
theorem Ag.rdL (h : Ag G A σ σ') (cs : List AV) : (∀ r p, AV.al r p ∈ cs → A r) → rdL σ' cs = rdL σ cs := by
 induction cs with
 | nil => intro _; rfl
 | cons a cs ih =>
  intro ha
  simp only [Abs.rdL]
  rw [h.rdV (a := a) (fun r p e => ha r p (by simp [e])), ih (fun r p hm => ha r p (by simp [hm]))]
theorem Ag.rdA (h : Ag G A σ σ') {x : Ar} (hx : LkA G A x) : rdA σ' (Abs.ar σ' x) = rdA σ (Abs.ar σ x) := by
 rw [h.ar hx]
 cases x with
 | c a =>
  simp only [Abs.ar]
  cases a with
  | agg cs =>
   simp only [Abs.rdA]
   rw [h.rdL cs (fun r p hm => by
    have hx' : rin [] (.agg cs) = true := hx
    rw [rin_agg, List.all_eq_true] at hx'
    have := hx' _ hm
    simp at this)]
  | al r p => have hx' : rin [] (.al r p) = true := hx; simp at hx'
  | own b k rows => cases b <;> first | rfl | (match rows with | [] => rfl | [_] => rfl | _ :: _ :: _ => rfl)
  | _ => rfl
 | t s =>
  simp only [Abs.ar]
  cases hs : σ s with
  | agg cs =>
   simp only [Abs.rdA]
   rw [h.rdL cs (fun r p hm => by
    have := h.ri s hx.1
    rw [hs, rin_agg, List.all_eq_true] at this
    have := this _ hm
    simp only [rin_al, List.contains_iff_mem] at this
    exact hx.2 r this)]
  | al r p => simp only [Abs.rdA]; exact h.rdV (fun r' p' e => by cases e; exact h.root hx hs)
  | own b k rows => cases b <;> first | rfl | (match rows with | [] => rfl | [_] => rfl | _ :: _ :: _ => rfl)
  | _ => rfl
theorem Ag.rdArgs (h : Ag G A σ σ') (xs : List Ar) : (∀ x ∈ xs, LkA G A x) → rdArgs σ' xs = rdArgs σ xs := by
 induction xs with
 | nil => intro _; rfl
 | cons x xs ih =>
  intro hx
  simp only [Abs.rdArgs]
  rw [h.rdA (hx x (by simp)), ih (fun y hy => hx y (by simp [hy]))]
theorem Ag.capF (h : Ag G A σ σ') (rs : List (Nat × List Step)) : (∀ x ∈ rs, A x.1) → capF σ' rs = capF σ rs := by
 induction rs with
 | nil => intro _; rfl
 | cons x rs ih =>
  obtain ⟨r, p⟩ := x
  intro hx
  simp only [Abs.capF]
  rw [h.rdV (a := .al r p) (fun r' p' e => by cases e; exact hx (r, p) (by simp)), ih (fun y hy => hx y (by simp [hy]))]
theorem tkLk_loc (ys : List Ar) : ∀ {σ σ' τ : Sg} {as : List AV}, Ag G A σ σ' → (∀ x ∈ ys, ClA G A x) → tkLk G ys σ = some (as, τ) → ∃ τ', tkLk G ys σ' = some (as, τ') ∧ Mv G A σ σ' τ τ' := by
 induction ys with
 | nil => intro σ σ' τ as _ _ ht; simp [tkLk] at ht
 | cons y ys ih =>
  intro σ σ' τ as h hx ht
  have hy := hx y (by simp)
  cases ys with
  | nil =>
   simp only [tkLk] at ht ⊢
   rw [h.ar hy.look]
   split at ht
   · rename_i f rs hcl
     have hroots : ∀ x ∈ rs, A x.1 := by
      intro x hxr
      cases y with
      | c c0 => simp only [Abs.ar] at hcl; subst hcl; have hy' : rin [] (.cl f rs) = true := hy; simp only [rin_cl, List.all_eq_true] at hy'; have := hy' x hxr; simp at this
      | t s =>
       simp only [Abs.ar] at hcl
       have hcl' : Cl G A s := hy
       have := h.ri s hcl'.own
       rw [hcl, rin_cl, List.all_eq_true] at this
       exact (hcl'.rt x.1 (by simpa using this x hxr)).1
     rw [h.capF rs hroots]
     split at ht
     · rename_i css hc
       simp only [Option.some.injEq, Prod.mk.injEq] at ht
       obtain ⟨rfl, rfl⟩ := ht
       exact ⟨σ', rfl, Mv.refl h⟩
     · cases ht
   · cases ht
  | cons y2 ys =>
   simp only [tkLk] at ht ⊢
   split at ht
   · rename_i v τ1 h1
     obtain ⟨τ1', g1, g2⟩ := tk_loc h hy h1
     rw [g1]
     simp only
     split at ht
     · rename_i l τ2 h2
       simp only [Option.some.injEq, Prod.mk.injEq] at ht
       obtain ⟨rfl, rfl⟩ := ht
       obtain ⟨τ2', g3, g4⟩ := ih g2.ag (fun x hx' => hx x (by simp [hx'])) h2
       rw [g3]
       exact ⟨τ2', rfl, g2.trans g4⟩
     · cases ht
   · cases ht
theorem toDst_loc {W : Nat → Prop} {d : Option Dst} {v : AV} {υ : Sg} (h : Mv G W σ σ' τ τ') (hd : HasD G W d) (ht : toDst d v (· = υ) τ) : ∃ υ', toDst d v (· = υ') τ' ∧ Mv G W σ σ' υ υ' := by
 cases d with
 | none => cases ht; exact ⟨τ', rfl, h⟩
 | some d =>
  simp only [toDst] at ht ⊢
  split at ht
  · rename_i x hx
    subst ht
    obtain ⟨υ', g1, g2⟩ := h.wr (hd d rfl).1 (hd d rfl).2 hx
    exact ⟨υ', by rw [g1], g2⟩
  · exact ht.elim
theorem arun_loc {R W : Nat → Prop} (h : Ag G R σ σ') (hWR : ∀ s, W s → R s) {o : IOper} (ht : ∀ x ∈ takes o.op, ClA G W x) (hr : ∀ x ∈ reads o.op, LkA G R x) (hd : HasD G W o.dst) (he : arun P G o (· = τ) σ) :
 ∃ τ', arun P G o (· = τ') σ' ∧ Mv G W σ σ' τ τ' := by
 have hW : Ag G W σ σ' := h.mono hWR
 have plain : ∀ op, o.op = op → (match eff G op o.dst σ with | some υ => υ = τ | none => False) → ∃ τ', (match eff G op o.dst σ' with | some υ => υ = τ' | none => False) ∧ Mv G W σ σ' τ τ' := by
  intro op hop he
  split at he
  · rename_i υ hu
    subst he
    obtain ⟨τ', g1, g2⟩ := eff_loc h hWR (by rw [← hop]; exact ht) (by rw [← hop]; exact hr) hd hu
    exact ⟨τ', by rw [g1], g2⟩
  · exact he.elim
 cases hop : o.op with
 | call f args m =>
  unfold arun at he ⊢
  rw [hop] at he ht hr ⊢
  simp only at he ⊢
  split at he
  · rename_i as τ1 hca
    obtain ⟨res, h1, h2⟩ := he
    have key : ∃ τ1', callArgs G m args σ' = some (as, τ1') ∧ Mv G W σ σ' τ1 τ1' := by
     by_cases hm : m = 1
     · subst hm
       simp only [callArgs] at hca ⊢
       obtain ⟨τ1', g1, g2⟩ := tkArgs_loc args hW (by simpa [takes] using ht) hca
       exact ⟨τ1', g1, g2⟩
     · by_cases hm3 : m = 3
       · subst hm3
         simp only [callArgs] at hca ⊢
         obtain ⟨τ1', g1, g2⟩ := tkRaw_loc args hW (by simpa [takes] using ht) hca
         exact ⟨τ1', g1, g2⟩
       by_cases hm4 : m = 4
       · subst hm4
         simp only [callArgs] at hca ⊢
         obtain ⟨τ1', g1, g2⟩ := tkLk_loc args hW (by simpa [takes] using ht) hca
         exact ⟨τ1', g1, g2⟩
       have e : ∀ σ, callArgs G m args σ = match Abs.rdArgs σ args with | some l => some (l, σ) | none => none := by
        intro σ
        unfold callArgs
        split
        · exact absurd rfl hm
        · exact absurd rfl hm3
        · exact absurd rfl hm4
        · rfl
       rw [e] at hca ⊢
       rw [h.rdArgs args (by simpa [reads, hm, hm3, hm4] using hr)]
       split at hca
       · cases hca; exact ⟨σ', rfl, Mv.refl hW⟩
       · cases hca
    obtain ⟨τ1', g1, g2⟩ := key
    rw [g1]
    simp only
    split at h2
    · rename_i v hv
      obtain ⟨υ', g3, g4⟩ := toDst_loc g2 hd h2
      exact ⟨υ', ⟨res, h1, by rw [hv]; exact g3⟩, g4⟩
    · exact h2.elim
  · exact he.elim
 | _ =>
  unfold arun at he ⊢
  rw [hop] at he ⊢
  exact plain _ hop he
theorem aop_loc {R W : Nat → Prop} (h : Ag G R σ σ') (hWR : ∀ s, W s → R s) {o : IOper} (ht : ∀ x ∈ takes o.op, ClA G W x) (hr : ∀ x ∈ reads o.op, LkA G R x) (hd : HasD G W o.dst) (hg : ∀ g, o.guard = some g → R g.1) (he : aop P G o (· = τ) σ) :
 ∃ τ', aop P G o (· = τ') σ' ∧ Mv G W σ σ' τ τ' := by
 have hW : Ag G W σ σ' := h.mono hWR
 have skip : (match o.dst with | some d => upd (kills d.kl d.d σ) d.d .un = τ | none => σ = τ) → ∃ τ', (match o.dst with | some d => upd (kills d.kl d.d σ') d.d .un = τ' | none => σ' = τ') ∧ Mv G W σ σ' τ τ' := by
  intro he
  cases hdd : o.dst with
  | none => rw [hdd] at he; subst he; exact ⟨σ', rfl, Mv.refl hW⟩
  | some d =>
   rw [hdd] at he
   subst he
   obtain ⟨h1, h2⟩ := hd d hdd
   have hw : Abs.wr d .un σ = some (upd (kills d.kl d.d σ) d.d .un) := by simp [Abs.wr]
   obtain ⟨υ', g1, g2⟩ := (Mv.refl hW).wr h1 h2 hw
   have hw' : Abs.wr d .un σ' = some (upd (kills d.kl d.d σ') d.d .un) := by simp [Abs.wr]
   rw [hw'] at g1
   cases g1
   exact ⟨_, rfl, g2⟩
 unfold aop at he ⊢
 cases hgd : o.guard with
 | none => rw [hgd] at he; exact arun_loc h hWR ht hr hd he
 | some g =>
  obtain ⟨g, want⟩ := g
  rw [hgd] at he
  simp only at he ⊢
  rw [h.eq g (hg _ hgd)]
  split at he
  · rename_i b hb
    split at he
    · rename_i hbw; simp only [if_pos hbw]; exact arun_loc h hWR ht hr hd he
    · rename_i hbw; simp only [if_neg hbw]; exact skip he
  · exact skip he
  · exact he.elim
end Go.Abs
namespace Go.Abs
variable {G : Gi} {P : Program}
def spanT (G : Gi) : Ar → List Nat
 | .t s => s :: G.als s ++ (G.rtOf s).flatMap (fun r => r :: G.als r)
 | .c _ => []
def spanR (G : Gi) : Ar → List Nat
 | .t s => s :: G.rtOf s
 | .c _ => []
def wset (G : Gi) (o : IOper) : List Nat := (takes o.op).flatMap (spanT G) ++ (match o.dst with | some d => d.d :: d.kl | none => [])
def rset (G : Gi) (o : IOper) : List Nat := wset G o ++ (reads o.op).flatMap (spanR G) ++ (match o.guard with | some g => [g.1] | none => [])
def cOK : Ar → Bool
 | .t _ => true
 | .c a => rin [] a
def argsOK (o : IOper) : Bool := (takes o.op).all cOK && (reads o.op).all cOK
theorem aop_reach {σ σ' τ : Sg} {o : IOper} (hc : argsOK o = true) (hrs : ∀ d, o.dst = some d → d.rs = G.rtOf d.d) (h : Ag G (· ∈ rset G o) σ σ') (he : aop P G o (· = τ) σ) : ∃ τ', aop P G o (· = τ') σ' ∧ Mv G (· ∈ wset G o) σ σ' τ τ' := by
 simp only [argsOK, Bool.and_eq_true, List.all_eq_true] at hc
 refine aop_loc h (fun s hs => by simp only [rset, List.mem_append]; exact .inl (.inl hs)) ?_ ?_ ?_ ?_ he
 · intro x hx
   cases x with
   | c a => exact hc.1 _ hx
   | t s =>
    have key : ∀ y ∈ spanT G (.t s), y ∈ wset G o := fun y hy => by simp only [wset, List.mem_append, List.mem_flatMap]; exact .inl ⟨_, hx, hy⟩
    refine ⟨key _ (by simp [spanT]), fun x hx => key _ (by simp [spanT, hx]), fun r hr => ⟨key _ ?_, fun x hx => key _ ?_⟩⟩
    · simp only [spanT, List.cons_append, List.mem_cons, List.mem_append, List.mem_flatMap]; exact .inr (.inr ⟨r, hr, .inl rfl⟩)
    · simp only [spanT, List.cons_append, List.mem_cons, List.mem_append, List.mem_flatMap]; exact .inr (.inr ⟨r, hr, .inr hx⟩)
 · intro x hx
   cases x with
   | c a => exact hc.2 _ hx
   | t s =>
    have key : ∀ y ∈ spanR G (.t s), y ∈ rset G o := fun y hy => by simp only [rset, List.mem_append, List.mem_flatMap]; exact .inl (.inr ⟨_, hx, hy⟩)
    exact ⟨key _ (by simp [spanR]), fun r hr => key _ (by simp [spanR, hr])⟩
 · intro d hd
   refine ⟨⟨?_, hrs d hd⟩, fun y hy => ?_⟩
   · simp only [wset, hd, List.mem_append]; exact .inr (List.mem_cons_self ..)
   · simp only [wset, hd, List.mem_append, List.mem_cons]; exact .inr (.inr hy)
 · intro g hg
   simp only [rset, hg, List.mem_append]; exact .inr (List.mem_cons_self ..)
theorem aop_off {σ τ : Sg} {o : IOper} (hc : argsOK o = true) (hrs : ∀ d, o.dst = some d → d.rs = G.rtOf d.d) (hri : ∀ s, rin (G.rtOf s) (σ s) = true) (he : aop P G o (· = τ) σ) : (∀ s, s ∉ wset G o → τ s = σ s) ∧ ∀ s, rin (G.rtOf s) (τ s) = true := by
 obtain ⟨τ', _, h⟩ := aop_reach hc hrs (⟨fun _ _ => rfl, fun s _ => hri s⟩ : Ag G (· ∈ rset G o) σ σ) he
 refine ⟨fun s hs => (h.off s hs).2, fun s => ?_⟩
 by_cases hs : s ∈ wset G o
 · exact h.ag.ri s hs
 · rw [(h.off s hs).2]; exact hri s
def lastW (L : Nat → Bool) (W : Nat → List Nat) (s : Nat) : Nat → Nat
 | 0 => 0
 | m + 1 => if L m = true ∧ s ∈ W m then m + 1 else lastW L W s m
section
variable {q : Nat → Sg} {L L' : Nat → Bool} {W R : Nat → List Nat} {n i : Nat}
theorem lastW_at (hi : L i = false) (hin : i < n) (hoff : ∀ j s, j < n → s ∉ W j → q (j + 1) s = q j s)
 (hpre : ∀ j s, j < i → s ∈ W j → s ∈ R i → L j = true) (hpost : ∀ j s, i < j → j < n → s ∈ W j → s ∈ R i → L j = true → L i = true) {s : Nat} (hs : s ∈ R i) : q (lastW L W s n) s = q i s := by
 have : ∀ m, m ≤ n → q (lastW L W s m) s = q (min m i) s := by
  intro m
  induction m with
  | zero => intro _; simp [lastW]
  | succ m ih =>
   intro hm
   simp only [lastW]
   by_cases h1 : m < i
   · rw [show min (m + 1) i = m + 1 from by omega]
     by_cases h2 : s ∈ W m
     · rw [if_pos ⟨hpre m s h1 h2 hs, h2⟩]
     · rw [if_neg (fun h => h2 h.2), ih (by omega), show min m i = m from by omega, hoff m s (by omega) h2]
   · rw [if_neg, ih (by omega), show min m i = i from by omega, show min (m + 1) i = i from by omega]
     rintro ⟨h3, h4⟩
     by_cases h5 : m = i
     · subst h5; rw [hi] at h3; cases h3
     · have := hpost m s (by omega) (by omega) h4 hs h3
       rw [hi] at this; cases this
 rw [this n (Nat.le_refl _), show min n i = i from by omega]
theorem lastW_in (hin : i < n) (hL : ∀ j, L' j = (L j || j == i)) (hi : L i = false) (hpost : ∀ j s, i < j → j < n → s ∈ W j → s ∈ W i → L j = true → L i = true) {s : Nat} (hs : s ∈ W i) : lastW L' W s n = i + 1 := by
 have : ∀ m, i < m → m ≤ n → lastW L' W s m = i + 1 := by
  intro m
  induction m with
  | zero => intro h; omega
  | succ m ih =>
   intro h1 h2
   simp only [lastW]
   by_cases h3 : m = i
   · subst h3; rw [if_pos ⟨by simp [hL], hs⟩]
   · rw [if_neg, ih (by omega) (by omega)]
     rintro ⟨h4, h5⟩
     rw [hL] at h4
     have h6 : L m = true := by simpa [h3] using h4
     have := hpost m s (by omega) (by omega) h5 hs h6
     rw [hi] at this; cases this
 exact this n hin (Nat.le_refl _)
theorem lastW_out (hL : ∀ j, L' j = (L j || j == i)) {s : Nat} (hs : s ∉ W i) (m : Nat) : lastW L' W s m = lastW L W s m := by
 induction m with
 | zero => rfl
 | succ m ih =>
  simp only [lastW, ih, hL]
  by_cases h : m = i
  · subst h; simp [hs]
  · simp [h]
theorem lastW_all (hall : ∀ j, j < n → L j = true) (hoff : ∀ j s, j < n → s ∉ W j → q (j + 1) s = q j s) (s : Nat) : ∀ m, m ≤ n → q (lastW L W s m) s = q m s := by
 intro m
 induction m with
 | zero => intro _; rfl
 | succ m ih =>
  intro hm
  simp only [lastW]
  by_cases h : s ∈ W m
  · rw [if_pos ⟨hall m (by omega), h⟩]
  · rw [if_neg (fun x => h x.2), ih (by omega), hoff m s (by omega) h]
end
end Go.Abs
namespace Go.Abs
variable {G : Gi} {P : Program} {w : World}
def msk (l : List Nat) : Nat := l.foldr (fun s m => m ||| 2 ^ s) 0
theorem msk_bit {l : List Nat} {s : Nat} (h : s ∈ l) : (msk l).testBit s = true := by
 induction l with
 | nil => cases h
 | cons a l ih =>
  simp only [msk, List.foldr_cons, Nat.testBit_or, Bool.or_eq_true]
  simp only [List.mem_cons] at h
  rcases h with rfl | h
  · exact .inr (by simp)
  · exact .inl (ih h)
theorem msk_apart {a b : List Nat} (h : msk a &&& msk b = 0) {s : Nat} (ha : s ∈ a) (hb : s ∈ b) : False := by
 have : (msk a &&& msk b).testBit s = true := by rw [Nat.testBit_and, msk_bit ha, msk_bit hb]; rfl
 rw [h] at this
 simp at this
def bef (M : List Nat) (o : Oper) : Nat := o.after.toList.foldr (fun e s => if Region.binds .any e = true then s ||| 2 ^ e.on ||| M.getD e.on 0 else s) 0
theorem bef_bit {M : List Nat} {o : Oper} {i : Nat} (h : (bef M o).testBit i = true) : ∃ e ∈ o.after.toList, Region.binds .any e = true ∧ (e.on = i ∨ (M.getD e.on 0).testBit i = true) := by
 unfold bef at h
 generalize o.after.toList = l at h
 induction l with
 | nil => simp at h
 | cons e l ih =>
  simp only [List.foldr_cons] at h
  split at h
  · rename_i hb
    simp only [Nat.testBit_or, Bool.or_eq_true] at h
    rcases h with (h | h) | h
    · obtain ⟨e', h1, h2⟩ := ih h; exact ⟨e', by simp [h1], h2⟩
    · exact ⟨e, by simp, hb, .inl (by simpa [Nat.testBit_two_pow] using h)⟩
    · exact ⟨e, by simp, hb, .inr h⟩
  · obtain ⟨e', h1, h2⟩ := ih h; exact ⟨e', by simp [h1], h2⟩
def befs : List Oper → List Nat → List Nat
 | [], M => M
 | o :: os, M => befs os (M ++ [bef M o])
def chkPairs (M Ws Rs : List Nat) (j : Nat) : Nat → Bool
 | 0 => true
 | i + 1 => ((Ws.getD i 0 &&& Rs.getD j 0 == 0 && Rs.getD i 0 &&& Ws.getD j 0 == 0) || (M.getD j 0).testBit i) && chkPairs M Ws Rs j i
theorem chkPairs_spec {M Ws Rs : List Nat} {j n : Nat} (h : chkPairs M Ws Rs j n = true) : ∀ i, i < n → (Ws.getD i 0 &&& Rs.getD j 0 = 0 ∧ Rs.getD i 0 &&& Ws.getD j 0 = 0) ∨ (M.getD j 0).testBit i = true := by
 induction n with
 | zero => intro i hi; omega
 | succ n ih =>
  simp only [chkPairs, Bool.and_eq_true, Bool.or_eq_true, beq_iff_eq] at h
  intro i hi
  by_cases e : i = n
  · subst e; exact h.1
  · exact ih h.2 i (by omega)
def ordRows (M Ws Rs : List Nat) : Nat → List Oper → Bool
 | _, [] => true
 | j, o :: os => M.getD j 0 == bef M o && (o.after.toList.all fun e => !Region.binds .any e || decide (e.on < j)) && chkPairs M Ws Rs j j && ordRows M Ws Rs (j + 1) os
theorem ordRows_spec {M Ws Rs : List Nat} (os : List Oper) : ∀ {j0 : Nat}, ordRows M Ws Rs j0 os = true → ∀ i o, os[i]? = some o → M.getD (j0 + i) 0 = bef M o ∧ (∀ e ∈ o.after.toList, Region.binds .any e = true → e.on < j0 + i) ∧ ∀ x, x < j0 + i → (Ws.getD x 0 &&& Rs.getD (j0 + i) 0 = 0 ∧ Rs.getD x 0 &&& Ws.getD (j0 + i) 0 = 0) ∨ (M.getD (j0 + i) 0).testBit x = true := by
 induction os with
 | nil => intro j0 _ i o h; simp at h
 | cons o os ih =>
  intro j0 h i o' ho
  simp only [ordRows, Bool.and_eq_true, beq_iff_eq, List.all_eq_true, Bool.or_eq_true, Bool.not_eq_true', decide_eq_true_eq] at h
  obtain ⟨⟨⟨h1, h2⟩, h3⟩, h4⟩ := h
  cases i with
  | zero =>
   simp only [List.getElem?_cons_zero, Option.some.injEq] at ho
   subst ho
   refine ⟨h1, fun e he hb => (h2 e he).resolve_left (by simp [hb]), chkPairs_spec h3⟩
  | succ i =>
   simp only [List.getElem?_cons_succ] at ho
   have := ih h4 i o' ho
   rw [show j0 + 1 + i = j0 + (i + 1) from by omega] at this
   exact this
theorem chkOps_at {n : Nat} {all : Array Oper} (os : List Oper) : ∀ {ios : List IOper}, chkOps P G n all os ios = true → os.length = ios.length ∧ ∀ (i : Nat) o io, os[i]? = some o → ios[i]? = some io → chkOper P G n all o io = true := by
 induction os with
 | nil => intro ios h; cases ios <;> simp [chkOps] at h ⊢
 | cons o os ih =>
  intro ios h
  cases ios with
  | nil => simp [chkOps] at h
  | cons io ios =>
   simp only [chkOps, Bool.and_eq_true] at h
   obtain ⟨g1, g2⟩ := ih h.2
   refine ⟨by simp [g1], ?_⟩
   intro i o' io' h1 h2
   cases i with
   | zero => simp only [List.getElem?_cons_zero, Option.some.injEq] at h1 h2; subst h1; subst h2; exact h.1
   | succ i => exact g2 i o' io' h1 h2
theorem countP_lt {p p' : Nat → Bool} (h : ∀ j, p' j = true → p j = true) {i : Nat} (h1 : p i = true) (h2 : p' i = false) : ∀ N, i < N → (List.range N).countP p' < (List.range N).countP p := by
 have le : ∀ N, (List.range N).countP p' ≤ (List.range N).countP p := fun N => List.countP_mono_left (fun j _ => h j)
 intro N
 induction N with
 | zero => intro h; omega
 | succ N ih =>
  intro hi
  rw [List.range_succ, List.countP_append, List.countP_append]
  by_cases e : i = N
  · subst e
    have := le i
    simp [h1, h2]
    omega
  · have h3 := ih (by omega)
    have : (List.countP p' [N]) ≤ List.countP p [N] := List.countP_mono_left (fun j _ => h j)
    omega
theorem chkOper_rs {n : Nat} {all : Array Oper} {o : Oper} {io : IOper} (h : chkOper P G n all o io = true) : ∀ d, io.dst = some d → d.rs = G.rtOf d.d := by
 intro d hd
 simp only [chkOper, Bool.and_eq_true] at h
 have h1 := h.1.1
 rw [hd] at h1
 cases ho : o.dst with
 | none => rw [ho] at h1; simp [chkDst] at h1
 | some t => rw [ho] at h1; simp only [chkDst, Bool.and_eq_true, beq_iff_eq] at h1; exact h1.1.2
mutual
def skC : AV → AV
 | .sc _ => .un
 | .own b k rows => .own b k (skR rows)
 | .agg cs => .agg (skL cs)
 | .tup cs => .tup (skL cs)
 | a => a
def skL : List AV → List AV
 | [] => []
 | a :: r => skC a :: skL r
def skR : List (List AV) → List (List AV)
 | [] => []
 | a :: r => skL a :: skR r
end
theorem skL_eq (l : List AV) : skL l = l.map skC := by
 induction l with
 | nil => rfl
 | cons a r ih => simp [skL, ih]
theorem skR_eq (l : List (List AV)) : skR l = l.map skL := by
 induction l with
 | nil => rfl
 | cons a r ih => simp [skR, ih]
def skel : AV → AV
 | .sc v => .sc v
 | a => skC a
theorem skel_skC {a a' : AV} (h : skel a' = skel a) : skC a' = skC a := by
 cases a <;> cases a' <;> simp only [skel, skC] at h ⊢ <;> first | rfl | exact h | cases h
theorem skel_eq {a a' : AV} (h : skel a' = skel a) (ht : match a with | .own .. | .agg _ | .tup _ => False | _ => True) : a' = a := by
 cases a <;> first | exact ht.elim | (cases a' <;> simp only [skel, skC] at h <;> first | rfl | exact h | cases h)
theorem skC_own {a : AV} {b : Bool} {k : Nat} {rows : List (List AV)} (h : skC a = .own b k rows) : ∃ rows', a = .own b k rows' ∧ skR rows' = rows := by
 cases a <;> simp only [skC] at h <;> first | (cases h; done) | (cases h; exact ⟨_, rfl, rfl⟩)
theorem skC_sl {a : AV} {b : Bool} {k : Nat} {rows : List (List AV)} (h : skC a = .sl b k rows) : a = .sl b k rows := by
 cases a <;> simp only [skC] at h <;> first | exact h | cases h
theorem skR_len {r r' : List (List AV)} (h : skR r' = skR r) : r'.length = r.length := by
 have := congrArg List.length h; simpa [skR_eq] using this
theorem skR_at {r r' : List (List AV)} (h : skR r' = skR r) (i : Nat) : (r'[i]?).map skL = (r[i]?).map skL := by
 have := congrArg (·[i]?) h; simpa [skR_eq] using this
theorem skL_at {r r' : List AV} (h : skL r' = skL r) (i : Nat) : (r'[i]?).map skC = (r[i]?).map skC := by
 have := congrArg (·[i]?) h; simpa [skL_eq] using this
theorem sub_sk (p : List Step) : ∀ {a a' : AV}, skC a' = skC a → (sub a' p).map skC = (sub a p).map skC := by
 induction p with
 | nil => intro a a' h; simp [sub, h]
 | cons s p ih =>
  obtain ⟨i, j, k0⟩ := s
  intro a a' h
  have lst : ∀ {cs cs' : List AV}, skL cs' = skL cs → (match cs'[j]? with | some c => sub c p | none => none).map skC = (match cs[j]? with | some c => sub c p | none => none).map skC := by
   intro cs cs' hc
   have := skL_at hc j
   cases h1 : cs[j]? with
   | none => rw [h1] at this; simp at this; simp [this]
   | some c =>
    rw [h1] at this
    simp only [Option.map_some] at this
    obtain ⟨c', h2, h3⟩ := Option.map_eq_some_iff.1 this
    simp only [h2]; exact ih h3
  cases a with
  | own b k rows =>
   obtain ⟨rows', rfl, hr⟩ := skC_own h
   simp only [sub]
   have := skR_at hr i
   cases h1 : rows[i]? with
   | none => rw [h1] at this; simp at this; simp [this]
   | some row =>
    rw [h1] at this
    simp only [Option.map_some] at this
    obtain ⟨row', h2, h3⟩ := Option.map_eq_some_iff.1 this
    simp only [h2]; exact lst h3
  | agg cs => cases a' <;> simp only [skC, AV.agg.injEq, reduceCtorEq] at h; simp only [sub]; exact lst h
  | tup cs => cases a' <;> simp only [skC, AV.tup.injEq, reduceCtorEq] at h; simp only [sub]; exact lst h
  | _ => cases a' <;> simp only [skC] at h <;> first | rfl | cases h
theorem put_sk (q : List Step) : ∀ {a t : AV} {u0 u : Value}, sub a q = some (.sc u0) → put a q (.sc u) = some t → skC t = skC a := by
 induction q with
 | nil => intro a t u0 u h1 h2; simp only [sub, Option.some.injEq] at h1; simp only [put, Option.some.injEq] at h2; subst h1; subst h2; rfl
 | cons s q ih =>
  obtain ⟨i, j, k0⟩ := s
  have lst : ∀ {cs : List AV} {c c' : AV}, cs[j]? = some c → skC c' = skC c → skL (cs.set j c') = skL cs := by
   intro cs c c' h1 h2
   rw [skL_eq, skL_eq, List.map_set, h2]
   obtain ⟨hj, rfl⟩ := List.getElem?_eq_some_iff.1 h1
   apply List.ext_getElem? ; intro m
   rw [List.getElem?_set]
   split
   · rename_i hm; subst hm; simp [hj]
   · rfl
  intro a t u0 u h1 h2
  cases a with
  | own b k rows =>
   simp only [sub] at h1
   simp only [put] at h2
   cases hr : rows[i]? with
   | none => rw [hr] at h1; cases h1
   | some row =>
    rw [hr] at h1 h2
    simp only at h1 h2
    cases hc : row[j]? with
    | none => rw [hc] at h1; cases h1
    | some c =>
     rw [hc] at h1 h2
     simp only at h1 h2
     cases hp : put c q (.sc u) with
     | none => rw [hp] at h2; cases h2
     | some c' =>
      rw [hp] at h2
      obtain rfl := Option.some.inj h2
      simp only [skC, AV.own.injEq, true_and]
      rw [skR_eq, skR_eq, List.map_set, lst hc (ih h1 hp)]
      obtain ⟨hi, rfl⟩ := List.getElem?_eq_some_iff.1 hr
      apply List.ext_getElem? ; intro m
      rw [List.getElem?_set]
      split
      · rename_i hm; subst hm; simp [hi]
      · rfl
  | agg cs =>
   simp only [sub] at h1
   simp only [put] at h2
   cases hc : cs[j]? with
   | none => rw [hc] at h1; cases h1
   | some c =>
    rw [hc] at h1 h2
    simp only at h1 h2
    cases hp : put c q (.sc u) with
    | none => rw [hp] at h2; cases h2
    | some c' =>
     rw [hp] at h2
     obtain rfl := Option.some.inj h2
     simp only [skC, AV.agg.injEq]
     exact lst hc (ih h1 hp)
  | tup cs =>
   simp only [sub] at h1
   simp only [put] at h2
   cases hc : cs[j]? with
   | none => rw [hc] at h1; cases h1
   | some c =>
    rw [hc] at h1 h2
    simp only at h1 h2
    cases hp : put c q (.sc u) with
    | none => rw [hp] at h2; cases h2
    | some c' =>
     rw [hp] at h2
     obtain rfl := Option.some.inj h2
     simp only [skC, AV.tup.injEq]
     exact lst hc (ih h1 hp)
  | _ => simp [sub] at h1
theorem sub_snoc (p : List Step) : ∀ {a : AV} {b : Bool} {k : Nat} {rows : List (List AV)} {row : List AV} {c : AV} {i j k' : Nat}, sub a p = some (.own b k rows) → rows[i]? = some row → row[j]? = some c → sub a (p ++ [(i, j, k')]) = some c := by
 induction p with
 | nil => intro a b k rows row c i j k' h h1 h2; simp only [sub, Option.some.injEq] at h; subst h; simp [sub, h1, h2]
 | cons s p ih =>
  obtain ⟨i0, j0, k0⟩ := s
  intro a b k rows row c i j k' h h1 h2
  cases a with
  | own b0 k1 rows0 =>
   simp only [List.cons_append, sub] at h ⊢
   cases hr : rows0[i0]? with
   | none => rw [hr] at h; cases h
   | some r0 =>
    rw [hr] at h; simp only at h ⊢
    cases hc : r0[j0]? with
    | none => rw [hc] at h; cases h
    | some c0 => rw [hc] at h; exact ih h h1 h2
  | agg cs =>
   simp only [List.cons_append, sub] at h ⊢
   cases hc : cs[j0]? with
   | none => rw [hc] at h; cases h
   | some c0 => rw [hc] at h; exact ih h h1 h2
  | tup cs =>
   simp only [List.cons_append, sub] at h ⊢
   cases hc : cs[j0]? with
   | none => rw [hc] at h; cases h
   | some c0 => rw [hc] at h; exact ih h h1 h2
  | _ => simp [sub] at h
def SkA (G : Gi) (σ σ' : Sg) : Ar → Prop
 | .t s => (∀ r ∈ spanR G (.t s), skel (σ' r) = skel (σ r)) ∧ rin (G.rtOf s) (σ s) = true
 | .c _ => True
theorem sub_own {a a' : AV} {p : List Step} (h : skel a' = skel a) {b : Bool} {k : Nat} {rows : List (List AV)} (hs : sub a p = some (.own b k rows)) : ∃ rows', sub a' p = some (.own b k rows') ∧ skR rows' = skR rows := by
 have := sub_sk p (skel_skC h)
 rw [hs] at this
 simp only [Option.map_some, skC] at this
 obtain ⟨c, h1, h2⟩ := Option.map_eq_some_iff.1 this
 obtain ⟨rows', rfl, h3⟩ := skC_own h2
 exact ⟨rows', h1, h3⟩
theorem sub_slS {a a' : AV} {p : List Step} (h : skel a' = skel a) {b : Bool} {k : Nat} {rows : List (List AV)} (hs : sub a p = some (.sl b k rows)) : sub a' p = some (.sl b k rows) := by
 have := sub_sk p (skel_skC h)
 rw [hs] at this
 simp only [Option.map_some, skC] at this
 obtain ⟨c, h1, h2⟩ := Option.map_eq_some_iff.1 this
 rw [skC_sl h2] at h1
 exact h1
theorem adrOf_sk {σ σ' : Sg} {x : Ar} (h : SkA G σ σ' x) {v : Nat × List Step × Nat × Nat × Nat} (hv : adrOf σ x = some v) : adrOf σ' x = some v ∧ skel (σ' v.1) = skel (σ v.1) := by
 cases x with
 | c => cases hv
 | t s =>
  obtain ⟨hk, hri⟩ := h
  have h0 := hk s (by simp [spanR])
  simp only [adrOf] at hv ⊢
  cases hs : σ s with
  | own b k rows =>
   rw [hs] at hv h0
   obtain ⟨rows', hs', _⟩ := skC_own (show skC (σ' s) = .own b k (skR rows) from by have := skel_skC h0; simpa [skC] using this)
   rw [hs']
   cases b with
   | false => cases hv
   | true =>
    simp only [Option.some.injEq] at hv ⊢
    subst hv
    exact ⟨rfl, by simpa [hs, hs'] using h0⟩
  | al r p =>
   rw [hs] at hv h0 hri
   have e := skel_eq h0 trivial
   rw [e]
   simp only [rin_al, List.contains_iff_mem] at hri
   have hr := hk r (by simp [spanR, hri])
   simp only at hv ⊢
   split at hv
   · rename_i k rows hsub
     obtain ⟨rows', g1, _⟩ := sub_own hr hsub
     rw [g1]
     simp only [Option.some.injEq] at hv ⊢
     subst hv
     exact ⟨rfl, hr⟩
   · cases hv
  | adr r p i j k =>
   rw [hs] at hv h0 hri
   have e := skel_eq h0 trivial
   rw [e]
   simp only [rin_adr, List.contains_iff_mem] at hri
   have hr := hk r (by simp [spanR, hri])
   simp only [Option.some.injEq] at hv ⊢
   subst hv
   exact ⟨rfl, hr⟩
  | _ => rw [hs] at hv; cases hv
theorem sk_fad {σ σ' : Sg} {off : Nat} {x : Ar} (h : SkA G σ σ' x) {v : AV} (hv : valOf (.fad off x) σ = some v) : valOf (.fad off x) σ' = some v := by
 cases x with
 | c => cases hv
 | t s =>
  have h0 := h.1 s (by simp [spanR])
  simp only [valOf] at hv ⊢
  cases hs : σ s with
  | fp cs => rw [hs] at hv h0; rw [skel_eq h0 trivial]; exact hv
  | vb q o us => rw [hs] at hv h0; rw [skel_eq h0 trivial]; exact hv
  | _ =>
   rw [hs] at hv
   simp only at hv
   cases ha : adrOf σ (.t s) with
   | none => rw [ha] at hv; cases hv
   | some q =>
    rw [ha] at hv
    obtain ⟨g1, _⟩ := adrOf_sk h ha
    have hn : ∀ cs, σ' s ≠ .fp cs := fun cs e => by rw [e, hs] at h0; simp [skel, skC] at h0
    have hn2 : ∀ q o us, σ' s ≠ .vb q o us := fun q o us e => by rw [e, hs] at h0; simp [skel, skC] at h0
    cases hs' : σ' s with
    | fp cs => exact absurd hs' (hn cs)
    | vb q o us => exact absurd hs' (hn2 q o us)
    | _ => simp only [g1]; exact hv
theorem sk_lda {σ σ' : Sg} {x : Ar} (h : SkA G σ σ' x) {v : AV} (hv : valOf (.lda x) σ = some v) : valOf (.lda x) σ' = some v := by
 simp only [valOf] at hv ⊢
 split at hv
 · rename_i r p i j k ha
   obtain ⟨g1, g2⟩ := adrOf_sk h ha
   rw [g1]
   simp only at g2 ⊢
   split at hv
   · rename_i b k' rows hsub
     obtain ⟨rows', g3, g4⟩ := sub_own g2 hsub
     rw [g3]
     simp only
     split at hv
     · rename_i row hr
       have := skR_at g4 i
       rw [hr] at this
       obtain ⟨row', g5, g6⟩ := Option.map_eq_some_iff.1 this
       rw [g5]
       simp only
       split at hv
       · rename_i b2 k2 rows2 hc
         have := skL_at g6 j
         rw [hc] at this
         simp only [Option.map_some, skC] at this
         obtain ⟨c', g7, g8⟩ := Option.map_eq_some_iff.1 this
         obtain ⟨rows3, rfl, _⟩ := skC_own g8
         rw [g7]
         exact hv
       · cases hv
     · cases hv
   · cases hv
 · cases hv
theorem sk_iad {σ σ' : Sg} {k : Nat} {x i : Ar} (h : SkA G σ σ' x) (h2 : SkA G σ σ' i) {v : AV} (hv : valOf (.iad k x i) σ = some v) : valOf (.iad k x i) σ' = some v := by
 simp only [valOf] at hv ⊢
 have hi : ∀ n, asI (ar σ i) = some n → asI (ar σ' i) = some n := by
  intro n hn
  cases i with
  | c => exact hn
  | t s =>
   have h0 := h2.1 s (by simp [spanR])
   simp only [ar] at hn ⊢
   cases hs : σ s with
   | sc u => rw [hs] at hn h0; rw [skel_eq h0 trivial]; exact hn
   | _ => rw [hs] at hn; cases hn
 split at hv
 · rename_i k' rows r p n hh hn
   rw [hi n hn]
   have : ∃ rows', hd σ' x = some (.own false k' rows', some (r, p)) ∧ rows'.length = rows.length := by
    cases x with
    | c a => cases a <;> simp [hd] at hh
    | t s =>
     have h0 := h.1 s (by simp [spanR])
     have hri := h.2
     simp only [hd] at hh ⊢
     cases hs : σ s with
     | own b0 k0 rows0 =>
      rw [hs] at hh h0
      simp only [Option.some.injEq, Prod.mk.injEq, AV.own.injEq] at hh
      obtain ⟨⟨rfl, rfl, rfl⟩, rfl, rfl⟩ := hh
      obtain ⟨rows', hs', hk⟩ := skC_own (show skC (σ' s) = .own false k0 (skR rows0) from by have := skel_skC h0; simpa [skC] using this)
      rw [hs']
      exact ⟨rows', rfl, skR_len hk⟩
     | al r0 p0 =>
      rw [hs] at hh h0 hri
      rw [skel_eq h0 trivial]
      simp only [rin_al, List.contains_iff_mem] at hri
      have hr := h.1 r0 (by simp [spanR, hri])
      simp only at hh ⊢
      split at hh
      · rename_i m hm
        simp only [Option.some.injEq, Prod.mk.injEq] at hh
        obtain ⟨rfl, rfl, rfl⟩ := hh
        obtain ⟨rows', g1, g2⟩ := sub_own hr hm
        rw [g1]
        exact ⟨rows', rfl, skR_len g2⟩
      · cases hh
     | _ => rw [hs] at hh; simp at hh
   obtain ⟨rows', g1, g2⟩ := this
   rw [g1]
   simp only [g2]
   exact hv
 · rename_i b k' rows o n hh hn
   rw [hi n hn]
   have : ∃ o', hd σ' x = some (.sl b k' rows, o') := by
    cases x with
    | c a => cases a <;> simp [hd] at hh
    | t s =>
     have h0 := h.1 s (by simp [spanR])
     have hri := h.2
     simp only [hd] at hh ⊢
     cases hs : σ s with
     | sl b0 k0 rows0 => rw [hs] at hh h0; rw [skel_eq h0 trivial]; simp only [Option.some.injEq, Prod.mk.injEq] at hh; exact ⟨none, by rw [hh.1]⟩
     | al r0 p0 =>
      rw [hs] at hh h0 hri
      rw [skel_eq h0 trivial]
      simp only [rin_al, List.contains_iff_mem] at hri
      have hr := h.1 r0 (by simp [spanR, hri])
      simp only at hh ⊢
      split at hh
      · rename_i m hm
        simp only [Option.some.injEq, Prod.mk.injEq] at hh
        obtain ⟨rfl, _⟩ := hh
        rw [sub_slS hr hm]
        exact ⟨_, rfl⟩
      · cases hh
     | _ => rw [hs] at hh; simp at hh
   obtain ⟨o', g1⟩ := this
   rw [g1]
   exact hv
 · cases hv
def W2 (G : Gi) (o : IOper) : List Nat := match o.op, o.guard, o.dst with
 | .sts a _, none, none => (spanR G a).map fun s => 2 * s + 1
 | _, _, _ => (wset G o).flatMap fun s => [2 * s, 2 * s + 1]
def R2 (G : Gi) (o : IOper) : List Nat := W2 G o ++ (match o.op, o.guard, o.dst with
 | .sts _ v, none, none => (spanR G v).map fun s => 2 * s + 1
 | .fad _ x, none, some _ => (spanR G x).map fun s => 2 * s
 | .lda x, none, some _ => (spanR G x).map fun s => 2 * s
 | .iad _ x i, none, some _ => (spanR G x ++ spanR G i).map fun s => 2 * s
 | _, _, _ => (rset G o).map fun s => 2 * s + 1)
theorem mem_dbl {l : List Nat} {s : Nat} : 2 * s + 1 ∈ (l.flatMap fun s => [2 * s, 2 * s + 1]) ↔ s ∈ l := by
  simp only [List.mem_flatMap, List.mem_cons, List.not_mem_nil, or_false]
  exact ⟨fun ⟨a, h1, h2⟩ => by have : a = s := by omega
                               exact this ▸ h1, fun h => ⟨s, h, .inr rfl⟩⟩
theorem mem_dbl0 {l : List Nat} {s : Nat} : 2 * s ∈ (l.flatMap fun s => [2 * s, 2 * s + 1]) ↔ s ∈ l := by
  simp only [List.mem_flatMap, List.mem_cons, List.not_mem_nil, or_false]
  exact ⟨fun ⟨a, h1, h2⟩ => by have : a = s := by omega
                               exact this ▸ h1, fun h => ⟨s, h, .inl rfl⟩⟩
theorem kills_at' {kl : List Nat} {d : Nat} {σ : Sg} (s : Nat) : kills kl d σ s = if s ∈ kl then killr d (σ s) else σ s := by
 unfold kills; cases kl <;> simp
theorem wr_both {d : Dst} {v : AV} {σ σ' τ : Sg} (hk : ∀ s ∈ d.kl, σ' s = σ s) (he : wr d v σ = some τ) : ∃ τ', wr d v σ' = some τ' ∧ (∀ s ∈ d.d :: d.kl, τ' s = τ s) ∧ ∀ s, s ∉ d.d :: d.kl → τ' s = σ' s := by
 unfold wr at he ⊢
 split at he
 · rename_i hr
   obtain rfl := Option.some.inj he
   rw [if_pos hr]
   refine ⟨_, rfl, fun s hs => ?_, fun s hs => ?_⟩
   · by_cases e : s = d.d
     · subst e; simp [upd]
     · have : s ∈ d.kl := by simpa [e] using hs
       rw [upd_ne _ _ e, upd_ne _ _ e, kills_at', kills_at', hk s this]
   · simp only [List.mem_cons, not_or] at hs
     rw [upd_ne _ _ hs.1, kills_at', if_neg hs.2]
 · cases he
theorem aop_reach2 {σ σ' τ : Sg} {o : IOper} (hc : argsOK o = true) (hrs : ∀ d, o.dst = some d → d.rs = G.rtOf d.d) (hri : ∀ s, rin (G.rtOf s) (σ s) = true) (hf : ∀ s, 2 * s + 1 ∈ R2 G o → σ' s = σ s) (hk : ∀ s, 2 * s ∈ R2 G o → skel (σ' s) = skel (σ s)) (he : aop P G o (· = τ) σ) :
 ∃ τ', aop P G o (· = τ') σ' ∧ (∀ s, 2 * s + 1 ∈ W2 G o → τ' s = τ s) ∧ ∀ s, 2 * s + 1 ∉ W2 G o → τ' s = σ' s := by
 have gen : W2 G o = ((wset G o).flatMap fun s => [2 * s, 2 * s + 1]) → (∀ s, s ∈ rset G o → 2 * s + 1 ∈ R2 G o) → ∃ τ', aop P G o (· = τ') σ' ∧ (∀ s, 2 * s + 1 ∈ W2 G o → τ' s = τ s) ∧ ∀ s, 2 * s + 1 ∉ W2 G o → τ' s = σ' s := by
  intro h1 h2
  obtain ⟨τ', g1, g2⟩ := aop_reach hc hrs (⟨fun s hs => hf s (h2 s hs), fun s _ => hri s⟩ : Ag G (· ∈ rset G o) σ σ') he
  refine ⟨τ', g1, fun s hs => ?_, fun s hs => ?_⟩
  · rw [h1, mem_dbl] at hs; exact g2.ag.eq s hs
  · rw [h1, mem_dbl] at hs; exact (g2.off s hs).1
 have value : ∀ d op, o = ⟨some d, op, none⟩ → takes op = [] → W2 G o = ((wset G o).flatMap fun s => [2 * s, 2 * s + 1]) → (∀ K σ, arun P G ⟨some d, op, none⟩ K σ = match (match valOf op σ with | some v => wr d v σ | none => none) with | some τ => K τ | none => False) →
  (∀ v, valOf op σ = some v → valOf op σ' = some v) → ∃ τ', aop P G o (· = τ') σ' ∧ (∀ s, 2 * s + 1 ∈ W2 G o → τ' s = τ s) ∧ ∀ s, 2 * s + 1 ∉ W2 G o → τ' s = σ' s := by
  intro d op ho ht hw hrun hval
  have hws : wset G o = d.d :: d.kl := by subst ho; simp [wset, ht]
  subst ho
  simp only [aop] at he ⊢
  rw [hrun] at he
  cases hv : valOf op σ with
  | none => rw [hv] at he; exact he.elim
  | some v =>
   rw [hv] at he
   simp only at he
   cases hwv : wr d v σ with
   | none => rw [hwv] at he; exact he.elim
   | some υ =>
    rw [hwv] at he
    simp only at he
    subst he
    obtain ⟨τ', g1, g2, g3⟩ := wr_both (σ' := σ') (fun s hs => hf s (by simp only [R2, List.mem_append]; left; rw [hw, mem_dbl, hws]; simp [hs])) hwv
    refine ⟨τ', ?_, fun s hs => ?_, fun s hs => ?_⟩
    · rw [hrun, hval v hv]; simp only [g1]
    · rw [hw, mem_dbl, hws] at hs; exact g2 s hs
    · rw [hw, mem_dbl, hws] at hs; exact g3 s hs
 obtain ⟨dst, op, guard⟩ := o
 have skA : ∀ x : Ar, (∀ s ∈ spanR G x, 2 * s ∈ R2 G ⟨dst, op, guard⟩) → SkA G σ σ' x := by
  intro x hx
  cases x with
  | c => trivial
  | t s => exact ⟨fun r hr => hk r (hx r hr), hri s⟩
 cases guard with
 | some g => exact gen (by cases op <;> rfl) (fun s hs => by cases op <;> (simp only [R2, List.mem_append, List.mem_map]; exact .inr ⟨s, hs, rfl⟩))
 | none =>
  cases dst with
  | none =>
   cases op with
   | sts a v =>
    simp only [aop, arun] at he ⊢
    have hv : ar σ' v = ar σ v := by
     cases v with
     | c => rfl
     | t s => exact hf s (by simp [R2, spanR])
    have hfa : ∀ s ∈ spanR G a, σ' s = σ s := fun s hs => hf s (by simp only [R2, W2, List.mem_append, List.mem_map]; exact .inl ⟨s, hs, rfl⟩)
    have hag : Ag G (· ∈ spanR G a) σ σ' := ⟨hfa, fun s _ => hri s⟩
    have hca : cOK a = true := by simp only [argsOK, takes, Bool.and_eq_true, List.all_eq_true] at hc; exact hc.1 a (by simp)
    have hla : LkA G (· ∈ spanR G a) a := by
     cases a with
     | c c => exact hca
     | t s => exact ⟨by simp [spanR], fun r hr => by simp [spanR, hr]⟩
    split at he
    · rename_i υ hu
      subst he
      simp only [eff] at hu ⊢
      rw [hv, hag.adrOf hla]
      split at hu
      · rename_i u hu0
        split at hu
        · rename_i r p i j k ha
          have hr : r ∈ spanR G a := hag.adrRoot hla ha
          rw [hfa r hr]
          split at hu
          · rename_i b0 k0 rows hsub
            split at hu
            · rename_i row hrow
              split at hu
              · rename_i u0 hc0
                split at hu
                · rename_i t hst
                  cases hu
                  refine ⟨upd σ' r t, rfl, fun s hs => ?_, fun s hs => ?_⟩
                  · have hs' : s ∈ spanR G a := by
                     simp only [W2, List.mem_map] at hs
                     obtain ⟨x, h1, h2⟩ := hs
                     have : x = s := by omega
                     exact this ▸ h1
                    simp only [upd]; split
                    · rfl
                    · exact hfa s hs'
                  · have hs' : s ≠ r := by
                     rintro rfl
                     apply hs
                     simp only [W2, List.mem_map]; exact ⟨s, hr, rfl⟩
                    rw [upd_ne _ _ hs']
                · cases hu
              · cases hu
            · cases hu
          · cases hu
        · cases hu
      · cases hu
    · exact he.elim
   | _ => exact gen rfl (fun s hs => by simp only [R2, List.mem_append, List.mem_map]; exact .inr ⟨s, hs, rfl⟩)
  | some d =>
   cases op with
   | fad off x => exact value d _ rfl rfl rfl (fun K σ => rfl) (fun v hv => sk_fad (skA x fun s hs => by simp only [R2, List.mem_append, List.mem_map]; exact .inr ⟨s, hs, rfl⟩) hv)
   | lda x => exact value d _ rfl rfl rfl (fun K σ => rfl) (fun v hv => sk_lda (skA x fun s hs => by simp only [R2, List.mem_append, List.mem_map]; exact .inr ⟨s, hs, rfl⟩) hv)
   | iad k x i => exact value d _ rfl rfl rfl (fun K σ => rfl) (fun v hv => sk_iad (skA x fun s hs => by simp only [R2, List.mem_append, List.mem_map]; exact .inr ⟨s, .inl hs, rfl⟩) (skA i fun s hs => by simp only [R2, List.mem_append, List.mem_map]; exact .inr ⟨s, .inr hs, rfl⟩) hv)
   | _ => exact gen rfl (fun s hs => by simp only [R2, List.mem_append, List.mem_map]; exact .inr ⟨s, hs, rfl⟩)
theorem aop_off2 {σ τ : Sg} {o : IOper} (hc : argsOK o = true) (hrs : ∀ d, o.dst = some d → d.rs = G.rtOf d.d) (hri : ∀ s, rin (G.rtOf s) (σ s) = true) (he : aop P G o (· = τ) σ) :
 (∀ s, 2 * s + 1 ∉ W2 G o → τ s = σ s) ∧ (∀ s, 2 * s ∉ W2 G o → skel (τ s) = skel (σ s)) ∧ ∀ s, rin (G.rtOf s) (τ s) = true := by
 have h0 := aop_off hc hrs hri he
 have gen : W2 G o = ((wset G o).flatMap fun s => [2 * s, 2 * s + 1]) → (∀ s, 2 * s + 1 ∉ W2 G o → τ s = σ s) ∧ (∀ s, 2 * s ∉ W2 G o → skel (τ s) = skel (σ s)) ∧ ∀ s, rin (G.rtOf s) (τ s) = true := by
  intro h1
  refine ⟨fun s hs => ?_, fun s hs => ?_, h0.2⟩
  · rw [h1, mem_dbl] at hs; exact h0.1 s hs
  · rw [h1, mem_dbl0] at hs; rw [h0.1 s hs]
 obtain ⟨dst, op, guard⟩ := o
 cases guard with
 | some g => exact gen (by cases op <;> rfl)
 | none =>
  cases dst with
  | some d => exact gen (by cases op <;> rfl)
  | none =>
   cases op with
   | sts a v =>
    simp only [aop, arun] at he
    split at he
    · rename_i υ hu
      subst he
      simp only [eff] at hu
      split at hu
      · rename_i u hu0
        split at hu
        · rename_i r p i j k ha
          have hca : cOK a = true := by simp only [argsOK, takes, Bool.and_eq_true, List.all_eq_true] at hc; exact hc.1 a (by simp)
          have hag : Ag G (· ∈ spanR G a) σ σ := ⟨fun _ _ => rfl, fun s _ => hri s⟩
          have hla : LkA G (· ∈ spanR G a) a := by
           cases a with
           | c c => exact hca
           | t s => exact ⟨by simp [spanR], fun r hr => by simp [spanR, hr]⟩
          have hr : r ∈ spanR G a := hag.adrRoot hla ha
          split at hu
          · rename_i b0 k0 rows hsub
            split at hu
            · rename_i row hrow
              split at hu
              · rename_i u0 hc0
                split at hu
                · rename_i t hst
                  cases hu
                  refine ⟨fun s hs => ?_, fun s _ => ?_, h0.2⟩
                  · rw [upd_ne]
                    rintro rfl
                    apply hs
                    simp only [W2, List.mem_map]; exact ⟨s, hr, rfl⟩
                  · by_cases e : s = r
                    · subst e
                      rw [upd_same]
                      have h1 := put_sk _ (sub_snoc p hsub hrow hc0) hst
                      have hne : ∀ u, σ s ≠ .sc u := fun u e => by
                       rw [e] at hsub
                       cases p with
                       | nil => simp [sub] at hsub
                       | cons => simp [sub] at hsub
                      have hnt : ∀ u, t ≠ .sc u := fun u e => by
                       subst e
                       cases hσ : σ s <;> rw [hσ] at h1 hsub <;> first | exact absurd hσ (hne _) | (cases p <;> simp [sub] at hsub; done) | (simp [skC] at h1; done)
                      cases hσ : σ s <;> first | exact absurd hσ (hne _) | (rw [hσ] at h1; cases t <;> first | exact absurd rfl (hnt _) | exact h1)
                    · rw [upd_ne _ _ e]
                · cases hu
              · cases hu
            · cases hu
          · cases hu
        · cases hu
      · cases hu
    · exact he.elim
   | _ => exact gen rfl
def chkDraw2 (G : Gi) (ops : List Oper) (ios : List IOper) : Bool :=
 ios.all argsOK && ordRows (befs ops []) (ios.map fun o => msk (W2 G o)) (ios.map fun o => msk (R2 G o)) 0 ops
def w2Of (G : Gi) (ios : List IOper) (j : Nat) : List Nat := match ios[j]? with | some o => W2 G o | none => []
def r2Of (G : Gi) (ios : List IOper) (j : Nat) : List Nat := match ios[j]? with | some o => R2 G o | none => []
end Go.Abs
namespace Go.Abs
variable {G : Gi} {P : Program} {w : World}
theorem draw_gen {n : Nat} {w0 : World} {S0 U0 : Nat → Prop} {ops : Array Oper} {K : Sg → Prop} (Q : Exit → Act → World → Prop) (hQ : ∀ a w σ, Rel G n w0 S0 U0 a w σ → K σ → Q .normal a w) {ios : List IOper} {a : Act} {w : World} {σ : Sg}
 (h : Rel G n w0 S0 U0 a w σ) (hN : ios.length = ops.size) (hrsA : ∀ (i : Nat) (o : Oper) (io : IOper), ops.toList[i]? = some o → ios[i]? = some io → ∀ d : Dst, io.dst = some d → d.rs = G.rtOf d.d) (hd : chkDraw2 G ops.toList ios = true)
 (q : Nat → Sg) (hq0 : q 0 = σ) (hstep : ∀ i io, ios[i]? = some io → aop P G io (· = q (i + 1)) (q i)) (hK : K (q ios.length)) (J : (Nat → Bool) → Act → World → Prop) (hJ0 : J (fun j => (Array.replicate ops.size false).getD j true) a w)
 (hS : ∀ (L : Nat → Bool) (i : Nat) o io a w σ τ', ops[i]? = some o → ios[i]? = some io → i < ops.size → L i = false → (∀ x, ((befs ops.toList []).getD i 0).testBit x = true → L x = true) → (∀ j, j < ops.size → L j = true → ∀ x, ((befs ops.toList []).getD j 0).testBit x = true → L x = true) →
  J L a w → Rel G n w0 S0 U0 a w σ → aop P G io (· = τ') σ → (∀ s, τ' s = q (lastW (fun j => (L j || j == i)) (w2Of G ios) (2 * s + 1) ops.size) s) → wpOp P ops Q i (fun a' w' => (∃ σ', Rel G n w0 S0 U0 a' w' σ' ∧ σ' = τ') ∧ J (fun j => (L j || j == i)) a' w') a w) :
 wpAny P .any ops Q ops.size (Array.replicate ops.size false) a w := by
 simp only [chkDraw2, Bool.and_eq_true, List.all_eq_true] at hd
 obtain ⟨hargs, hrows⟩ := hd
 generalize hM : befs ops.toList [] = M at hrows hS
 have hspec := ordRows_spec _ hrows
 simp only [Nat.zero_add] at hspec
 have getop : ∀ i, i < ops.size → ∃ o io, ops[i]? = some o ∧ ops.toList[i]? = some o ∧ ios[i]? = some io := by
  intro i hi
  refine ⟨ops[i], ios[i]'(by omega), ?_, ?_, ?_⟩ <;> simp [hi, hN]
 -- the states of the text's order
 have hwf : ∀ i, i ≤ ops.size → ∀ s, rin (G.rtOf s) (q i s) = true := by
  intro i
  induction i with
  | zero =>
   intro _ s
   rw [hq0]
   obtain ⟨S, δ, Fr, _, _, _, rfl, hst, _⟩ := h
   exact hst.rt s
  | succ i ih =>
   intro hi
   obtain ⟨o, io, h1, h2, h3⟩ := getop i (by omega)
   exact (aop_off2 (hargs io (List.mem_of_getElem? h3)) (hrsA i o io h2 h3) (ih (by omega)) (hstep i io h3)).2.2
 have hofff : ∀ j s, j < ops.size → 2 * s + 1 ∉ w2Of G ios j → q (j + 1) s = q j s := by
  intro j s hj hs
  obtain ⟨o, io, h1, h2, h3⟩ := getop j hj
  exact (aop_off2 (hargs io (List.mem_of_getElem? h3)) (hrsA j o io h2 h3) (hwf j (by omega)) (hstep j io h3)).1 s (by simpa [w2Of, h3] using hs)
 have hoffk : ∀ j s, j < ops.size → 2 * s ∉ w2Of G ios j → skel (q (j + 1) s) = skel (q j s) := by
  intro j s hj hs
  obtain ⟨o, io, h1, h2, h3⟩ := getop j hj
  exact (aop_off2 (hargs io (List.mem_of_getElem? h3)) (hrsA j o io h2 h3) (hwf j (by omega)) (hstep j io h3)).2.1 s (by simpa [w2Of, h3] using hs)
 -- the states with their skeletons beside them
 let Q2 : Nat → Sg := fun j x => if x % 2 = 1 then q j (x / 2) else skel (q j (x / 2))
 have Q2odd : ∀ j s, Q2 j (2 * s + 1) = q j s := fun j s => by
  show (if (2 * s + 1) % 2 = 1 then q j ((2 * s + 1) / 2) else skel (q j ((2 * s + 1) / 2))) = q j s
  rw [if_pos (by omega), show (2 * s + 1) / 2 = s from by omega]
 have Q2even : ∀ j s, Q2 j (2 * s) = skel (q j s) := fun j s => by
  show (if (2 * s) % 2 = 1 then q j ((2 * s) / 2) else skel (q j ((2 * s) / 2))) = skel (q j s)
  rw [if_neg (by omega), show (2 * s) / 2 = s from by omega]
 have hoff : ∀ j x, j < ops.size → x ∉ w2Of G ios j → Q2 (j + 1) x = Q2 j x := by
  intro j x hj hx
  obtain ⟨s, rfl | rfl⟩ : ∃ s, x = 2 * s ∨ x = 2 * s + 1 := ⟨x / 2, by omega⟩
  · rw [Q2even, Q2even]; exact hoffk j s hj hx
  · rw [Q2odd, Q2odd]; exact hofff j s hj hx
 have hWs : ∀ j, j < ops.size → (ios.map fun o => msk (W2 G o)).getD j 0 = msk (w2Of G ios j) := by
  intro j hj
  obtain ⟨o, io, h1, h2, h3⟩ := getop j hj
  simp [List.getD_eq_getElem?_getD, w2Of, h3]
 have hRs : ∀ j, j < ops.size → (ios.map fun o => msk (R2 G o)).getD j 0 = msk (r2Of G ios j) := by
  intro j hj
  obtain ⟨o, io, h1, h2, h3⟩ := getop j hj
  simp [List.getD_eq_getElem?_getD, r2Of, h3]
 have hWR : ∀ j s, s ∈ w2Of G ios j → s ∈ r2Of G ios j := by
  intro j s hs
  cases h3 : ios[j]? with
  | none => simp [w2Of, h3] at hs
  | some io =>
   simp only [w2Of, r2Of, h3] at hs ⊢
   simp only [R2, List.mem_append]
   exact .inl hs
 have hodd : ∀ j s, 2 * s ∈ w2Of G ios j → 2 * s + 1 ∈ w2Of G ios j := by
  intro j s hs
  cases h3 : ios[j]? with
  | none => simp [w2Of, h3] at hs
  | some io =>
   simp only [w2Of, h3] at hs ⊢
   unfold W2 at hs ⊢
   split at hs
   · simp only [List.mem_map] at hs
     obtain ⟨x, _, hx⟩ := hs
     omega
   · rw [mem_dbl0] at hs; rw [mem_dbl]; exact hs
 -- pairs that meet are ordered
 have hmeet : ∀ i j s, i < j → j < ops.size → (s ∈ w2Of G ios i ∧ s ∈ r2Of G ios j) ∨ (s ∈ r2Of G ios i ∧ s ∈ w2Of G ios j) → (M.getD j 0).testBit i = true := by
  intro i j s hij hj hs
  obtain ⟨o, io, h1, h2, h3⟩ := getop j hj
  rcases (hspec j o h2).2.2 i hij with ⟨g1, g2⟩ | g
  · rw [hWs i (by omega), hRs j hj] at g1
    rw [hRs i (by omega), hWs j hj] at g2
    rcases hs with hs | hs
    · exact (msk_apart g1 hs.1 hs.2).elim
    · exact (msk_apart g2 hs.1 hs.2).elim
  · exact g
 -- any order
 have main : ∀ (fuel : Nat) (listed : Array Bool) (a : Act) (w : World), listed.size = ops.size → (List.range ops.size).countP (fun i => !listed.getD i true) ≤ fuel →
  (∀ j, j < ops.size → listed.getD j true = true → ∀ i, (M.getD j 0).testBit i = true → listed.getD i true = true) →
  (∃ σ, Rel G n w0 S0 U0 a w σ ∧ ∀ s, σ s = q (lastW (fun j => listed.getD j true) (w2Of G ios) (2 * s + 1) ops.size) s) → J (fun j => listed.getD j true) a w → wpAny P .any ops Q fuel listed a w := by
  have done : ∀ (listed : Array Bool) (a : Act) (w : World), (∀ j, j < ops.size → listed.getD j true = true) → (∃ σ, Rel G n w0 S0 U0 a w σ ∧ ∀ s, σ s = q (lastW (fun j => listed.getD j true) (w2Of G ios) (2 * s + 1) ops.size) s) → Q .normal a w := by
   rintro listed a w hall ⟨σ, h1, h2⟩
   have : σ = q ops.size := by
    funext s
    rw [h2 s]
    have := lastW_all hall hoff (2 * s + 1) _ (Nat.le_refl _)
    rw [Q2odd, Q2odd] at this
    exact this
   subst this
   exact hQ a w _ h1 (by rw [← hN]; exact hK)
  intro fuel
  induction fuel with
  | zero =>
   intro listed a w hsz hcnt hdown hst hJ
   have hall : ∀ j, j < ops.size → listed.getD j true = true := by
    intro j hj
    have h0 : (List.range ops.size).countP (fun i => !listed.getD i true) = 0 := by omega
    rw [List.countP_eq_zero] at h0
    have := h0 j (by simp [hj])
    simpa using this
   refine ⟨?_, done listed a w hall hst⟩
   simp only [Region.ready, List.filter_eq_nil_iff, List.mem_range]
   intro j hj
   simp [hall j hj]
  | succ fuel ih =>
   intro listed a w hsz hcnt hdown hst hJ
   refine ⟨fun hnil => ?_, fun i hi => ?_⟩
   · refine done listed a w ?_ hst
     intro j
     induction j using Nat.strongRecOn with
     | _ j ihj =>
      intro hj
      cases hl : listed.getD j true with
      | true => rfl
      | false =>
       exfalso
       obtain ⟨o, io, h1, h2, h3⟩ := getop j hj
       have : j ∈ Region.ready .any ops listed := by
        simp only [Region.ready, List.mem_filter, List.mem_range]
        refine ⟨hj, ?_⟩
        simp only [hl, Bool.not_false, Bool.true_and, h1, Option.map_some, Option.getD_some, Array.all_eq_true']
        intro e he
        cases hb : Region.binds .any e with
        | false => rfl
        | true =>
         have hlt := (hspec j o h2).2.1 e (by simpa using he) hb
         have hl' := ihj e.on hlt (by omega)
         have hs : e.on < listed.size := by omega
         simp only [Array.getD_eq_getD_getElem?, Array.getElem?_eq_getElem hs, Option.getD_some] at hl' ⊢
         simp [hl']
       rw [hnil] at this
       cases this
   · simp only [Region.ready, List.mem_filter, List.mem_range, Bool.and_eq_true, Bool.not_eq_true'] at hi
     obtain ⟨hiN, hul, hrd⟩ := hi
     obtain ⟨o, io, h1, h2, h3⟩ := getop i hiN
     simp only [h1, Option.map_some, Option.getD_some, Array.all_eq_true', Bool.or_eq_true, Bool.not_eq_true'] at hrd
     obtain ⟨hsp1, hsp2, _⟩ := hspec i o h2
     obtain ⟨σ, hrel, hσ⟩ := hst
     -- all that is ahead of i is listed
     have hahead : ∀ x, (M.getD i 0).testBit x = true → listed.getD x true = true := by
      intro x hx
      rw [hsp1] at hx
      obtain ⟨e, he, hb, hor⟩ := bef_bit hx
      have hlt := hsp2 e he hb
      have hle : listed.getD e.on true = true := by
       have := (hrd e (by simpa using he)).resolve_left (by simp [hb])
       have hs : e.on < listed.size := by omega
       simp only [Array.getD_eq_getD_getElem?, Array.getElem?_eq_getElem hs, Option.getD_some] at this ⊢
       exact this
      rcases hor with rfl | hor
      · exact hle
      · exact hdown e.on (by omega) hle x hor
     have hL' : ∀ j, (listed.setIfInBounds i true).getD j true = (listed.getD j true || j == i) := by
      intro j
      simp only [Array.getD_eq_getD_getElem?, Array.getElem?_setIfInBounds]
      by_cases e : i = j
      · subst e; simp; split <;> simp
      · have e' : ¬ j = i := fun x => e x.symm
        simp [e, e']
     have hpre : ∀ j s, j < i → s ∈ w2Of G ios j → s ∈ r2Of G ios i → listed.getD j true = true := fun j s hj hs hs' => hahead j (hmeet j i s hj hiN (.inl ⟨hs, hs'⟩))
     have hpost : ∀ j s, i < j → j < ops.size → s ∈ w2Of G ios j → s ∈ r2Of G ios i → listed.getD j true = true → listed.getD i true = true := fun j s hj hjN hs hs' hl => hdown j hjN hl i (hmeet i j s hj hjN (.inr ⟨hs', hs⟩))
     have hA : ∀ x, x ∈ r2Of G ios i → Q2 (lastW (fun j => listed.getD j true) (w2Of G ios) x ops.size) x = Q2 i x := fun x hx =>
      lastW_at (L := fun j => listed.getD j true) (R := r2Of G ios) hul hiN hoff hpre hpost hx
     have hf : ∀ s, 2 * s + 1 ∈ R2 G io → σ s = q i s := fun s hs => by
      rw [hσ s]
      have := hA (2 * s + 1) (by simpa [r2Of, h3] using hs)
      rw [Q2odd, Q2odd] at this
      exact this
     -- writers of one slot are ordered
     have hord : ∀ j m s, j < m → m < ops.size → 2 * s + 1 ∈ w2Of G ios j → 2 * s + 1 ∈ w2Of G ios m → listed.getD m true = true → listed.getD j true = true :=
      fun j m s hjm hm h1 h2 hl => hdown m hm hl j (hmeet j m (2 * s + 1) hjm hm (.inl ⟨h1, hWR m _ h2⟩))
     have hall : ∀ s m, m ≤ ops.size → (∀ j, j < m → 2 * s ∈ w2Of G ios j → listed.getD j true = true) → skel (q (lastW (fun j => listed.getD j true) (w2Of G ios) (2 * s) m) s) = skel (q m s) := by
      intro s m
      induction m with
      | zero => intro _ _; rfl
      | succ m ihm =>
       intro hm hl
       simp only [lastW]
       by_cases h : 2 * s ∈ w2Of G ios m
       · rw [if_pos ⟨hl m (by omega) h, h⟩]
       · rw [if_neg (fun x => h x.2), ihm (by omega) (fun j hj => hl j (by omega)), hoffk m s (by omega) h]
     have hboth : ∀ s m, m ≤ ops.size → skel (q (lastW (fun j => listed.getD j true) (w2Of G ios) (2 * s + 1) m) s) = skel (q (lastW (fun j => listed.getD j true) (w2Of G ios) (2 * s) m) s) := by
      intro s m
      induction m with
      | zero => intro _; rfl
      | succ m ihm =>
       intro hm
       simp only [lastW]
       by_cases hlm : listed.getD m true = true
       · by_cases h0 : 2 * s ∈ w2Of G ios m
         · rw [if_pos ⟨hlm, hodd m s h0⟩, if_pos ⟨hlm, h0⟩]
         · rw [if_neg (c := _ ∧ 2 * s ∈ _) (fun x => h0 x.2)]
           by_cases h1 : 2 * s + 1 ∈ w2Of G ios m
           · rw [if_pos ⟨hlm, h1⟩, hoffk m s (by omega) h0]
             exact (hall s m (by omega) fun j hj hw => hord j m s hj (by omega) (hodd j s hw) h1 hlm).symm
           · rw [if_neg (fun x => h1 x.2)]; exact ihm (by omega)
       · rw [if_neg (fun x => hlm x.1), if_neg (fun x => hlm x.1)]; exact ihm (by omega)
     have hk : ∀ s, 2 * s ∈ R2 G io → skel (σ s) = skel (q i s) := fun s hs => by
      rw [hσ s, hboth s _ (Nat.le_refl _)]
      have := hA (2 * s) (by simpa [r2Of, h3] using hs)
      rw [Q2even, Q2even] at this
      exact this
     obtain ⟨τ', hτ, hmv1, hmv2⟩ := aop_reach2 (hargs io (List.mem_of_getElem? h3)) (hrsA i o io h2 h3) (hwf i (by omega)) hf hk (hstep i io h3)
     have hfun : (fun j => (listed.setIfInBounds i true).getD j true) = fun j => (listed.getD j true || j == i) := funext hL'
     have hτs : ∀ s, τ' s = q (lastW (fun j => (listed.getD j true || j == i)) (w2Of G ios) (2 * s + 1) ops.size) s := by
      intro s
      by_cases hs : 2 * s + 1 ∈ w2Of G ios i
      · rw [lastW_in (L := fun j => listed.getD j true) hiN (fun j => rfl) hul (fun j s hj hjN h1 h2 h3 => hpost j s hj hjN h1 (hWR i s h2) h3) hs]
        exact hmv1 s (by simpa [w2Of, h3] using hs)
      · rw [lastW_out (L := fun j => listed.getD j true) (i := i) (fun j => rfl) hs, ← hσ s]
        exact hmv2 s (by simpa [w2Of, h3] using hs)
     refine wpOp_mono ?_ (hS (fun j => listed.getD j true) i o io a w σ τ' h1 h3 hiN hul hahead hdown hJ hrel hτ hτs)
     · rintro a' w' ⟨⟨σ2, hrel', rfl⟩, hJ'⟩
       refine ih _ a' w' (by simp [hsz]) ?_ ?_ ⟨σ2, hrel', ?_⟩ (by rw [hfun]; exact hJ')
       · have := countP_lt (p := fun i => !listed.getD i true) (p' := fun j => !(listed.setIfInBounds i true).getD j true) (fun j hj => by simp only [hL'] at hj; simp at hj ⊢; exact hj.1) (i := i) (by simp [hul]) (by simp [hL']) ops.size hiN
         omega
       · intro j hjN hl x hx
         rw [hL'] at hl ⊢
         simp only [Bool.or_eq_true, beq_iff_eq] at hl ⊢
         rcases hl with hl | rfl
         · exact .inl (hdown j hjN hl x hx)
         · exact .inl (hahead x hx)
       · intro s
         rw [hfun]; exact hτs s
 refine main ops.size _ a w (by simp) (by exact Nat.le_trans (List.countP_le_length) (by simp)) ?_ ⟨σ, h, fun s => ?_⟩ hJ0
 · intro j hj hl
   simp [Array.getD_eq_getD_getElem?, hj] at hl
 · have : ∀ m, m ≤ ops.size → lastW (fun j => (Array.replicate ops.size false).getD j true) (w2Of G ios) (2 * s + 1) m = 0 := by
    intro m
    induction m with
    | zero => intro _; rfl
    | succ m ih =>
     intro hm
     simp only [lastW]
     rw [if_neg, ih (by omega)]
     rintro ⟨h1, _⟩
     have hm' : m < ops.size := by omega
     simp [Array.getD_eq_getD_getElem?, hm'] at h1
   rw [this _ (Nat.le_refl _), hq0]
theorem lastW_le_of {L : Nat → Bool} {W : Nat → List Nat} {x b : Nat} : ∀ m, (∀ j, j < m → L j = true → j < b) → lastW L W x m ≤ b
 | 0, _ => Nat.zero_le _
 | m + 1, h => by
  simp only [lastW]
  split
  · rename_i hm; have := h m (by omega) hm.1; omega
  · exact lastW_le_of m fun j hj => h j (by omega)
theorem rel_put {n : Nat} {w0 : World} {S0 U0 : Nat → Prop} {a : Act} {τ : Sg} {S : Nat → Prop} {δ : Nat → DV} {Fr : Nat → Nat → Prop} {o : Oper} {d : Dst} {D : DV} (hn : a.tmps.size = n) (hdef : a.defers = []) (ha : Rd δ a) (hst : St G w S δ Fr) (hnx : Nx w0 S0 U0 w S (Owned Fr)) (hSlt : ∀ b, S b → b < w.heap.size)
 (hd : DstOK G a o (some d)) (hD : Ok w S D (fun _ => False)) (hal : AlOK δ D) (hwr : wr d D.er (fun s => (δ s).er) = some τ) : Rel G n w0 S0 U0 (a.put o.dst D.ann) w τ := by
 obtain ⟨g1, g2, g3, g4⟩ := hd
 obtain ⟨δ', F', hst', her, hann, hown⟩ := hst.wr (D := D) (Ff := fun _ => False) g2 g3 (fun _ _ => rfl) (fun _ _ _ => rfl) (fun _ h => h) (fun s x hx => (hst.ok s).notS x hx) hD (fun _ _ _ h => h) hal hwr
 refine ⟨S, δ', F', ?_, ?_, ?_, her, hst', hnx.trans (Nx.less fun x hx => (hown x hx).elim id False.elim), hSlt⟩
 · rw [g1]; simpa [Act.put] using hn
 · rw [g1]; simpa [Act.put] using hdef
 · intro s
   rw [g1, put_get a d.d D.ann g4 s, hann s]
   split
   · rfl
   · exact ha s
def flVal : IOp → Bool
 | .cp _ | .fad .. | .ld .. | .lda _ | .iad .. | .mkf .. => true
 | _ => false
def chkFl (P : Program) (G : Gi) (n : Nat) (f : Flo) (ops : Array Oper) (M : List Nat) (i : Nat) (o : Oper) (io : IOper) : Bool :=
 chkDst G n o.dst io.dst && o.guard.isNone && io.guard.isNone &&
 (if i = f.i0 then (match io.op, io.dst with | .fl, some d => d.d == f.d0 | _, _ => false) && (match o.op with
  | .fieldAddr t (.tmp s) fi => s == f.r && (match P.underlying t with
   | some (.struct fs) => match fs[fi]? with
    | some fd => fd.offset == f.off && (match szOf P fd.type with | some m => m != 0 | none => false)
    | none => false
   | _ => false)
  | _ => false)
  else if i = f.i1 then (match io.op, io.dst with | .fl, some d => d.d == f.d1 | _, _ => false) && (match o.op with
   | .load t (.tmp s) => s == f.d0 && szOf P t == some 1 && isAggT P t == some false
   | _ => false) && (M.getD i 0).testBit f.i0
  else (match io.dst with | some d => d.d != f.r && d.d != f.d0 && d.d != f.d1 | none => true) &&
   (if i = f.i2 then (match io.op, o.op, io.dst with
    | .iadr r off kb k j, .indexAddr t (.tmp s) x, some _ => r == f.r && off == f.off && kb == f.kb && s == f.d1 && (match P.underlying t with | some (.slice e) => szOf P e == some k | _ => false) && chkA x j
    | _, _, _ => false) && (M.getD i 0).testBit f.i1 && (M.getD i 0).testBit f.i0
   else chkOper P G n ops o io && (if i < f.i2 then flVal io.op || (match io.op with | .call _ _ 4 => true | _ => false) else (M.getD i 0).testBit f.i2)))
def chkFlo (P : Program) (G : Gi) (n : Nat) (f : Flo) (ops : Array Oper) (ios : List IOper) : Bool :=
 decide (ios.length = ops.size) && decide (f.d0 ≠ f.r) && decide (f.d1 ≠ f.r) && decide (f.d0 ≠ f.d1) && decide (f.i0 ≠ f.i1) && decide (f.i0 < f.i2) && decide (f.i1 < f.i2) && decide (f.i2 < ops.size) && chkDraw2 G ops.toList ios &&
 (List.range ops.size).all fun i => match ops[i]?, ios[i]? with
  | some o, some io => chkFl P G n f ops (befs ops.toList []) i o io
  | _, _ => false
theorem wpOp_val {ops : Array Oper} {Q : Exit → Act → World → Prop} {i : Nat} {o : Oper} {a : Act} {u : Value} {K : Act → World → Prop} (hi : ops[i]? = some o) (hg : o.guard = none) (hrun : (execOp a.eval o).run P w = .ok (.value u) w) (h : K (a.put o.dst u) w) : wpOp P ops Q i K a w := by
 unfold wpOp
 rw [hi]
 simp only [Region.wanted, hg, if_true]
 refine .inl ?_
 unfold Oper.wp
 rw [hrun]
 exact h
theorem wpOp_and {ops : Array Oper} {Q : Exit → Act → World → Prop} {i : Nat} {o : Oper} {a : Act} {u : Value} {K J : Act → World → Prop} (hi : ops[i]? = some o) (hg : o.guard = none) (hrun : (execOp a.eval o).run P w = .ok (.value u) w) (hJ : J (a.put o.dst u) w) (h : wpOp P ops Q i K a w) : wpOp P ops Q i (fun a' w' => K a' w' ∧ J a' w') a w := by
 unfold wpOp at h ⊢
 rw [hi] at h ⊢
 simp only [Region.wanted, hg, if_true] at h ⊢
 refine h.imp (fun h => ?_) id
 unfold Oper.wp at h ⊢
 rw [hrun] at h ⊢
 exact ⟨h, hJ⟩
theorem fl_run {n : Nat} {w0 : World} {S0 U0 : Nat → Prop} {a : Act} {σ : Sg} (h : Rel G n w0 S0 U0 a w σ) {o : Oper} {io : IOper} (hop : chkOp P o.op io.op = true) (hf : flVal io.op = true) {v : AV} (hv : valOf io.op σ = some v) : ∃ u, (execOp a.eval o).run P w = .ok (.value u) w := by
 obtain ⟨S, δ, Fr, hn, hdef, ha, rfl, hst, hnx, hSlt⟩ := h
 have go : Gives P w S δ a o v → ∃ u, (execOp a.eval o).run P w = .ok (.value u) w := fun ⟨u, h, _⟩ => ⟨u, h⟩
 apply go
 obtain ⟨dst, iop, g⟩ := io
 simp only at hop hf hv
 cases iop with
 | cp y => cases ho : o.op <;> rw [ho] at hop <;> first | (simp [chkOp] at hop; done) | exact gives_cp hst ha ho hop hv
 | fad off y =>
  cases ho : o.op <;> rw [ho] at hop <;> first | (simp [chkOp] at hop; done) | skip
  rename_i t x fi
  simp only [chkOp, Bool.and_eq_true] at hop
  obtain ⟨h1, h2⟩ := hop
  split at h1
  · rename_i fs hu
    split at h1
    · rename_i fd hff
      simp only [Bool.and_eq_true, beq_iff_eq] at h1
      obtain ⟨g1, g2⟩ := h1
      split at g2
      · rename_i m hm
        simp only [bne_iff_ne] at g2
        exact gives_fad hst ha ho hu hff g1 hm g2 h2 hv
      · cases g2
    · cases h1
  · cases h1
 | ld gg m y =>
  cases ho : o.op <;> rw [ho] at hop <;> first | (simp [chkOp] at hop; done) | skip
  simp only [chkOp, Bool.and_eq_true, Bool.or_eq_true, beq_iff_eq] at hop
  exact gives_ld hst ha ho hop.1.1.1 hop.1.1.2 hop.1.2 hop.2 hv
 | lda y =>
  cases ho : o.op <;> rw [ho] at hop <;> first | (simp [chkOp] at hop; done) | skip
  simp only [chkOp, Bool.and_eq_true, beq_iff_eq] at hop
  exact gives_ld hst ha ho hop.1.1 hop.1.2 (.inr rfl) hop.2 (lda_ld hv)
 | iad k y j =>
  cases ho : o.op <;> rw [ho] at hop <;> first | (simp [chkOp] at hop; done) | skip
  simp only [chkOp, Bool.and_eq_true] at hop
  obtain ⟨⟨h1, h2⟩, h3⟩ := hop
  split at h1
  · rename_i e hu
    exact gives_iad hst ha ho hu (opt_eq h1) h2 h3 hv
  · cases h1
 | mkf f ys =>
  cases ho : o.op <;> rw [ho] at hop <;> first | (simp [chkOp] at hop; done) | skip
  rename_i fn first caps
  cases fn with
  | func f' =>
   simp only [chkOp, Bool.and_eq_true, beq_iff_eq] at hop
   obtain ⟨⟨rfl, h1⟩, h2⟩ := hop
   exact gives_mkf hst ha ho (by simpa using h1) h2 hv
  | _ => simp [chkOp] at hop
 | _ => cases hf
theorem draw_sound2 {n : Nat} {w0 : World} {S0 U0 : Nat → Prop} (hG : GIn w0 S0 U0) {ops : Array Oper} {K : Sg → Prop} (Q : Exit → Act → World → Prop) (hQ : ∀ a w σ, Rel G n w0 S0 U0 a w σ → K σ → Q .normal a w) {ios : List IOper} {a : Act} {w : World} {σ : Sg}
 (h : Rel G n w0 S0 U0 a w σ) (hc : chkOps P G n ops ops.toList ios = true) (hd : chkDraw2 G ops.toList ios = true) (hr : aops P G ios K σ) : wpAny P .any ops Q ops.size (Array.replicate ops.size false) a w := by
 obtain ⟨hlen, hops⟩ := chkOps_at _ hc
 obtain ⟨q, hq0, hstep, hK⟩ := aops_steps ios hr
 refine draw_gen Q hQ h (by rw [← hlen]; simp) (fun i o io h1 h2 => chkOper_rs (hops i o io h1 h2)) hd q hq0 hstep hK (fun _ _ _ => True) trivial ?_
 intro L i o io a w σ τ' h1 h2 _ _ _ _ _ hrel haop _
 exact wpOp_mono (fun a' w' h => ⟨h, trivial⟩) (aop_sound hG hrel (hops i o io (by simpa using h1) h2) haop Q h1)
end Go.Abs
namespace Go.Abs
variable {G : Gi} {P : Program} {w : World}
def FJ (f : Flo) (b : Nat) (h : Value) (L : Nat → Bool) (a : Act) (w : World) : Prop :=
 L f.i2 = false → a.tmps.getD f.r undef = .pointer (some ⟨b, 0, none⟩) ∧ w.cell? ⟨b, f.off, none⟩ = some h ∧ (L f.i0 = true → a.tmps.getD f.d0 undef = .pointer (some ⟨b, f.off, none⟩)) ∧ (L f.i1 = true → a.tmps.getD f.d1 undef = h)
theorem isBx_own {kb off : Nat} {x : AV} (h : isBx kb off x = true) : ∃ row, x = .own true kb [row] ∧ off < row.length := by
 unfold isBx at h
 split at h
 · rename_i k row
   simp only [Bool.and_eq_true, beq_iff_eq, decide_eq_true_eq] at h
   exact ⟨row, by rw [h.1], h.2⟩
 · cases h
theorem box_at {S : Nat → Prop} {δ : Nat → DV} {Fr : Nat → Nat → Prop} (h : St G w S δ Fr) {r kb : Nat} {row : List AV} (hr : (δ r).er = .own true kb [row]) : ∃ b rowD, δ r = .own (.pointer (some ⟨b, 0, none⟩)) true kb [rowD] ∧ rowD.map DV.er = row ∧
 (∀ (j : Nat) d, rowD[j]? = some d → w.cell? ⟨b, j, none⟩ = some d.ann ∧ ∃ F, Ok w S d F) := by
 have hok := h.ok r
 cases hδ : δ r with
 | lf x v => rw [hδ] at hr hok; simp at hr; subst hr; cases hok with | lf _ _ _ hl _ => simp [LeafOK] at hl
 | agg => rw [hδ] at hr; simp at hr
 | tup => rw [hδ] at hr; simp at hr
 | own hh bx k0 rowsD =>
  rw [hδ] at hr hok
  simp only [er_own, AV.own.injEq] at hr
  obtain ⟨rfl, rfl, hrow⟩ := hr
  obtain ⟨rowD, rfl, hrd⟩ := List.map_eq_singleton_iff.1 hrow
  cases hok with
  | own _ _ _ b c arr E Fs _ hb hk hcap hSb hv hrr hd hval hbF hF =>
   refine ⟨b, rowD, by simp [hdr], hrd, fun j d hj => ⟨?_, Fs 0 j, hrr 0 j rowD d rfl hj⟩⟩
   have := hv 0 j rowD d rfl hj
   simp only [Nat.zero_mul, Nat.zero_add] at this
   simp [World.cell?, hb, this]
theorem flo_sound {n : Nat} {w0 : World} {S0 U0 : Nat → Prop} (hG : GIn w0 S0 U0) {ops : Array Oper} {K : Sg → Prop} (Q : Exit → Act → World → Prop) (hQ : ∀ a w σ, Rel G n w0 S0 U0 a w σ → K σ → Q .normal a w) {ios : List IOper} {a : Act} {w : World} {σ : Sg} {f : Flo}
 (h : Rel G n w0 S0 U0 a w σ) (hc : chkFlo P G n f ops ios = true) (q : Nat → Sg) (hq0 : q 0 = σ) (hstep : ∀ i io, ios[i]? = some io → aop P G io (· = q (i + 1)) (q i)) (hK : K (q ios.length)) (hbx : ∀ m, m ≤ f.i2 → isBx f.kb f.off (q m f.r) = true) :
 wpAny P .any ops Q ops.size (Array.replicate ops.size false) a w := by
 simp only [chkFlo, Bool.and_eq_true, decide_eq_true_eq, List.all_eq_true] at hc
 obtain ⟨⟨⟨⟨⟨⟨⟨⟨⟨hN, n1⟩, n2⟩, n3⟩, n4⟩, n5⟩, n6⟩, n7⟩, hdraw⟩, hall⟩ := hc
 have hfl : ∀ i o io, ops[i]? = some o → ios[i]? = some io → chkFl P G n f ops (befs ops.toList []) i o io = true := by
  intro i o io h1 h2
  have hi : i < ops.size := (Array.getElem?_eq_some_iff.1 h1).1
  have := hall i (by simpa using hi)
  rw [h1, h2] at this
  exact this
 -- the beginning
 obtain ⟨b7, hL, hJ0⟩ : ∃ b7 hL, FJ f b7 hL (fun j => (Array.replicate ops.size false).getD j true) a w := by
  obtain ⟨S, δ, Fr, hn, hdef, ha, rfl, hst, hnx, hSlt⟩ := h
  obtain ⟨row, hr, hlt⟩ := isBx_own (hbx 0 (Nat.zero_le _))
  rw [hq0] at hr
  obtain ⟨b, rowD, h1, h2, h3⟩ := box_at hst hr
  have hl : f.off < rowD.length := by rw [← h2] at hlt; simpa using hlt
  refine ⟨b, (rowD[f.off]).ann, fun _ => ⟨?_, (h3 f.off _ (List.getElem?_eq_getElem hl)).1, ?_, ?_⟩⟩
  · rw [ha f.r, h1]; simp
  · intro hx; simp [Array.getD_eq_getD_getElem?, show f.i0 < ops.size by omega] at hx
  · intro hx; simp [Array.getD_eq_getD_getElem?, show f.i1 < ops.size by omega] at hx
 refine draw_gen Q hQ h hN ?_ hdraw q hq0 hstep hK (FJ f b7 hL) hJ0 ?_
 · intro i o io h1 h2 d hd
   have := hfl i o io (by simpa using h1) h2
   simp only [chkFl, Bool.and_eq_true] at this
   have h3 := this.1.1.1
   rw [hd] at h3
   cases ho : o.dst with
   | none => rw [ho] at h3; simp [chkDst] at h3
   | some t => rw [ho] at h3; simp only [chkDst, Bool.and_eq_true, beq_iff_eq] at h3; exact h3.1.2
 · intro L i o io a w σ τ' h1 h2 hiN hLi hahead hdown hJ hrel haop hτs
   have hck := hfl i o io h1 h2
   simp only [chkFl, Bool.and_eq_true, Option.isNone_iff_eq_none] at hck
   obtain ⟨⟨⟨hdst, hgo⟩, hgi⟩, hck⟩ := hck
   obtain ⟨dst, iop, g⟩ := io
   simp only at hgi
   subst hgi
   simp only at hdst hck
   by_cases e0 : i = f.i0
   · -- the address
     subst e0
     rw [if_pos rfl] at hck
     simp only [Bool.and_eq_true] at hck
     obtain ⟨k1, k2⟩ := hck
     split at k1
     · rename_i d
       simp only [beq_iff_eq] at k1
       split at k2
       · rename_i t s fi ho
         simp only [Bool.and_eq_true, beq_iff_eq] at k2
         obtain ⟨rfl, k2⟩ := k2
         split at k2
         · rename_i fs hu
           split at k2
           · rename_i fd hff
             simp only [Bool.and_eq_true, beq_iff_eq] at k2
             obtain ⟨g1, g2⟩ := k2
             split at g2
             · rename_i m hm
               simp only [bne_iff_ne] at g2
               obtain ⟨S, δ, Fr, hn, hdef, ha, rfl, hst, hnx, hSlt⟩ := hrel
               have hd := chkDst_ok (a := a) hdst hn
               have hput : ∀ u s, (a.put o.dst u).tmps.getD s undef = if s = d.d then u else a.tmps.getD s undef := fun u s => by rw [hd.1, put_get a d.d u hd.2.2.2 s]
               have hwr : wr d (DV.lf .dead (.pointer (some ⟨b7, f.off, none⟩))).er (fun s => (δ s).er) = some τ' := by
                simp only [aop, arun, eff, valOf] at haop
                split at haop
                · rename_i υ hυ; rw [er_lf, hυ, haop]
                · exact haop.elim
               by_cases hL2 : L f.i2 = true
               · exact absurd (hdown f.i2 n7 hL2 f.i0 (by
                  obtain ⟨o2, io2, q1, q2⟩ : ∃ o2 io2, ops[f.i2]? = some o2 ∧ ios[f.i2]? = some io2 := ⟨ops[f.i2], ios[f.i2]'(by omega), by simp [n7], by simp [hN, n7]⟩
                  have := hfl f.i2 o2 io2 q1 q2
                  simp only [chkFl, Bool.and_eq_true] at this
                  rw [if_neg (by omega), if_neg (by omega)] at this
                  simp only [if_true, Bool.and_eq_true] at this
                  exact this.2.2.2)) (by rw [hLi]; decide)
               · have hL2' : L f.i2 = false := by simpa using hL2
                 obtain ⟨j1, j2, j3, j4⟩ := hJ hL2'
                 refine wpOp_val (u := .pointer (some ⟨b7, f.off, none⟩)) h1 hgo ?_ ⟨⟨τ', rel_put (D := .lf .dead (.pointer (some ⟨b7, f.off, none⟩))) hn hdef ha hst hnx hSlt hd (.lf _ _ _ trivial (fun _ h => h)) (AlOK.dead _) hwr, rfl⟩, fun hx => ?_⟩
                 · have he : a.eval (.tmp f.r) = .pointer (some ⟨b7, 0, none⟩) := by simpa [Act.eval] using j1
                   simp only [execOp, ho, he, Sem.run_bind, run_fieldAt hu hff hm g2, Result.andThen_ok, Sem.run_pure, g1, Nat.zero_add]
                 · simp only [ann_lf]
                   refine ⟨by rw [hput, if_neg (by rw [k1]; exact Ne.symm n1)]; exact j1, j2, fun _ => by rw [hput, if_pos k1.symm], fun hx1 => ?_⟩
                   rw [hput, if_neg (by rw [k1]; exact Ne.symm n3)]
                   exact j4 (by simpa [Ne.symm n4] using hx1)
             · cases g2
           · cases k2
         · cases k2
       · cases k2
     · cases k1
   rw [if_neg e0] at hck
   by_cases e1 : i = f.i1
   · -- the load
     subst e1
     rw [if_pos rfl] at hck
     simp only [Bool.and_eq_true] at hck
     obtain ⟨⟨k1, k2⟩, k3⟩ := hck
     split at k1
     · rename_i d
       simp only [beq_iff_eq] at k1
       split at k2
       · rename_i t s ho
         simp only [Bool.and_eq_true, beq_iff_eq] at k2
         obtain ⟨⟨rfl, k2⟩, k4⟩ := k2
         obtain ⟨S, δ, Fr, hn, hdef, ha, rfl, hst, hnx, hSlt⟩ := hrel
         have hd := chkDst_ok (a := a) hdst hn
         have hput : ∀ u s, (a.put o.dst u).tmps.getD s undef = if s = d.d then u else a.tmps.getD s undef := fun u s => by rw [hd.1, put_get a d.d u hd.2.2.2 s]
         have hwr : wr d (DV.lf .dead hL).er (fun s => (δ s).er) = some τ' := by
          simp only [aop, arun, eff, valOf] at haop
          split at haop
          · rename_i υ hυ; rw [er_lf, hυ, haop]
          · exact haop.elim
         by_cases hL2 : L f.i2 = true
         · exact absurd (hdown f.i2 n7 hL2 f.i1 (by
            obtain ⟨o2, io2, q1, q2⟩ : ∃ o2 io2, ops[f.i2]? = some o2 ∧ ios[f.i2]? = some io2 := ⟨ops[f.i2], ios[f.i2]'(by omega), by simp [n7], by simp [hN, n7]⟩
            have := hfl f.i2 o2 io2 q1 q2
            simp only [chkFl, Bool.and_eq_true] at this
            rw [if_neg (by omega), if_neg (by omega)] at this
            simp only [if_true, Bool.and_eq_true] at this
            exact this.2.2.1.2)) (by rw [hLi]; decide)
         · have hL2' : L f.i2 = false := by simpa using hL2
           obtain ⟨j1, j2, j3, j4⟩ := hJ hL2'
           have j3' := j3 (hahead f.i0 k3)
           refine wpOp_val (u := hL) h1 hgo ?_ ⟨⟨τ', rel_put (D := .lf .dead hL) hn hdef ha hst hnx hSlt hd (.lf _ _ _ trivial (fun _ h => h)) (AlOK.dead _) hwr, rfl⟩, fun hx => ?_⟩
           · have he : a.eval (.tmp f.d0) = .pointer (some ⟨b7, f.off, none⟩) := by simpa [Act.eval] using j3'
             have := run_loadVar (P := P) (w := w) (b := b7) (off := f.off) (vs := [hL]) k2 k4 (.inr rfl) rfl (fun j v hv => by
              cases j with
              | zero => simp only [List.getElem?_cons_zero, Option.some.injEq] at hv; subst hv; exact j2
              | succ j => simp at hv)
             simp only [execOp, ho, he, Instr.loadAt, Instr.sureAddr, Sem.run_bind, Sem.run_pure, Result.andThen_ok, this]
             rfl
           · simp only [ann_lf]
             refine ⟨by rw [hput, if_neg (by rw [k1]; exact Ne.symm n2)]; exact j1, j2, fun hx0 => ?_, fun _ => by rw [hput, if_pos k1.symm]⟩
             rw [hput, if_neg (by rw [k1]; exact n3)]
             exact j3'
       · cases k2
     · cases k1
   rw [if_neg e1] at hck
   simp only [Bool.and_eq_true] at hck
   obtain ⟨hdd, hck⟩ := hck
   by_cases e2 : i = f.i2
   · -- the index
     subst e2
     rw [if_pos rfl] at hck
     simp only [Bool.and_eq_true] at hck
     obtain ⟨⟨k1, k2⟩, k3⟩ := hck
     split at k1
     · rename_i r off kb k j t s x d ho
       simp only [Bool.and_eq_true, beq_iff_eq] at k1
       obtain ⟨⟨⟨⟨⟨rfl, rfl⟩, rfl⟩, rfl⟩, k4⟩, k5⟩ := k1
       split at k4
       · rename_i e hu
         have hk := opt_eq k4
         obtain ⟨S, δ, Fr, hn, hdef, ha, rfl, hst, hnx, hSlt⟩ := hrel
         have hd := chkDst_ok (a := a) hdst hn
         obtain ⟨j1, j2, j3, j4⟩ := hJ hLi
         have j4' := j4 (hahead f.i1 k2)
         obtain ⟨hj, hej⟩ := chkA_sound k5 ha
         simp only [aop, arun, eff] at haop
         cases hv : valOf (.iadr f.r f.off f.kb k j) (fun s => (δ s).er) with
         | none => rw [hv] at haop; exact haop.elim
         | some v =>
          rw [hv] at haop
          simp only at haop
          have hwv : wr d v (fun s => (δ s).er) = some τ' := by
           split at haop
           · rename_i υ hυ; rw [hυ, haop]
           · exact haop.elim
          simp only [valOf] at hv
          split at hv
          · rename_i kb' row n0 hr hn0
            split at hv
            · rename_i k' rows hcell
              split at hv
              · rename_i hcond
                obtain ⟨rfl, rfl, h0, hlt⟩ := hcond
                obtain rfl := Option.some.inj hv
                obtain ⟨b, rowD, g1, g2, g3⟩ := box_at hst hr
                have hb : b = b7 := by
                 have := ha f.r
                 rw [j1, g1] at this
                 simpa using this.symm
                subst hb
                rw [← g2, List.getElem?_map, Option.map_eq_some_iff] at hcell
                obtain ⟨D, hD, hDe⟩ := hcell
                obtain ⟨g4, FD, g5⟩ := g3 f.off D hD
                rw [j2, Option.some.injEq] at g4
                obtain ⟨kk, hn0⟩ := asI_sc hn0
                obtain ⟨ei, _⟩ := hst.argSc hj hn0
                have hsub : subD (δ f.r) [(0, f.off, f.kb)] = some D := by rw [g1]; simp [subD, hD]
                have he1 : a.eval (.tmp f.d1) = hL := by simpa [Act.eval] using j4'
                cases hDD : D with
                | lf x1 v1 => rw [hDD] at hDe g5; simp at hDe; subst hDe; cases g5 with | lf _ _ _ hl _ => simp [LeafOK] at hl
                | agg => rw [hDD] at hDe; simp at hDe
                | tup => rw [hDD] at hDe; simp at hDe
                | own hh bx k0 rowsD =>
                 rw [hDD] at hDe g5 g4 hsub
                 simp only [er_own, AV.own.injEq] at hDe
                 obtain ⟨rfl, rfl, hrows⟩ := hDe
                 simp only [ann_own] at g4
                 have hlen : rowsD.length = rows.length := by rw [← hrows]; simp
                 cases g5 with
                 | nil => simp at hlen; rw [← hlen] at hlt; simp at hlt; omega
                 | own _ _ _ bb c arr E Fs _ hb' hk' hcap hSb hv' hr' hdd' hval hbF hF =>
                  have hLf : Lf w S δ (.adr f.r [(0, f.off, f.kb)] n0.toNat 0 k0) (.pointer (some ⟨bb, n0.toNat * k0 + 0, none⟩)) := Lf.adr hsub (by simp)
                  obtain ⟨D2, q1, q2, q3, q4⟩ := hLf
                  refine wpOp_val (u := D2.ann) h1 hgo ?_ ⟨⟨τ', rel_put (D := D2) hn hdef ha hst hnx hSlt hd q3 q4 (by rw [q1]; exact hwv), rfl⟩, fun hx => ?_⟩
                  · rw [q2]
                    simp only [execOp, ho, he1, g4, hej, ei, hdr, Sem.run_bind, Bool.false_eq_true, if_false, run_indexAt_slice hu hk h0 (show n0 < (rowsD.length : Nat) by rw [hlen]; exact hlt), Result.andThen_ok, Sem.run_pure]
                    simp
                  · simp at hx
              · cases hv
            · cases hv
          · cases hv
       · cases k4
     · cases k1
   rw [if_neg e2, Bool.and_eq_true] at hck
   obtain ⟨hop, hkind⟩ := hck
   have hJn : ∀ (u : Value) w', (L f.i2 = false → w'.cell? ⟨b7, f.off, none⟩ = w.cell? ⟨b7, f.off, none⟩) → FJ f b7 hL (fun j => (L j || j == i)) (a.put o.dst u) w' := by
    intro u w' hw' hx
    have hx2 : L f.i2 = false := by simp only [Bool.or_eq_false_iff] at hx; exact hx.1
    obtain ⟨j1, j2, j3, j4⟩ := hJ hx2
    have hput : ∀ s, s = f.r ∨ s = f.d0 ∨ s = f.d1 → (a.put o.dst u).tmps.getD s undef = a.tmps.getD s undef := by
     intro s hs
     obtain ⟨S, δ, Fr, hn, _⟩ := hrel
     cases dst with
     | none =>
      have h0 : o.dst = none := chkDst_ok (a := a) hdst hn
      rw [h0]; rfl
     | some d =>
      have hd := chkDst_ok (a := a) hdst hn
      rw [hd.1, put_get a d.d u hd.2.2.2 s, if_neg]
      simp only [Bool.and_eq_true, bne_iff_ne] at hdd
      rintro rfl
      rcases hs with hs | hs | hs
      · exact hdd.1.1 hs
      · exact hdd.1.2 hs
      · exact hdd.2 hs
    refine ⟨by rw [hput _ (.inl rfl)]; exact j1, by rw [hw' hx2]; exact j2, fun h0 => ?_, fun h0 => ?_⟩
    · rw [hput _ (.inr (.inl rfl))]; exact j3 (by simpa [Ne.symm e0] using h0)
    · rw [hput _ (.inr (.inr rfl))]; exact j4 (by simpa [Ne.symm e1] using h0)
   by_cases hlt : i < f.i2
   · rw [if_pos hlt] at hkind
     simp only [Bool.or_eq_true] at hkind
     rcases hkind with hkind | hkind
     · -- a value
       have hop' : chkOp P o.op iop = true := by
        simp only [chkOper, Bool.and_eq_true] at hop
        have := hop.2
        cases iop <;> first | exact this | cases hkind
       have hv : ∃ v, valOf iop σ = some v := by
        simp only [aop, arun] at haop
        cases iop <;> first | (cases hkind; done) | skip
        all_goals
         cases dst with
         | none => simp [eff] at haop
         | some d =>
          simp only [eff] at haop
          split at haop
          · rename_i υ hυ
            split at hυ
            · exact ⟨_, by assumption⟩
            · cases hυ
          · exact haop.elim
       obtain ⟨v, hv⟩ := hv
       obtain ⟨u, hu⟩ := fl_run (io := ⟨dst, iop, none⟩) hrel hop' hkind hv
       exact wpOp_and h1 hgo hu (hJn u w fun _ => rfl) (aop_sound hG hrel hop haop Q h1)
     · -- the call
       split at hkind
       · rename_i fn args
         have hcall : chkCall P o.op fn args 4 = true := by
          simp only [chkOper, Bool.and_eq_true] at hop; exact hop.2
         by_cases hL2 : L f.i2 = true
         · refine wpOp_mono ?_ (aop_sound hG hrel hop haop Q h1)
           intro a' w' hr
           exact ⟨hr, fun hx => by simp [hL2] at hx⟩
         have hL2' : L f.i2 = false := by simpa using hL2
         have hLf : ∀ j, j < ops.size → (L j || j == i) = true → j < f.i2 := by
          intro j hj hx
          simp only [Bool.or_eq_true, beq_iff_eq] at hx
          rcases hx with hx | rfl
          · rcases Nat.lt_trichotomy j f.i2 with h | h | h
            · exact h
            · subst h; exact absurd hx hL2
            · exfalso
              refine hL2 (hdown j hj hx f.i2 ?_)
              obtain ⟨o2, io2, q1, q2⟩ : ∃ o2 io2, ops[j]? = some o2 ∧ ios[j]? = some io2 := ⟨ops[j], ios[j]'(by omega), by simp [hj], by simp [hN, hj]⟩
              have := hfl j o2 io2 q1 q2
              simp only [chkFl, Bool.and_eq_true] at this
              rw [if_neg (by omega), if_neg (by omega), if_neg (by omega)] at this
              simp only [Bool.and_eq_true] at this
              have := this.2.2.2
              rw [if_neg (by omega)] at this
              exact this
          · exact hlt
         obtain ⟨row, hτr, _⟩ : ∃ row, τ' f.r = .own true f.kb [row] ∧ f.off < row.length := by
          rw [hτs f.r]
          exact isBx_own (hbx _ (lastW_le_of _ hLf))
         obtain ⟨S, δ, Fr, hn, _⟩ := id hrel
         have hd : DstOK G a o dst := chkDst_ok (a := a) hdst hn
         unfold wpOp
         rw [h1]
         simp only [Region.wanted, hgo, if_true]
         refine .inl (Oper.wp_mono ?_ (call4_sound (io := ⟨dst, .call fn args 4, none⟩) hG hrel rfl hcall hd (K := (· = τ')) haop (rr := f.r) (kb := f.kb) ?_ Q))
         · rintro a' w' ⟨hr, hkeep, u, rfl⟩
           refine ⟨hr, hJn u w' fun hx => ?_⟩
           obtain ⟨j1, _⟩ := hJ hx
           simp only [World.cell?, hkeep b7 j1]
         · intro as τ1 hca
           simp only [aop, arun] at haop
           rw [hca] at haop
           obtain ⟨res, _, hres⟩ := haop
           split at hres
           · rename_i v hv
             cases dst with
             | none => simp only [toDst] at hres; rw [hres]; exact ⟨_, hτr⟩
             | some d =>
              simp only [toDst] at hres
              split at hres
              · rename_i υ hυ
                subst hres
                unfold wr at hυ
                split at hυ
                · obtain rfl := Option.some.inj hυ
                  simp only [Bool.and_eq_true, bne_iff_ne] at hdd
                  rw [upd_ne _ _ (Ne.symm hdd.1.1), kills_at'] at hτr
                  split at hτr
                  · cases hx : τ1 f.r with
                    | own b0 k0 rows0 => rw [hx] at hτr; simp only [killr] at hτr; cases hτr; exact ⟨_, rfl⟩
                    | _ => rw [hx] at hτr; simp only [killr] at hτr; first | (split at hτr <;> cases hτr; done) | cases hτr
                  · exact ⟨_, hτr⟩
                · cases hυ
              · exact hres.elim
           · exact hres.elim
       · cases hkind
   · -- behind the index
     rw [if_neg hlt] at hkind
     have hL2 : L f.i2 = true := hahead f.i2 hkind
     refine wpOp_mono ?_ (aop_sound hG hrel hop haop Q h1)
     intro a' w' hr
     exact ⟨hr, fun hx => by simp [hL2] at hx⟩
theorem aopsB_steps {f : Flo} (as : List IOper) : ∀ {σ : Sg} {K : Sg → Prop}, aopsB P G f as K σ → ∃ q : Nat → Sg, q 0 = σ ∧ (∀ i io, as[i]? = some io → aop P G io (· = q (i + 1)) (q i)) ∧ (∀ i, i < as.length → isBx f.kb f.off (q i f.r) = true) ∧ K (q as.length) := by
 induction as with
 | nil => intro σ K h; exact ⟨fun _ => σ, rfl, fun i io hi => by simp at hi, fun i hi => by simp at hi, h⟩
 | cons o os ih =>
  intro σ K h
  obtain ⟨hb, h⟩ := h
  obtain ⟨τ, h1, h2⟩ := aop_step.1 h
  obtain ⟨q, q0, q1, q2, q3⟩ := ih h2
  refine ⟨fun i => match i with | 0 => σ | i + 1 => q i, rfl, fun i io hi => ?_, fun i hi => ?_, by simpa using q3⟩
  · cases i with
    | zero =>
     simp only [List.getElem?_cons_zero, Option.some.injEq] at hi
     subst hi
     simp only [q0]; exact h1
    | succ i => exact q1 i io (by simpa using hi)
  · cases i with
    | zero => exact hb
    | succ i => exact q2 i (by simpa using hi)
theorem floRun {f : Flo} {as bs : List IOper} {K : Sg → Prop} {σ : Sg} (h : aopsB P G f as (aops P G bs K) σ) : ∃ q : Nat → Sg, q 0 = σ ∧ (∀ i io, (as ++ bs)[i]? = some io → aop P G io (· = q (i + 1)) (q i)) ∧ (∀ i, i < as.length → isBx f.kb f.off (q i f.r) = true) ∧ K (q (as ++ bs).length) := by
 obtain ⟨q, q0, q1, q2, q3⟩ := aopsB_steps as h
 obtain ⟨p, p0, p1, p2⟩ := aops_steps bs q3
 refine ⟨fun i => if i < as.length then q i else p (i - as.length), ?_, fun i io hi => ?_, fun i hi => ?_, ?_⟩
 · simp only; split
   · exact q0
   · rename_i hx
     have : as.length = 0 := by omega
     rw [this, Nat.sub_zero, p0, this]; exact q0
 · by_cases h1 : i < as.length
   · rw [List.getElem?_append_left h1] at hi
     have := q1 i io hi
     simp only [h1, if_true]
     by_cases h2 : i + 1 < as.length
     · simp only [h2, if_true]; exact this
     · have e : i + 1 = as.length := by omega
       simp only [h2, if_false]
       rw [e, Nat.sub_self, p0, ← e]; exact this
   · rw [List.getElem?_append_right (by omega)] at hi
     have := p1 _ io hi
     simp only [h1, if_false, show ¬ i + 1 < as.length by omega]
     rw [show i + 1 - as.length = i - as.length + 1 by omega]; exact this
 · simp only [hi, if_true]; exact q2 i hi
 · simp only [List.length_append, show ¬ as.length + bs.length < as.length by omega, if_false, Nat.add_sub_cancel_left]; exact p2
end Go.Abs
namespace Go.Abs
variable {G : Gi} {P : Program} {w : World}
theorem wpOp_tmps {ops : Array Oper} {Q : Exit → Act → World → Prop} {i : Nat} {o : Oper} {a : Act} {K : Act → World → Prop} {J : Array Value → Prop} (hi : ops[i]? = some o) (hJ : ∀ (b : Act) v, b.tmps = a.tmps → J (b.put o.dst v).tmps) (h : wpOp P ops Q i K a w) :
 wpOp P ops Q i (fun a' w' => K a' w' ∧ J a'.tmps) a w := by
 unfold wpOp at h ⊢
 rw [hi] at h ⊢
 simp only at h ⊢
 by_cases hw : Region.wanted o (yielded ops a.tmps) = true
 · simp only [hw, if_true] at h ⊢
   refine h.imp (fun h => ?_) id
   unfold Oper.wp at *
   generalize (execOp a.eval o).run P w = r at *
   cases r with
   | ok x w' =>
    cases x with
    | value v => exact ⟨h, hJ _ _ rfl⟩
    | skip => exact ⟨h, hJ _ _ rfl⟩
    | defer d => exact ⟨h, hJ _ _ rfl⟩
    | enter f args =>
     simp only [Oper.upon] at h ⊢
     refine Calls.mono h fun e w'' he => ?_
     cases e with
     | returned v => exact ⟨he, hJ _ _ rfl⟩
     | panicked chain => exact he
     | outgrown => exact he
    | row row args =>
     simp only [Oper.upon] at h ⊢
     exact Rows.mono h fun v w'' he => ⟨he, hJ _ _ rfl⟩
    | _ => simp only [Oper.upon] at h
   | halt x w' =>
    cases x with
    | panic v => exact h
    | _ => simp only [Oper.upon] at h
 · simp only [hw] at h ⊢
   exact ⟨h, hJ _ _ rfl⟩
def chkFc (P : Program) (G : Gi) (n : Nat) (r i1 i2 d1 : Nat) (ops : Array Oper) (M : List Nat) (i : Nat) (o : Oper) (io : IOper) : Bool :=
 chkDst G n o.dst io.dst &&
 (if i = i1 then o.guard.isNone && io.guard.isNone && (match io.op, io.dst with | .fl, some d => d.d == d1 | _, _ => false) && (match o.op with | .move (.tmp s) => s == r | _ => false)
  else (match io.dst with | some d => d.d != r && d.d != d1 | none => true) &&
   (if i = i2 then o.guard.isNone && (M.getD i 0).testBit i1 && (match o.op with
    | .indexAddr t (.tmp s) x => s == d1 && chkOper P G n (ops.setIfInBounds i { o with op := .indexAddr t (.tmp r) x }) { o with op := .indexAddr t (.tmp r) x } io
    | _ => false)
   else chkOper P G n ops o io))
def chkFlc (P : Program) (G : Gi) (n : Nat) (r i1 i2 d1 : Nat) (ops : Array Oper) (ios : List IOper) : Bool :=
 decide (ios.length = ops.size) && decide (d1 ≠ r) && decide (i1 < ops.size) && chkDraw2 G ops.toList ios &&
 (List.range ops.size).all fun i => match ops[i]?, ios[i]? with
  | some o, some io => chkFc P G n r i1 i2 d1 ops (befs ops.toList []) i o io
  | _, _ => false
theorem flc_sound {n : Nat} {w0 : World} {S0 U0 : Nat → Prop} (hG : GIn w0 S0 U0) {ops : Array Oper} {K : Sg → Prop} (Q : Exit → Act → World → Prop) (hQ : ∀ a w σ, Rel G n w0 S0 U0 a w σ → K σ → Q .normal a w) {ios : List IOper} {a : Act} {w : World} {σ : Sg} {r i1 i2 d1 : Nat}
 (h : Rel G n w0 S0 U0 a w σ) (hc : chkFlc P G n r i1 i2 d1 ops ios = true) (hrun : aops P G ios K σ) :
 wpAny P .any ops Q ops.size (Array.replicate ops.size false) a w := by
 simp only [chkFlc, Bool.and_eq_true, decide_eq_true_eq, List.all_eq_true] at hc
 obtain ⟨⟨⟨⟨hN, n1⟩, n2⟩, hdraw⟩, hall⟩ := hc
 obtain ⟨q, hq0, hstep, hK⟩ := aops_steps ios hrun
 have hfl : ∀ i o io, ops[i]? = some o → ios[i]? = some io → chkFc P G n r i1 i2 d1 ops (befs ops.toList []) i o io = true := by
  intro i o io h1 h2
  have hi : i < ops.size := (Array.getElem?_eq_some_iff.1 h1).1
  have := hall i (by simpa using hi)
  rw [h1, h2] at this
  exact this
 refine draw_gen Q hQ h hN ?_ hdraw q hq0 hstep hK (fun L a _ => L i1 = true → a.tmps.getD d1 undef = a.tmps.getD r undef) ?_ ?_
 · intro i o io h1 h2 d hd
   have := hfl i o io (by simpa using h1) h2
   simp only [chkFc, Bool.and_eq_true] at this
   have h3 := this.1
   rw [hd] at h3
   cases ho : o.dst with
   | none => rw [ho] at h3; simp [chkDst] at h3
   | some t => rw [ho] at h3; simp only [chkDst, Bool.and_eq_true, beq_iff_eq] at h3; exact h3.1.2
 · intro hx
   simp [Array.getD_eq_getD_getElem?, n2] at hx
 · intro L i o io a w σ τ' h1 h2 hiN hLi hahead hdown hJ hrel haop hτs
   have hck := hfl i o io h1 h2
   simp only [chkFc, Bool.and_eq_true] at hck
   obtain ⟨hdst, hck⟩ := hck
   by_cases e1 : i = i1
   · subst e1
     rw [if_pos rfl] at hck
     simp only [Bool.and_eq_true, Option.isNone_iff_eq_none] at hck
     obtain ⟨⟨⟨hgo, hgi⟩, k1⟩, k2⟩ := hck
     obtain ⟨dst, iop, g⟩ := io
     simp only at hgi hdst k1
     subst hgi
     split at k1
     · rename_i d
       simp only [beq_iff_eq] at k1
       split at k2
       · rename_i s ho
         simp only [beq_iff_eq] at k2
         subst k2
         obtain ⟨S, δ, Fr, hn, hdef, ha, rfl, hst, hnx, hSlt⟩ := hrel
         have hd := chkDst_ok (a := a) hdst hn
         have hput : ∀ u s, (a.put o.dst u).tmps.getD s undef = if s = d.d then u else a.tmps.getD s undef := fun u s => by rw [hd.1, put_get a d.d u hd.2.2.2 s]
         have hwr : wr d (DV.lf .dead (a.tmps.getD s undef)).er (fun s => (δ s).er) = some τ' := by
          simp only [aop, arun, eff, valOf] at haop
          split at haop
          · rename_i υ hυ; rw [er_lf, hυ, haop]
          · exact haop.elim
         refine wpOp_val (u := a.tmps.getD s undef) h1 hgo ?_ ⟨⟨τ', rel_put (D := .lf .dead (a.tmps.getD s undef)) hn hdef ha hst hnx hSlt hd (.lf _ _ _ trivial (fun _ h => h)) (AlOK.dead _) hwr, rfl⟩, fun _ => ?_⟩
         · simp [execOp, ho, Act.eval]
         · rw [hput, hput, if_pos k1.symm, if_neg (by rw [k1]; exact Ne.symm n1)]
       · cases k2
     · cases k1
   · rw [if_neg e1] at hck
     simp only [Bool.and_eq_true] at hck
     obtain ⟨k1, hck⟩ := hck
     have hJ' : ∀ (b : Act) v, b.tmps = a.tmps → ((L i1 || i1 == i) = true → (b.put o.dst v).tmps.getD d1 undef = (b.put o.dst v).tmps.getD r undef) := by
      intro b v hb hx
      have hx' : L i1 = true := by simpa [Ne.symm e1] using hx
      have hj := hJ hx'
      cases hod : o.dst with
      | none => simp only [Act.put, hb]; exact hj
      | some t =>
       cases hid : io.dst with
       | none => rw [hod, hid] at hdst; simp [chkDst] at hdst
       | some d =>
        rw [hod, hid] at hdst
        rw [hid] at k1
        simp only [chkDst, Bool.and_eq_true, beq_iff_eq] at hdst
        simp only [Bool.and_eq_true, bne_iff_ne] at k1
        have ht : t = d.d := hdst.1.1.1
        simp only [Act.put, hb, Array.getD_eq_getD_getElem?, Array.getElem?_setIfInBounds]
        rw [if_neg (by rw [ht]; exact k1.2), if_neg (by rw [ht]; exact k1.1)]
        simpa [Array.getD_eq_getD_getElem?] using hj
     by_cases e2 : i = i2
     · subst e2
       rw [if_pos rfl] at hck
       simp only [Bool.and_eq_true, Option.isNone_iff_eq_none] at hck
       obtain ⟨⟨hgo, hb⟩, hck⟩ := hck
       split at hck
       · rename_i t s x ho
         simp only [Bool.and_eq_true, beq_iff_eq] at hck
         obtain ⟨rfl, hck⟩ := hck
         have hL1 : L i1 = true := hahead _ hb
         have hj := hJ hL1
         have key := aop_sound hG hrel hck haop Q (i := i) (by simp [hiN])
         refine wpOp_tmps h1 (J := fun tm => (L i1 || i1 == i) = true → tm.getD s undef = tm.getD r undef) (fun b v hb => hJ' b v hb) ?_
         unfold wpOp at key ⊢
         rw [h1]
         simp only [Array.getElem?_setIfInBounds_self_of_lt hiN, Region.wanted, hgo, if_true] at key ⊢
         have he : execOp a.eval o = execOp a.eval { o with op := .indexAddr t (.tmp r) x } := by
          simp only [execOp, ho, Act.eval, hj]
         unfold Oper.wp Oper.asks at *
         rw [he]
         exact key
       · cases hck
     · rw [if_neg e2] at hck
       exact wpOp_tmps h1 (J := fun tm => (L i1 || i1 == i) = true → tm.getD d1 undef = tm.getD r undef) (fun b v hb => hJ' b v hb) (aop_sound hG hrel hck haop Q h1)
end Go.Abs
namespace Go.Abs
variable {w w' : World} {S S' : Nat → Prop} {G : Gi} {δ : Nat → DV} {Fr : Nat → Nat → Prop} {P : Program}
def chkX (P : Program) (G : Gi) (n : Nat) (ops : Array Oper) (o : Oper) : XOp → Bool
 | .o io => chkOper P G n ops o io
 | .nilq d neg x => o.guard.isNone && chkDst G n o.dst (some d) && chkNil P o.op neg x
 | .lend d f x rest => o.guard.isNone && chkDst G n o.dst d && chkCall P o.op f (x :: rest) 0
 | .gld d g m => o.guard.isNone && chkDst G n o.dst (some d) && chkGld P o.op g m
 | .bxv d m s => o.guard.isNone && chkDst G n o.dst (some d) && chkBxv P o.op m s
 | .clo d f x args => o.guard.isNone && chkDst G n o.dst d && chkClo P o.op f x args
 | .lnd d f pre x _ post => o.guard.isNone && chkDst G n o.dst d && chkCall P o.op f (pre ++ x :: post) 0
def chkXs (P : Program) (G : Gi) (n : Nat) (ops : Array Oper) : List Oper → List XOp → Bool
 | [], [] => true
 | o :: os, x :: xs => chkX P G n ops o x && chkXs P G n ops os xs
 | _, _ => false
theorem ax_sound {n : Nat} {w0 : World} {S0 U0 : Nat → Prop} (hG : GIn w0 S0 U0) {ops : Array Oper} {K : Sg → Prop} (Q : Exit → Act → World → Prop) {k : Nat} {o : Oper} (ho : ops[k]? = some o) {x : XOp} {xs : List XOp} {a : Act} {w : World} {σ : Sg}
 (h : Rel G n w0 S0 U0 a w σ) (hc : chkX P G n ops o x = true ∧ True) (hr : axs P G (x :: xs) K σ) : wpOp P ops Q k (fun a' w' => ∃ σ', Rel G n w0 S0 U0 a' w' σ' ∧ axs P G xs K σ') a w := by
 have hplain : o.guard.isNone = true → o.wp P a w (fun a' w' => ∃ σ', Rel G n w0 S0 U0 a' w' σ' ∧ axs P G xs K σ') Q → wpOp P ops Q k (fun a' w' => ∃ σ', Rel G n w0 S0 U0 a' w' σ' ∧ axs P G xs K σ') a w := by
  intro hg hwp
  unfold wpOp
  rw [ho]
  have hog : o.guard = none := by simpa using hg
  simp only
  rw [if_pos (by simp [Region.wanted, hog])]
  exact .inl hwp
 cases x with
 | o io => exact aop_sound hG h hc.1 hr Q ho
 | nilq d neg x =>
  simp only [chkX, Bool.and_eq_true] at hc
  obtain ⟨⟨⟨g1, g2⟩, g3⟩, _⟩ := hc
  refine hplain g1 ?_
  simp only [axs] at hr
  split at hr
  · rename_i hv pl hh
    split at hr
    · rename_i rows hrows
      exact nilq_sound h g3 g2 hh hrows hr Q
    · exact hr.elim
  · exact hr.elim
 | bxv d m s =>
  simp only [chkX, Bool.and_eq_true] at hc
  obtain ⟨⟨⟨g1, g2⟩, g3⟩, _⟩ := hc
  refine hplain g1 ?_
  simp only [axs] at hr
  split at hr
  · rename_i cs hs
    exact bxv_sound h g3 g2 hs hr.1 hr.2 Q
  · exact hr.elim
 | clo d f x args =>
  simp only [chkX, Bool.and_eq_true] at hc
  obtain ⟨⟨⟨g1, g2⟩, g3⟩, _⟩ := hc
  refine hplain g1 ?_
  simp only [axs] at hr
  split at hr
  · rename_i as hca
    obtain ⟨res, hsays, hr⟩ := hr
    split at hr
    · rename_i v hres
      exact clo_sound hG h g3 g2 hca hsays hres hr Q
    · exact hr.elim
  · exact hr.elim
 | lnd d f pre x c post =>
  simp only [chkX, Bool.and_eq_true] at hc
  obtain ⟨⟨⟨g1, g2⟩, g3⟩, _⟩ := hc
  refine hplain g1 ?_
  simp only [axs] at hr
  split at hr
  · rename_i r p as bs hp hpre hpost
    split at hr
    · rename_i b kk rows hs
      obtain ⟨res, out, ou, hsays, hba, hback, hcl, hr⟩ := hr
      split at hr
      · rename_i t hput
        exact lnd_sound hG h g3 g2 hp hpre hpost hs hsays hba hback hcl hput hr Q
      · exact hr.elim
    · exact hr.elim
  · exact hr.elim
 | gld d g m =>
  simp only [chkX, Bool.and_eq_true] at hc
  obtain ⟨⟨⟨g1, g2⟩, g3⟩, _⟩ := hc
  refine hplain g1 ?_
  simp only [axs] at hr
  split at hr
  · rename_i cs hcs
    exact gld_sound hG h g3 g2 hcs hr Q
  · exact hr.elim
 | lend d f x rest =>
  simp only [chkX, Bool.and_eq_true] at hc
  obtain ⟨⟨⟨g1, g2⟩, g3⟩, _⟩ := hc
  refine hplain g1 ?_
  simp only [axs] at hr
  split at hr
  · rename_i r p as hp hra
    split at hr
    · rename_i b kk rows hs
      obtain ⟨res, out, hsays, hback, hr⟩ := hr
      split at hr
      · rename_i t v hput hres
        exact lend_sound hG h g3 g2 hp hra hs hsays hback hput hres hr Q
      · exact hr.elim
    · exact hr.elim
  · exact hr.elim
theorem axs_sound {n : Nat} {w0 : World} {S0 U0 : Nat → Prop} (hG : GIn w0 S0 U0) {ops : Array Oper} {K : Sg → Prop} (Q : Exit → Act → World → Prop) (hQ : ∀ a w σ, Rel G n w0 S0 U0 a w σ → K σ → Q .normal a w) (xs : List XOp) :
 ∀ (k : Nat) {a : Act} {w : World} {σ : Sg}, Rel G n w0 S0 U0 a w σ → chkXs P G n ops (ops.toList.drop k) xs = true → axs P G xs K σ → wpOps P ops Q (List.range' k (ops.size - k)) a w := by
 induction xs with
 | nil =>
  intro k a w σ h hc hr
  have hk : ops.toList.drop k = [] := by cases hd : ops.toList.drop k with | nil => rfl | cons o os => rw [hd] at hc; simp [chkXs] at hc
  have hlen : ops.size ≤ k := by simpa using hk
  rw [show ops.size - k = 0 from by omega]
  exact hQ a w σ h hr
 | cons x xs ih =>
  intro k a w σ h hc hr
  cases hd : ops.toList.drop k with
  | nil => rw [hd] at hc; simp [chkXs] at hc
  | cons o os =>
   rw [hd] at hc
   simp only [chkXs, Bool.and_eq_true] at hc
   have hk : k < ops.size := by
    have : (ops.toList.drop k).length = os.length + 1 := by rw [hd]; rfl
    simp at this; omega
   have ho : ops[k]? = some o := by
    have : (ops.toList.drop k)[0]? = some o := by rw [hd]; rfl
    simpa using this
   have hos : ops.toList.drop (k + 1) = os := by
    have : (ops.toList.drop k).drop 1 = os := by rw [hd]; rfl
    rw [List.drop_drop] at this; exact this
   rw [show ops.size - k = (ops.size - (k + 1)) + 1 from by omega, List.range'_succ, wpOps_cons]
   have hnext : ∀ a' w', (∃ σ', Rel G n w0 S0 U0 a' w' σ' ∧ axs P G xs K σ') → wpOps P ops Q (List.range' (k + 1) (ops.size - (k + 1))) a' w' := by
    rintro a' w' ⟨σ', h', hK'⟩
    exact ih (k + 1) h' (by rw [hos]; exact hc.2) hK'
   exact wpOp_mono hnext (ax_sound hG Q ho h ⟨hc.1, trivial⟩ hr)
def chkC (P : Program) (G : Gi) (n : Nat) : Code → IC → Bool
 | .skip, .skip => true
 | _, .bad => true
 | c, .gz _ _ a => chkC P G n c a
 | .region _ ops false, .rex xs => chkXs P G n ops ops.toList xs
 | .region _ ops d, .reg ios => chkOps P G n ops ops.toList ios && (!d || chkDraw2 G ops.toList ios)
 | .region _ ops true, .flo f as bs => chkFlo P G n f ops (as ++ bs) && as.length == f.i2 + 1
 | .region _ ops true, .flc r i1 i2 d1 ios => chkFlc P G n r i1 i2 d1 ops ios
 | .seq a b, .seq a' b' => chkC P G n a a' && chkC P G n b b'
 | .cond c a b, .cond c' a' b' => chkA c c' && chkC P G n a a' && chkC P G n b b'
 | .block id a, .block id' a' => id == id' && chkC P G n a a'
 | .loop a, .loop a' => chkC P G n a a'
 | .exit id, .exit id' => id == id'
 | .ret, .ret => true
 | .label _, .skip => true
 | _, _ => false
def Keep (m : Nat) (a0 a : Act) : Prop := ∀ i, i < m → a.tmps.getD i undef = a0.tmps.getD i undef
theorem Keep.refl (m : Nat) (a : Act) : Keep m a a := fun _ _ => rfl
def dstOK (m : Nat) (o : Oper) : Bool := match o.dst with
 | some d => decide (m ≤ d)
 | none => true
def dstsOK (m : Nat) : Code → Bool
 | .region _ ops _ => ops.toList.all (dstOK m)
 | .seq a b => dstsOK m a && dstsOK m b
 | .cond _ a b => dstsOK m a && dstsOK m b
 | .block _ a => dstsOK m a
 | .loop a => dstsOK m a
 | _ => true
theorem dstsOK_zero (c : Code) : dstsOK 0 c = true := by
 induction c with
 | region id ops d => simp only [dstsOK, List.all_eq_true]; intro o _; unfold dstOK; split <;> simp
 | seq a b iha ihb => simp [dstsOK, iha, ihb]
 | cond c a b iha ihb => simp [dstsOK, iha, ihb]
 | block id a iha => simp [dstsOK, iha]
 | loop a iha => simp [dstsOK, iha]
 | _ => simp [dstsOK]
def Kept (m : Nat) (a0 : Act) (Q : Exit → Act → World → Prop) (e : Exit) (a : Act) (w : World) : Prop := Q e a w ∧ (e = .outgrown ∨ Keep m a0 a)
theorem Keep.put {m : Nat} {a0 a : Act} (h : Keep m a0 a) {o : Oper} (ho : dstOK m o = true) (v : Value) : Keep m a0 (a.put o.dst v) := by
 intro i hi
 unfold dstOK at ho
 split at ho
 · rename_i d hd
   simp only [decide_eq_true_eq] at ho
   rw [hd]
   simp only [Act.put, Array.getD_eq_getD_getElem?, Array.getElem?_setIfInBounds]
   rw [if_neg (by omega)]
   have := h i hi
   simpa [Array.getD_eq_getD_getElem?] using this
 · rename_i hd; rw [hd]; exact h i hi
theorem wpOps_keep {ops : Array Oper} {Q : Exit → Act → World → Prop} {m : Nat} {a0 : Act} (hops : ops.toList.all (dstOK m) = true) (l : List Nat) :
 ∀ (a : Act) (w : World), Keep m a0 a → wpOps P ops Q l a w → wpOps P ops (Kept m a0 Q) l a w := by
 induction l with
 | nil => intro a w hk h; exact ⟨h, .inr hk⟩
 | cons i rest ih =>
  intro a w hk h
  simp only [wpOps] at h ⊢
  cases ho : ops[i]? with
  | none => simp only [ho] at h ⊢; exact ih a w hk h
  | some o =>
   simp only [ho] at h ⊢
   have hod : dstOK m o = true := by
    rw [List.all_eq_true] at hops
    exact hops o (by rw [Array.mem_toList_iff]; exact Array.mem_of_getElem? ho)
   have lets : LetsOut Q → LetsOut (Kept m a0 Q) := fun ⟨a, w, hq⟩ => ⟨a, w, hq, .inl rfl⟩
   by_cases hw : Region.wanted o (yielded ops a.tmps) = true
   · simp only [hw, if_true] at h ⊢
     refine h.imp (fun h => ?_) (fun h => ⟨h.1, lets h.2⟩)
     unfold Oper.wp at *
     generalize (execOp a.eval o).run P w = r at *
     cases r with
     | ok x w' =>
      cases x with
      | value v => exact ih _ _ (hk.put hod v) h
      | skip => exact ih _ _ (hk.put hod undef) h
      | defer d => exact ih _ _ (Keep.put (a := { a with defers := d :: a.defers }) (fun i hi => hk i hi) hod undef) h
      | enter f args =>
       simp only [Oper.upon] at h ⊢
       refine Calls.mono h fun e w'' he => ?_
       cases e with
       | returned v => exact ih _ _ (hk.put hod v) he
       | panicked chain => exact ⟨he, .inr hk⟩
       | outgrown => exact lets he
      | row row args =>
       simp only [Oper.upon] at h ⊢
       exact Rows.mono h fun v w'' he => ih _ _ (hk.put hod v) he
      | _ => simp only [Oper.upon] at h
     | halt x w' =>
      cases x with
      | panic v => simp only [Oper.upon] at h ⊢; exact ⟨h, .inr hk⟩
      | _ => simp only [Oper.upon] at h
   · simp only [hw] at h ⊢
     exact ih _ _ (hk.put hod undef) h
theorem wp_region_keep {id : Nat} {ops : Array Oper} {Q : Exit → Act → World → Prop} {m : Nat} {a0 a : Act} {w : World} (hops : ops.toList.all (dstOK m) = true) (hk : Keep m a0 a)
 (h : wpOps P ops Q (List.range ops.size) a w) : (Code.region id ops false).wp P (Kept m a0 Q) a w := wp_region (wpOps_keep hops _ a w hk h)
theorem wp_region_any_keep {id : Nat} {ops : Array Oper} {Q : Exit → Act → World → Prop} {m : Nat} {a0 a : Act} {w : World} (hops : ops.toList.all (dstOK m) = true) (hk : Keep m a0 a) (hm : P.follows .mixedOrders = true)
 (h : wpAny P .any ops Q ops.size (Array.replicate ops.size false) a { w with drawn := w.drawn + 1 }) : (Code.region id ops true).wp P (Kept m a0 Q) a w :=
 wp_region_draw fun t => by
  simp only [Region.schedule, hm, Bool.true_or, if_true]
  exact wpOps_keep hops _ a _ hk (wpAny_sound ops.size t _ a _ h)
def TiedR (G : Gi) (n : Nat) (w0 : World) (S0 U0 : Nat → Prop) (Q : Exit → Sg → Prop) (e : Exit) (a : Act) (w : World) : Prop := ∃ σ, Rel G n w0 S0 U0 a w σ ∧ Q e σ
def Tied (G : Gi) (n : Nat) (w0 : World) (S0 U0 : Nat → Prop) (m : Nat) (a0 : Act) (Q : Exit → Sg → Prop) : Exit → Act → World → Prop := Kept m a0 (TiedR G n w0 S0 U0 Q)
theorem Rel.drew {n : Nat} {w0 : World} {S0 U0 : Nat → Prop} {a : Act} {σ : Sg} (h : Rel G n w0 S0 U0 a w σ) : Rel G n w0 S0 U0 a { w with drawn := w.drawn + 1 } σ := by
 obtain ⟨S, δ, Fr, hn, hdef, ha, her, hst, hnx, hlt⟩ := h
 exact ⟨S, δ, Fr, hn, hdef, ha, her, hst.world (fun _ _ => rfl) (fun _ _ _ => rfl) (fun _ h => h) (fun s x hx => (hst.ok s).notS x hx), ⟨hnx.os, hnx.tape, hnx.output, hnx.size, hnx.block, hnx.sub, hnx.sup, hnx.lt, hnx.own⟩, hlt⟩
theorem Rel.gz {n : Nat} {w0 : World} {S0 U0 : Nat → Prop} {a : Act} {σ τ : Sg} {r : Nat} {p : List Step} {v : AV} (h : Rel G n w0 S0 U0 a w σ) (hf : fzAt G r p σ = some (v, τ)) : Rel G n w0 S0 U0 a w τ := by
 obtain ⟨S, δ, Fr, hn, hdef, ha, rfl, hst, hnx, hlt⟩ := h
 obtain ⟨δ', F', Fo, v, bx, k, rows, hst', her, hann, _, _, _, hdis, hown, _⟩ := hst.fzAt hf
 have hFo : ∀ x, Fo x → x < w.heap.size := fun x hx => by obtain ⟨t, ht⟩ := hown x (.inr hx); exact (hst.ok t).lt x ht
 exact ⟨_, δ', F', hn, hdef, fun s => (ha s).trans (hann s).symm, her, hst', hnx.trans (Nx.frz (fun x hx => hown x hx) hFo), fun b hb => hb.elim (hlt b) (hFo b)⟩
theorem Rel.gzS {n : Nat} {w0 : World} {S0 U0 : Nat → Prop} {a : Act} {σ τ : Sg} {r : Nat} {p : List Step} (h : Rel G n w0 S0 U0 a w σ) (hf : gzS G r p σ = some τ) : Rel G n w0 S0 U0 a w τ := by
 unfold Abs.gzS at hf
 split at hf
 · obtain rfl := Option.some.inj hf; exact h
 · split at hf
   · rename_i v τ' hv
     obtain rfl := Option.some.inj hf
     exact h.gz hv
   · cases hf
def isGz : IC → Bool
 | .gz .. => true
 | _ => false
theorem gz_lift {n : Nat} {w0 : World} {S0 U0 : Nat → Prop} {m : Nat} {a0 : Act} {c : Code} (h : ∀ ic, isGz ic = false → ∀ (Q : Exit → Sg → Prop) (a : Act) (w : World) (σ : Sg), chkC P G n c ic = true → dstsOK m c = true → Keep m a0 a → Rel G n w0 S0 U0 a w σ → awp P G ic Q σ → c.wp P (Tied G n w0 S0 U0 m a0 Q) a w) :
 ∀ (ic : IC) (Q : Exit → Sg → Prop) (a : Act) (w : World) (σ : Sg), chkC P G n c ic = true → dstsOK m c = true → Keep m a0 a → Rel G n w0 S0 U0 a w σ → awp P G ic Q σ → c.wp P (Tied G n w0 S0 U0 m a0 Q) a w := by
 intro ic
 induction ic with
 | gz r p x ihx =>
  intro Q a w σ hc hdo hkp hr hw
  have hc' : chkC P G n c x = true := by cases c <;> simpa [chkC] using hc
  simp only [awp] at hw
  split at hw
  · rename_i τ hf
    exact ihx Q a w τ hc' hdo hkp (hr.gzS hf) hw
  · exact hw.elim
 | _ => exact h _ rfl
theorem awp_sound {n : Nat} {w0 : World} {S0 U0 : Nat → Prop} (hG : GIn w0 S0 U0) (hm : P.follows .mixedOrders = true) {m : Nat} {a0 : Act} (c : Code) : ∀ (ic : IC) (Q : Exit → Sg → Prop) (a : Act) (w : World) (σ : Sg), chkC P G n c ic = true → dstsOK m c = true → Keep m a0 a → Rel G n w0 S0 U0 a w σ → awp P G ic Q σ → c.wp P (Tied G n w0 S0 U0 m a0 Q) a w := by
 induction c with
 | skip =>
  refine gz_lift ?_
  intro ic hg Q a w σ hc hdo hkp h hw
  cases ic with
  | skip => exact wp_skip ⟨⟨σ, h, hw⟩, .inr hkp⟩
  | bad => exact hw.elim
  | gz => cases hg
  | _ => simp [chkC] at hc
 | region id ops d =>
  refine gz_lift ?_
  intro ic hg Q a w σ hc hdo hkp h hw
  cases ic with
  | reg ios =>
   simp only [chkC, Bool.and_eq_true, Bool.or_eq_true, Bool.not_eq_true'] at hc
   obtain ⟨hc, hdr⟩ := hc
   cases d with
   | false =>
    refine wp_region_keep hdo hkp ?_
    have := aops_sound hG (P := P) (G := G) (ops := ops) (K := Q .normal) (TiedR G n w0 S0 U0 Q) (fun a w σ h hk => ⟨σ, h, hk⟩) ios 0 h (by simpa using hc) hw
    rw [List.range_eq_range']
    simpa using this
   | true =>
    refine wp_region_any_keep hdo hkp hm ?_
    replace hdr := hdr.resolve_left (by simp)
    exact draw_sound2 hG (P := P) (G := G) (K := Q .normal) (TiedR G n w0 S0 U0 Q) (fun a w σ h hk => ⟨σ, h, hk⟩) h.drew hc hdr hw
  | flo f as bs =>
   cases d with
   | false => simp [chkC] at hc
   | true =>
    simp only [chkC, Bool.and_eq_true, beq_iff_eq] at hc
    refine wp_region_any_keep hdo hkp hm ?_
    obtain ⟨q, q0, q1, q2, q3⟩ := floRun hw
    exact flo_sound hG (P := P) (G := G) (K := Q .normal) (TiedR G n w0 S0 U0 Q) (fun a w σ h hk => ⟨σ, h, hk⟩) h.drew hc.1 q q0 q1 q3 (fun m hm => q2 m (by omega))
  | flc r i1 i2 d1 ios =>
   cases d with
   | false => simp [chkC] at hc
   | true =>
    simp only [chkC] at hc
    refine wp_region_any_keep hdo hkp hm ?_
    exact flc_sound hG (P := P) (G := G) (K := Q .normal) (TiedR G n w0 S0 U0 Q) (fun a w σ h hk => ⟨σ, h, hk⟩) h.drew hc hw
  | rex xs =>
   cases d with
   | true => simp [chkC] at hc
   | false =>
    simp only [chkC] at hc
    refine wp_region_keep hdo hkp ?_
    have := axs_sound hG (P := P) (G := G) (ops := ops) (K := Q .normal) (TiedR G n w0 S0 U0 Q) (fun a w σ h hk => ⟨σ, h, hk⟩) xs 0 h (by simpa using hc) hw
    rw [List.range_eq_range']
    simpa using this
  | bad => exact hw.elim
  | gz => cases hg
  | _ => simp [chkC] at hc
 | seq x y ihx ihy =>
  refine gz_lift ?_
  intro ic hg Q a w σ hc hdo hkp h hw
  cases ic with
  | seq x' y' =>
   simp only [chkC, Bool.and_eq_true] at hc
   simp only [dstsOK, Bool.and_eq_true] at hdo
   refine wp_seq (wp_mono (ihx x' _ a w σ hc.1 hdo.1 hkp h hw) ?_)
   rintro e a' w' ⟨⟨σ', h', hq⟩, hk'⟩
   cases e with
   | normal => exact ihy y' Q a' w' σ' hc.2 hdo.2 (hk'.resolve_left (by simp)) h' hq
   | _ => exact ⟨⟨σ', h', hq⟩, hk'⟩
  | bad => exact hw.elim
  | gz => cases hg
  | _ => simp [chkC] at hc
 | cond c x y ihx ihy =>
  refine gz_lift ?_
  intro ic hg Q a w σ hc hdo hkp h hw
  cases ic with
  | cond c' x' y' =>
   simp only [chkC, Bool.and_eq_true] at hc
   obtain ⟨⟨h1, h2⟩, h3⟩ := hc
   simp only [dstsOK, Bool.and_eq_true] at hdo
   rw [awp_cond] at hw
   split at hw
   · rename_i b hb
     have hev : a.eval c = .bool b := by
      obtain ⟨S, δ, Fr, hn, hdef, ha, rfl, hst, _⟩ := h
      obtain ⟨hy, he⟩ := chkA_sound h1 ha
      rw [he]
      exact (hst.argSc hy hb).1
     split at hw
     · rename_i hbt
       subst hbt
       exact wp_cond_true hev (ihx x' Q a w σ h2 hdo.1 hkp h hw)
     · rename_i hbf
       obtain rfl : b = false := by simpa using hbf
       exact wp_cond_false hev (ihy y' Q a w σ h3 hdo.2 hkp h hw)
   · exact hw.elim
  | bad => exact hw.elim
  | gz => cases hg
  | _ => simp [chkC] at hc
 | block id x ihx =>
  refine gz_lift ?_
  intro ic hg Q a w σ hc hdo hkp h hw
  cases ic with
  | block id' x' =>
   simp only [chkC, Bool.and_eq_true, beq_iff_eq] at hc
   obtain ⟨rfl, h2⟩ := hc
   simp only [dstsOK] at hdo
   refine wp_block (wp_mono (ihx x' _ a w σ h2 hdo hkp h hw) ?_)
   rintro e a' w' ⟨⟨σ', h', hq⟩, hk'⟩
   cases e with
   | exit i =>
    simp only [Exit.inBlock]
    rw [blockA_exit] at hq
    have hk2 := hk'.resolve_left (by simp)
    split
    · rename_i hi; rw [if_pos hi] at hq; exact ⟨⟨σ', h', hq⟩, .inr hk2⟩
    · rename_i hi; rw [if_neg hi] at hq; exact ⟨⟨σ', h', hq⟩, .inr hk2⟩
   | _ => exact ⟨⟨σ', h', hq⟩, hk'⟩
  | bad => exact hw.elim
  | gz => cases hg
  | _ => simp [chkC] at hc
 | loop x ihx =>
  refine gz_lift ?_
  intro ic hg Q a w σ hc hdo hkp h hw
  cases ic with
  | loop x' =>
   simp only [chkC] at hc
   obtain ⟨I, ⟨n0, h0⟩, hround⟩ := hw
   simp only [dstsOK] at hdo
   refine wp_loop_ghost (fun k a w => (∃ σ, Rel G n w0 S0 U0 a w σ ∧ I k σ) ∧ Keep m a0 a) n0 ⟨⟨σ, h, h0⟩, hkp⟩ ?_
   rintro k a' w' ⟨⟨τ, h', hI⟩, hk'⟩
   refine wp_mono (ihx x' _ a' w' τ hc hdo hk' h' (hround k τ hI)) ?_
   rintro e a2 w2 ⟨⟨σ2, h2, hq⟩, hk2⟩
   cases e with
   | normal =>
    obtain ⟨k', hk, hI'⟩ := hq
    exact ⟨k', hk, ⟨σ2, h2, hI'⟩, hk2.resolve_left (by simp)⟩
   | _ => exact ⟨⟨σ2, h2, hq⟩, hk2⟩
  | bad => exact hw.elim
  | gz => cases hg
  | _ => simp [chkC] at hc
 | exit id =>
  refine gz_lift ?_
  intro ic hg Q a w σ hc hdo hkp h hw
  cases ic with
  | exit id' =>
   simp only [chkC, beq_iff_eq] at hc
   subst hc
   exact wp_exit ⟨⟨σ, h, hw⟩, .inr hkp⟩
  | bad => exact hw.elim
  | gz => cases hg
  | _ => simp [chkC] at hc
 | ret =>
  refine gz_lift ?_
  intro ic hg Q a w σ hc hdo hkp h hw
  cases ic with
  | ret => exact wp_ret ⟨⟨σ, h, hw⟩, .inr hkp⟩
  | bad => exact hw.elim
  | gz => cases hg
  | _ => simp [chkC] at hc
 | rangeFunc => refine gz_lift ?_; intro ic hg Q a w σ hc hdo hkp h hw; cases ic with | bad => exact hw.elim | gz => cases hg | _ => simp [chkC] at hc
 | scope => refine gz_lift ?_; intro ic hg Q a w σ hc hdo hkp h hw; cases ic with | bad => exact hw.elim | gz => cases hg | _ => simp [chkC] at hc
 | label => refine gz_lift ?_; intro ic hg Q a w σ hc hdo hkp h hw; cases ic with | skip => exact wp_label ⟨⟨σ, h, hw⟩, .inr hkp⟩ | bad => exact hw.elim | gz => cases hg | _ => simp [chkC] at hc
 | goto => refine gz_lift ?_; intro ic hg Q a w σ hc hdo hkp h hw; cases ic with | bad => exact hw.elim | gz => cases hg | _ => simp [chkC] at hc
 | refuse => refine gz_lift ?_; intro ic hg Q a w σ hc hdo hkp h hw; cases ic with | bad => exact hw.elim | gz => cases hg | _ => simp [chkC] at hc
end Go.Abs
namespace Go.Abs
variable {w w' : World} {S S' : Nat → Prop} {G : Gi} {δ : Nat → DV} {Fr : Nat → Nat → Prop} {P : Program}
def chkRV (P : Program) : ResultVar → RV → Bool
 | .tmp t, .tmp t' => t == t'
 | .cell a t, .cell a' agg n => a == a' && szOf P t == some n && isAggT P t == some agg && (agg || n == 1)
 | _, _ => false
def chkRes (P : Program) : List ResultVar → List RV → Bool
 | [], [] => true
 | r :: rs, v :: vs => chkRV P r v && chkRes P rs vs
 | _, _ => false
def resOne (tmps : Array Value) : ResultVar → Sem Value
 | .tmp t => pure (tmps.getD t undef)
 | .cell a t => do loadVar t (← asAddr (tmps.getD a undef))
theorem run_mapM_cons {α β : Type} (f : α → Sem β) (x : α) (l : List α) {v : β} {vs : List β} (h1 : (f x).run P w = .ok v w) (h2 : (l.mapM f).run P w = .ok vs w) : ((x :: l).mapM f).run P w = .ok (v :: vs) w := by
 rw [List.mapM_cons]
 simp [h1, h2]
theorem takeRes_sound {tmps : Array Value} (rvs : List ResultVar) : ∀ {rs : List RV} {δ : Nat → DV} {Fr : Nat → Nat → Prop} {vs : List AV} {τ : Sg}, St G w S δ Fr → (∀ s, tmps.getD s undef = (δ s).ann) → chkRes P rvs rs = true →
 takeRes G rs (fun s => (δ s).er) = some (vs, τ) → ∃ (Ds : List DV) (FD : Nat → Prop), Ds.map DV.er = vs ∧ (rvs.mapM (resOne tmps)).run P w = .ok (Ds.map DV.ann) w ∧ OkL w S Ds FD ∧ (∀ x, FD x → Owned Fr x) ∧
  ∃ (δ' : Nat → DV) (F' : Nat → Nat → Prop), St G w S δ' F' ∧ (fun s => (δ' s).er) = τ ∧ (∀ s, (δ' s).ann = (δ s).ann) ∧ (∀ s x, F' s x → ¬ FD x) ∧ (∀ x, Owned F' x → Owned Fr x) := by
 induction rvs with
 | nil =>
  intro rs δ Fr vs τ h ha hc ht
  cases rs with
  | nil => simp only [takeRes, Option.some.injEq, Prod.mk.injEq] at ht; obtain ⟨rfl, rfl⟩ := ht; exact ⟨[], fun _ => False, rfl, by simp, fun _ h => h, fun _ h => h.elim, δ, Fr, h, rfl, fun _ => rfl, fun _ _ _ h => h, fun _ h => h⟩
  | cons => simp [chkRes] at hc
 | cons rv rvs ih =>
  intro rs δ Fr vs τ h ha hc ht
  cases rs with
  | nil => simp [chkRes] at hc
  | cons r rs =>
   simp only [chkRes, Bool.and_eq_true] at hc
   obtain ⟨hc1, hc2⟩ := hc
   cases r with
   | tmp t =>
    cases rv with
    | cell => simp [chkRV] at hc1
    | tmp t' =>
     simp only [chkRV, beq_iff_eq] at hc1
     subst hc1
     simp only [takeRes] at ht
     split at ht
     · rename_i v τ1 htk
       split at ht
       · rename_i vs' τ' hrec
         simp only [Option.some.injEq, Prod.mk.injEq] at ht
         obtain ⟨rfl, rfl⟩ := ht
         obtain ⟨δ', F', D, Ff, hfly, her, hDe, hDa⟩ := h.tk (x := .t t') trivial htk
         subst her
         obtain ⟨Ds, FD, g1, g2, g3, g4, δ2, F2, k1, k2, k3, k4, k5⟩ := ih hfly.st (fun s => (ha s).trans (hfly.ann s).symm) hc2 hrec
         refine ⟨D :: Ds, fun x => Ff x ∨ FD x, by simp [hDe, g1], ?_, ⟨Ff, FD, hfly.ok, g3, ?_, fun x => Iff.rfl⟩, ?_, δ2, F2, k1, k2, fun s => (k3 s).trans (hfly.ann s), ?_, fun x hx => hfly.own x (.inl (k5 x hx))⟩
         · refine run_mapM_cons _ _ _ ?_ g2
           simp [resOne, ha, hDa, argv]
         · intro x hx hy
           obtain ⟨s, hs⟩ := g4 x hy
           exact hfly.dis s x hs hx
         · rintro x (hx | hx)
           · exact hfly.own x (.inr hx)
           · exact hfly.own x (.inl (g4 x hx))
         · rintro s x hx (hy | hy)
           · obtain ⟨s', hs'⟩ := k5 x ⟨s, hx⟩; exact hfly.dis s' x hs' hy
           · exact k4 s x hx hy
       · cases ht
     · cases ht
   | cell a agg n =>
    cases rv with
    | tmp => simp [chkRV] at hc1
    | cell a' t =>
     simp only [chkRV, Bool.and_eq_true, beq_iff_eq, Bool.or_eq_true] at hc1
     obtain ⟨⟨⟨rfl, hn⟩, hg⟩, hg1⟩ := hc1
     simp only [takeRes] at ht
     split at ht
     · rename_i k row hs
       split at ht
       · rename_i v hv
         split at ht
         · rename_i vs' τ' hrec
           simp only [Option.some.injEq, Prod.mk.injEq] at ht
           obtain ⟨rfl, rfl⟩ := ht
           obtain ⟨rowsD, hd, hrow⟩ := h.nodeS hs
           have hok := h.ok a'
           rw [hd] at hok
           match rowsD, hrow with
           | [rowD], hrow =>
            simp only [List.map_cons, List.map_nil, List.cons.injEq, and_true] at hrow
            generalize hva : (δ a').ann = va at *
            cases hok with
            | own _ _ _ b c arr E Fs _ hb hk hcap hSb hvv hr hdd hval hbF hF =>
             have hkr : rowD.length = k := hk rowD (by simp)
             simp only [if_true] at hcap
             have hokL : OkL w S rowD (fun x => ∃ j, Fs 0 j x) := by
              refine OkL_iff.2 ⟨fun j => Fs 0 j, fun j d hj => hr 0 j rowD d rfl hj, fun i i' x hx hy => (hdd 0 i 0 i' x hx hy).2, fun j x hx => ?_, fun x => Iff.rfl⟩
              obtain ⟨row', d, h1, h2⟩ := hval 0 j x hx
              simp only [List.getElem?_cons_zero, Option.some.injEq] at h1
              exact ⟨d, h1 ▸ h2⟩
             have hlen : rowD.length = n := by
              have : row.length = n := by
               unfold asCells at hv
               split at hv
               · assumption
               · cases hv
              rw [← this, ← hrow]; simp
             have hst := h.set (w' := w) (S' := S) a' (.lf .dead (hdr true b 1 c)) (fun _ => False) (fun _ _ => rfl) (fun _ _ _ _ => rfl) (fun _ h => h) (fun s _ x hx => (h.ok s).notS x hx) (.lf _ _ _ trivial (fun _ h => h)) (fun _ _ _ h => h.elim) (by simp) (.lf _ _ trivial)
             have her : (fun s => (upd (killδ G a' δ) a' (.lf .dead (hdr true b 1 c)) s).er) = upd (killS G a' fun s => (δ s).er) a' .dead := by
              funext s
              simp only [upd]
              split
              · simp
              · exact h.killδ_er a' s
             rw [← her] at hrec
             have hann : ∀ s, tmps.getD s undef = (upd (killδ G a' δ) a' (.lf .dead (hdr true b 1 c)) s).ann := by
              intro s
              simp only [upd]
              split
              · rename_i e; subst e; rw [ha, hva]; simp
              · rw [ha, h.killδ_ann a' s]
             obtain ⟨Ds, FD, g1, g2, g3, g4, δ2, F2, q1, q2, q3, q4, q5⟩ := ih hst hann hc2 hrec
             have q3' : ∀ s, (δ2 s).ann = (δ s).ann := fun s => by rw [q3 s, ← hann s, ha]
             have q5' : ∀ x, Owned F2 x → Owned Fr x ∧ ¬ ∃ j, Fs 0 j x := by
              intro x hx
              obtain ⟨s, hs⟩ := q5 x hx
              simp only [upd] at hs
              split at hs
              · exact hs.elim
              · rename_i hne
                exact ⟨⟨s, hs⟩, fun ⟨j, hj⟩ => hne (h.dis s a' x hs ((hF x).2 (.inr ⟨0, j, hj⟩)))⟩
             have hload : (loadVar t ⟨b, 0, none⟩).run P w = .ok (if agg = true then .agg (rowD.map DV.ann).toArray else (rowD.map DV.ann).headD undef) w := by
              refine run_loadVar hn hg hg1 (by simp [hlen]) ?_
              intro j v hj
              simp only [List.getElem?_map] at hj
              cases hjd : rowD[j]? with
              | none => simp [hjd] at hj
              | some d =>
               simp only [hjd, Option.map_some, Option.some.injEq] at hj
               subst hj
               have := hvv 0 j rowD d rfl hjd
               simp only [World.cell?, hb]
               simpa using this
             have hone : (resOne tmps (.cell a' t)).run P w = .ok (if agg = true then .agg (rowD.map DV.ann).toArray else (rowD.map DV.ann).headD undef) w := by
              simp only [resOne, ha, hva, hdr, if_true]
              simpa [asAddr] using hload
             have hout : ∀ x, (∃ j, Fs 0 j x) → Owned Fr x := fun x ⟨j, hx⟩ => ⟨a', (hF x).2 (.inr ⟨0, j, hx⟩)⟩
             have hdis : ∀ x, (∃ j, Fs 0 j x) → ¬ FD x := by
              intro x ⟨j, hx⟩ hy
              obtain ⟨s, hs⟩ := g4 x hy
              simp only [upd] at hs
              split at hs
              · exact hs
              · rename_i hne
                exact hne (h.dis s a' x hs ((hF x).2 (.inr ⟨0, j, hx⟩)))
             have hFDo : ∀ x, FD x → Owned Fr x := by
              intro x hx
              obtain ⟨s, hs⟩ := g4 x hx
              simp only [upd] at hs
              split at hs
              · exact hs.elim
              · exact ⟨s, hs⟩
             unfold asCells at hv
             split at hv
             · cases agg with
               | true =>
                simp only [if_true, Option.some.injEq] at hv hone
                subst hv
                refine ⟨.agg rowD :: Ds, fun x => (∃ j, Fs 0 j x) ∨ FD x, by simp [hrow, g1], ?_, ⟨_, FD, Ok_agg_iff.2 hokL, g3, hdis, fun x => Iff.rfl⟩, ?_, δ2, F2, q1, q2, q3', ?_, fun x hx => (q5' x hx).1⟩
                · have := run_mapM_cons _ _ _ hone g2
                  simpa using this
                · rintro x (hx | hx)
                  · exact hout x hx
                  · exact hFDo x hx
                · rintro s x hx (hy | hy)
                  · exact (q5' x ⟨s, hx⟩).2 hy
                  · exact q4 s x hx hy
               | false =>
                simp only [Bool.false_eq_true, if_false] at hv hone
                split at hv
                · rename_i c0 hn1
                  simp only [Option.some.injEq] at hv
                  subst hv
                  match rowD, hrow with
                  | [D0], hrow =>
                   simp only [List.map_cons, List.map_nil, List.cons.injEq, and_true] at hrow
                   obtain ⟨F1, F2q, k1, k2, k3, k4⟩ := hokL
                   refine ⟨D0 :: Ds, fun x => F1 x ∨ FD x, by simp [hrow, g1], ?_, ⟨_, FD, k1, g3, fun x hx => hdis x ((k4 x).2 (.inl hx)), fun x => Iff.rfl⟩, ?_, δ2, F2, q1, q2, q3', ?_, fun x hx => (q5' x hx).1⟩
                   · have := run_mapM_cons _ _ _ hone g2
                     simpa using this
                   · rintro x (hx | hx)
                     · exact hout x ((k4 x).2 (.inl hx))
                     · exact hFDo x hx
                   · rintro s x hx (hy | hy)
                     · exact (q5' x ⟨s, hx⟩).2 ((k4 x).2 (.inl hy))
                     · exact q4 s x hx hy
                · cases hv
             · cases hv
         · cases ht
       · cases ht
     · cases ht
def argL : AV → Bool
 | .sc _ | .sl .. | .dead | .fp _ | .own .. | .fcl .. => true
 | _ => false
def argOK : AV → Bool
 | .agg cs => cs.all argL
 | .tup cs => cs.all argL
 | a => argL a
theorem argL_rin {L : List Nat} {a : AV} (h : argL a = true) : rin L a = true := by cases a <;> simp_all [argL, rin]
theorem argOK_rin {L : List Nat} {a : AV} (h : argOK a = true) : rin L a = true := by
 cases a with
 | agg cs => simp only [argOK, List.all_eq_true] at h; rw [rin, rinL_eq, List.all_eq_true]; exact fun x hx => argL_rin (h x hx)
 | tup cs => simp only [argOK, List.all_eq_true] at h; rw [rin, rinL_eq, List.all_eq_true]; exact fun x hx => argL_rin (h x hx)
 | _ => exact argL_rin h
theorem argL_al {d : DV} (hl : Lfy d) (h : argL d.er = true) : AlOK δ d := by
 cases hl with
 | lf a v hl => refine .lf _ _ ?_; simp only [er_lf] at h; cases a <;> simp_all [argL, AlLeaf]
 | own => exact .own _ _ _ _
 | agg => simp [argL] at h
 | tup => simp [argL] at h
theorem argOK_al {d : DV} (hl : Lfy d) (h : argOK d.er = true) : AlOK δ d := by
 cases hl with
 | lf a v hl => exact argL_al (.lf a v hl) (by simp only [er_lf] at h ⊢; cases a <;> simp_all [argOK, leafy])
 | own => exact .own _ _ _ _
 | agg cs hr => simp only [er_agg, argOK, List.all_map, List.all_eq_true, Function.comp] at h; exact .agg _ fun i d hd => argL_al (hr i d hd) (h d (List.mem_of_getElem? hd))
 | tup cs hr => simp only [er_tup, argOK, List.all_map, List.all_eq_true, Function.comp] at h; exact .tup _ fun i d hd => argL_al (hr i d hd) (h d (List.mem_of_getElem? hd))
structure FI where
 c : IC
 g : Gi
 r : List RV
def chkF (P : Program) (fn : Func) (I : FI) : Bool :=
 (match fn.body with
 | some c => chkC P I.g fn.ntmps c I.c
 | none => false) && chkRes P fn.results.toList I.r && I.g.rt.all (fun x => !x.2.contains x.1)
theorem self_of {G : Gi} (h : G.rt.all (fun x => !x.2.contains x.1) = true) (s : Nat) : s ∉ G.rtOf s := by
 unfold Gi.rtOf
 split
 · rename_i x hx
   have hm := List.mem_of_find?_eq_some hx
   have hp := List.find?_some hx
   simp only [List.all_eq_true] at h
   have := h _ hm
   simp only [beq_iff_eq] at hp
   rw [← hp]
   simpa using this
 · simp
theorem getD_ext (ds : List DV) (n s : Nat) : ((ds.map DV.ann).toArray ++ Array.replicate (n - (ds.map DV.ann).toArray.size) undef).getD s undef = (ds.getD s (.lf .un undef)).ann := by
 simp only [Array.getD_eq_getD_getElem?, Array.getElem?_append, List.getD_eq_getElem?_getD]
 simp only [List.size_toArray, List.length_map]
 split
 · rename_i h; simp [h]
 · rename_i h
   simp only [Array.getElem?_replicate]
   rw [List.getElem?_eq_none (by omega)]
   split <;> simp
def one' : List DV → DV
 | [d] => d
 | ds => .tup ds
theorem one'_er (ds : List DV) : (one' ds).er = one (ds.map DV.er) := by
 match ds with
 | [] => simp [one', one]
 | [d] => simp [one', one]
 | _ :: _ :: _ => simp [one', one]
theorem one'_ok {ds : List DV} {F : Nat → Prop} (h : OkL w S ds F) : Ok w S (one' ds) F := by
 match ds with
 | [] => exact Ok_tup_iff.2 h
 | [d] =>
  obtain ⟨F1, F2, h1, h2, h3, h4⟩ := h
  have : F = F1 := funext fun x => propext ⟨fun hx => ((h4 x).1 hx).elim id fun hf => absurd hf (h2 x), fun hx => (h4 x).2 (.inl hx)⟩
  exact this ▸ h1
 | _ :: _ :: _ => exact Ok_tup_iff.2 h
def oneV : List Value → Value
 | [v] => v
 | vs => .tuple vs.toArray
theorem run_results {fn : Func} {tmps : Array Value} {vs : List Value} (h : (fn.results.toList.mapM (resOne tmps)).run P w = .ok vs w) :
 (results fn tmps).run P w = .ok (oneV vs) w := by
 have e : results fn tmps = (do
  let vs ← fn.results.mapM (resOne tmps)
  pure (if h : vs.size = 1 then vs[0] else .tuple vs)) := by
  unfold results
  congr 1
 rw [e, Array.mapM_eq_mapM_toList, map_eq_pure_bind, bind_assoc]
 have h1 : ∀ (m : Sem (List Value)) (k : List Value → Sem Value), m.run P w = .ok vs w → (m >>= k).run P w = (k vs).run P w := by
  intro m k hm
  simp [hm]
 rw [h1 _ _ h]
 match vs with
 | [] => simp [oneV]
 | [v] => simp [oneV]
 | _ :: _ :: _ => simp [oneV]
theorem calls_gen {f m : Nat} {fn : Func} {I : FI} {ds : List DV} {F : Nat → Prop} {Q : Exit → Sg → Prop} {R : Ending → World → Prop} (hm : P.follows .mixedOrders = true) (hf : P.funcs[f]? = some fn) (hc : chkF P fn I = true) (hn : ds.length ≤ fn.ntmps) (hargs : (ds.map DV.er).all argOK = true)
 (hdo : ∀ c, fn.body = some c → dstsOK m c = true) (hgi : GI w S) (hok : Ok w S (.tup ds) F) (hS : ∀ b, S b → b < w.heap.size) (h : awp P I.g I.c Q (start (ds.map DV.er)))
 (hend : ∀ ex w1 S1 δ1 F1 (tmps : Array Value), Q ex (fun s => (δ1 s).er) → St I.g w1 S1 δ1 F1 → Nx w S F w1 S1 (Owned F1) → (∀ b, S1 b → b < w1.heap.size) → (∀ s, tmps.getD s undef = (δ1 s).ann) → (ex = .outgrown ∨ ∀ i, i < m → tmps.getD i undef = (ds.getD i (.lf .un undef)).ann) →
  chkRes P fn.results.toList I.r = true → (ex = .normal ∨ ex = .ret) ∧ ∃ v, (results fn tmps).run P w1 = .ok v w1 ∧ R (.returned v) w1) : Calls P f (ds.map DV.ann).toArray w R := by
 simp only [chkF, Bool.and_eq_true] at hc
 obtain ⟨⟨hc1, hc2⟩, hc3⟩ := hc
 split at hc1
 · rename_i c hb
   obtain ⟨Fs, hr, hd, hval, hF⟩ : Parts w S ds F := by cases hok with | tup _ Fs _ hr hd hval hF => exact ⟨Fs, hr, hd, hval, hF⟩
   have harg : ∀ (i : Nat) d, ds[i]? = some d → argOK d.er = true := fun i d hi => by
    simp only [List.all_eq_true] at hargs
    exact hargs _ (List.mem_map_of_mem (List.mem_of_getElem? hi))
   refine calls_of_wp hf hb ?_
   let δ : Nat → DV := fun s => ds.getD s (.lf .un undef)
   have hδ : ∀ s, (∃ d, ds[s]? = some d ∧ δ s = d) ∨ (ds[s]? = none ∧ δ s = .lf .un undef) := by
    intro s
    cases hs : ds[s]? with
    | some d => exact .inl ⟨d, rfl, by simp [δ, hs]⟩
    | none => exact .inr ⟨rfl, by simp [δ, hs]⟩
   have hst : St I.g w S δ Fs := by
    refine ⟨fun s => ?_, fun s t x => hd s t x, fun s => ?_, fun s => ?_, self_of hc3⟩
    · rcases hδ s with ⟨d, hs, e⟩ | ⟨hs, e⟩
      · rw [e]; exact hr s d hs
      · rw [e]
        exact .lf _ _ _ rfl fun x hx => by obtain ⟨d, hd⟩ := hval s x hx; rw [hs] at hd; cases hd
    · rcases hδ s with ⟨d, hs, e⟩ | ⟨hs, e⟩
      · rw [e]; exact argOK_al (hr s d hs).lfy (harg s d hs)
      · rw [e]; exact .lf _ _ trivial
    · rcases hδ s with ⟨d, hs, e⟩ | ⟨hs, e⟩
      · rw [e]; exact argOK_rin (harg s d hs)
      · rw [e]; simp
   have hσ : (fun s => (δ s).er) = start (ds.map DV.er) := by
    funext s
    unfold start
    rcases hδ s with ⟨d, hs, e⟩ | ⟨hs, e⟩
    · simp [e, hs]
    · simp [e, hs]
   have hrel : Rel I.g fn.ntmps w S F { tmps := (ds.map DV.ann).toArray ++ Array.replicate (fn.ntmps - (ds.map DV.ann).toArray.size) undef, defers := [] } w (start (ds.map DV.er)) := by
    refine ⟨S, δ, Fs, by simp; omega, rfl, fun s => getD_ext ds fn.ntmps s, hσ, hst, Nx.less fun x ⟨s, hx⟩ => (hF x).2 ⟨s, hx⟩, hS⟩
   refine wp_mono (awp_sound ⟨hgi, fun b hb => ⟨fun hf => hok.notS b hf hb, hS b hb⟩⟩ hm (m := m) (a0 := { tmps := (ds.map DV.ann).toArray ++ Array.replicate (fn.ntmps - (ds.map DV.ann).toArray.size) undef, defers := [] }) c I.c _ _ w _ hc1 (hdo c hb) (Keep.refl _ _) hrel h) ?_
   rintro e a' w1 ⟨⟨σ, ⟨S1, δ1, F1, hn1, hdef, ha1, rfl, hst1, hnx, hlt⟩, hq⟩, hkeep⟩
   obtain ⟨hex, v, hv, hR⟩ := hend e w1 S1 δ1 F1 a'.tmps hq hst1 hnx hlt ha1 (hkeep.imp id fun hk i hi => (hk i hi).trans (getD_ext ds fn.ntmps i)) hc2
   rcases hex with rfl | rfl
   · exact ⟨hdef, v, hv, hR⟩
   · exact ⟨hdef, v, hv, hR⟩
 · cases hc1
theorem Ends_ex {rs : List RV} {res : AV} {e : Exit} {σ : Sg} (h : Ends G rs res e σ) : e = .normal ∨ e = .ret := by
 obtain ⟨h, _⟩ := h
 cases e <;> simp_all
theorem run_one {fn : Func} {tmps : Array Value} {Ds : List DV} (h : (fn.results.toList.mapM (resOne tmps)).run P w = .ok (Ds.map DV.ann) w) : (results fn tmps).run P w = .ok (one' Ds).ann w := by
 rw [run_results h]
 match Ds with
 | [] => simp [one', oneV]
 | [d] => simp [one', oneV]
 | _ :: _ :: _ => simp [one', oneV]
theorem says_of {f : Nat} {fn : Func} {I : FI} {args : List AV} {res : AV} (hm : P.follows .mixedOrders = true) (hf : P.funcs[f]? = some fn) (hc : chkF P fn I = true) (hn : args.length ≤ fn.ntmps) (hargs : args.all argOK = true)
 (h : awp P I.g I.c (Ends I.g I.r res) (start args)) : Says P f args res := by
 intro w S ds F hgi hds hok hS
 subst hds
 refine calls_gen (m := 0) hm hf hc (by simpa using hn) hargs (fun c _ => dstsOK_zero c) hgi hok hS h ?_
 rintro ex w1 S1 δ1 F1 tmps hq hst1 hnx hlt ha1 _ hc2
 refine ⟨Ends_ex hq, ?_⟩
 obtain ⟨_, vs, τ, htk, hone⟩ := hq
 obtain ⟨Ds, FD, g1, g2, g3, g4, _⟩ := takeRes_sound fn.results.toList hst1 ha1 hc2 htk
 have hO : OkL w1 S1 (ds.map fun d => DV.lf .dead d.ann) (fun _ => False) := by
  refine OkL_empty fun d hd => ?_
  obtain ⟨x, _, rfl⟩ := List.mem_map.1 hd
  exact .lf _ _ _ trivial (fun _ h => h)
 exact ⟨_, run_one g2, one' Ds, ds.map fun d => DV.lf .dead d.ann, S1, FD, rfl, by rw [one'_er, g1, hone], by simp, by simp, Ok_tup_iff.2 ⟨FD, fun _ => False, one'_ok g3, hO, fun _ _ h => h, fun x => by simp⟩, ⟨hnx.os, hnx.tape, hnx.output, hnx.size, hnx.block⟩, hnx.sub, hnx.sup, hlt, fun x hx => hnx.own x (g4 x hx)⟩
def outOK (σ : Sg) : Nat → List AV → Prop
 | _, [] => True
 | i, o :: os => (match o with | .dead => True | o => σ i = o) ∧ outOK σ (i + 1) os
def EndsO (G : Gi) (rs : List RV) (res : AV) (outs : List AV) (e : Exit) (σ : Sg) : Prop :=
 (match e with | .normal => True | .ret => True | _ => False) ∧ ∃ vs τ, takeRes G rs σ = some (vs, τ) ∧ one vs = res ∧ outOK τ 0 outs
def chkD (fn : Func) (m : Nat) : Bool := match fn.body with
 | some c => dstsOK m c
 | none => false
theorem outs_sound {δ' : Nat → DV} {F' : Nat → Nat → Prop} (hst : St G w S δ' F') (outs : List AV) : ∀ (i : Nat), outOK (fun s => (δ' s).er) i outs →
 ∃ os : List DV, os.map DV.er = outs ∧ os.map DV.ann = (List.range' i outs.length).map (fun s => (δ' s).ann) ∧ ∃ Fo, OkL w S os Fo ∧ (∀ x, Fo x → ∃ s, i ≤ s ∧ F' s x) := by
 induction outs with
 | nil => intro i _; exact ⟨[], rfl, rfl, fun _ => False, fun _ h => h, fun _ h => h.elim⟩
 | cons o outs ih =>
  intro i h
  obtain ⟨h1, h2⟩ := h
  obtain ⟨os, e1, e2, Fo, e3, e4⟩ := ih (i + 1) h2
  have key : ∃ (D : DV) (FD : Nat → Prop), D.er = o ∧ D.ann = (δ' i).ann ∧ Ok w S D FD ∧ ∀ x, FD x → F' i x := by
   by_cases hd : o = .dead
   · subst hd; exact ⟨.lf .dead (δ' i).ann, fun _ => False, by simp, by simp, .lf _ _ _ trivial (fun _ h => h), fun _ h => h.elim⟩
   · refine ⟨δ' i, F' i, ?_, rfl, hst.ok i, fun _ h => h⟩
     cases o <;> first | exact h1 | exact absurd rfl hd
  obtain ⟨D, FD, k1, k2, k3, k4⟩ := key
  refine ⟨D :: os, by simp [k1, e1], by simp [k2, e2, List.range'_succ], fun x => FD x ∨ Fo x, ⟨FD, Fo, k3, e3, ?_, fun x => Iff.rfl⟩, ?_⟩
  · intro x hx hy
    obtain ⟨s, hs, hs'⟩ := e4 x hy
    have := hst.dis i s x (k4 x hx) hs'
    omega
  · rintro x (hx | hx)
    · exact ⟨i, Nat.le_refl _, k4 x hx⟩
    · obtain ⟨s, hs, hs'⟩ := e4 x hx; exact ⟨s, by omega, hs'⟩
theorem says_out {f : Nat} {fn : Func} {I : FI} {args : List AV} {res : AV} {outs : List AV} (hm : P.follows .mixedOrders = true) (hf : P.funcs[f]? = some fn) (hc : chkF P fn I = true) (hD : chkD fn args.length = true) (hn : args.length ≤ fn.ntmps) (hargs : args.all argOK = true) (hlo : outs.length = args.length)
 (h : awp P I.g I.c (EndsO I.g I.r res outs) (start args)) : SoundAt P f args res outs := by
 intro w S ds F hgi hds hok hS
 subst hds
 refine calls_gen (m := ds.length) hm hf hc (by simpa using hn) hargs (fun c hb => by simp only [chkD, hb] at hD; simpa using hD) hgi hok hS h ?_
 rintro ex w1 S1 δ1 F1 tmps hq hst1 hnx hlt ha1 hkeep hc2
 have hex : ex = .normal ∨ ex = .ret := by obtain ⟨h, _⟩ := hq; cases ex <;> simp_all
 refine ⟨hex, ?_⟩
 obtain ⟨_, vs, τ, htk, hone, hout⟩ := hq
 have hkp := hkeep.resolve_left (by rcases hex with rfl | rfl <;> simp)
 obtain ⟨Ds, FD, g1, g2, g3, g4, δ2, F2, k1, k2, k3, k4, k5⟩ := takeRes_sound fn.results.toList hst1 ha1 hc2 htk
 rw [← k2] at hout
 obtain ⟨os, e1, e2, Fo, e3, e4⟩ := outs_sound k1 outs 0 hout
 have hann : os.map DV.ann = ds.map DV.ann := by
  rw [e2]
  have hl : outs.length = ds.length := by simpa using hlo
  rw [hl]
  apply List.ext_getElem?
  intro i
  simp only [List.getElem?_map]
  by_cases hi : i < ds.length
  · rw [List.getElem?_range' (by simpa using hi), List.getElem?_eq_getElem hi]
    simp only [Nat.zero_add, Nat.one_mul, Option.map_some, Option.some.injEq]
    rw [k3, ← ha1, hkp i hi]
    simp [hi]
  · rw [List.getElem?_eq_none (by simp; omega), List.getElem?_eq_none (by omega)]
    rfl
 refine ⟨_, run_one g2, one' Ds, os, S1, fun x => FD x ∨ Fo x, rfl, by rw [one'_er, g1, hone], e1, hann, Ok_tup_iff.2 ⟨FD, Fo, one'_ok g3, e3, ?_, fun x => Iff.rfl⟩, ⟨hnx.os, hnx.tape, hnx.output, hnx.size, hnx.block⟩, hnx.sub, hnx.sup, hlt, ?_⟩
 · intro x hx hy
   obtain ⟨s, _, hs⟩ := e4 x hy
   exact k4 s x hs hx
 · rintro x (hx | hx)
   · exact hnx.own x (g4 x hx)
   · obtain ⟨s, _, hs⟩ := e4 x hx; exact hnx.own x (k5 x ⟨s, hs⟩)
end Go.Abs
