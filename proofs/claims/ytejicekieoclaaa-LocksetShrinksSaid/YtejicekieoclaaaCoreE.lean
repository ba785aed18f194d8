/- Calls, and operations with guards. -/
import Derived.Test.YtejicekieoclaaaCoreD
namespace Go.Abs
variable {w w' : World} {S S' : Nat → Prop} {G : Gi} {δ : Nat → DV} {Fr : Nat → Nat → Prop} {P : Program}

def Rel (G : Gi) (n : Nat) (w0 : World) (S0 U0 : Nat → Prop) (a : Act) (w : World) (σ : Sg) : Prop :=
  ∃ (S : Nat → Prop) (δ : Nat → DV) (F : Nat → Nat → Prop), a.tmps.size = n ∧ a.defers = [] ∧ Rd δ a ∧ (fun s => (δ s).er) = σ ∧ St G w S δ F ∧ Nx w0 S0 U0 w S (Owned F) ∧ (∀ b, S b → b < w.heap.size)

theorem rdV_sound (h : St G w S δ Fr) {d : DV} {F : Nat → Prop} (hd : Ok w S d F) (hF : ∀ x, F x → Owned Fr x) (hal : AlOK δ d) {a : AV} (hr : rdV (fun s => (δ s).er) d.er = some a) :
    ∃ D, D.er = a ∧ D.ann = d.ann ∧ Ok w (fun x => S x ∨ Owned Fr x) D (fun _ => False) := by
  have leafcase : ∀ (b : AV) (v : Value), Fz w (fun x => S x ∨ Owned Fr x) b v → leafy b = true → (∀ cs, b ≠ .fp cs) → (b ≠ .un) → ∃ D : DV, D.er = b ∧ D.ann = v ∧ Ok w (fun x => S x ∨ Owned Fr x) D (fun _ => False) := by
    intro b v hf hl hfp hun
    refine ⟨.lf b v, by simp, by simp, .lf _ _ _ ?_ (fun _ h => h)⟩
    cases b with
    | sc u => cases hf with | sc _ hp => exact ⟨rfl, hp⟩
    | sl => exact hf
    | dead => trivial
    | al => trivial
    | adr => trivial
    | fp cs => exact absurd rfl (hfp cs)
    | un => exact absurd rfl hun
    | own => simp [leafy] at hl
    | agg => simp [leafy] at hl
    | tup => simp [leafy] at hl
  cases hd with
  | lf b v _ ha hFF =>
    simp only [er_lf] at hr
    cases b with
    | sc u => simp only [rdV, Option.some.injEq] at hr; subst hr; obtain ⟨rfl, hp⟩ := ha; exact leafcase _ _ (.sc _ hp) rfl (by simp) (by simp)
    | sl e k rows =>
      simp only [rdV, Option.some.injEq] at hr
      subst hr
      have hf : Fz w (fun x => S x ∨ Owned Fr x) (.sl false k rows) v := by
        have hf' : Fz w (fun x => S x ∨ Owned Fr x) (.sl e k rows) v := Fz.mono ha (fun _ _ => rfl) (fun _ h => .inl h)
        cases hf' with
        | nil x k a c hx => exact .nil _ _ _ _ (by simp)
        | sl x k rows b off c vs hx hlc hS hk hc hr => exact .sl _ _ _ b off c vs (by simp) hlc hS hk hc hr
      exact leafcase _ _ hf rfl (by simp) (by simp)
    | al r p =>
      simp only [rdV] at hr
      split at hr
      · rename_i k rows hn
        simp only [Option.some.injEq] at hr
        cases hal with
        | lf _ _ hl =>
          obtain ⟨bx, k', rows', hl⟩ := hl
          obtain ⟨D, hD, hDe⟩ := subD_of_sub (h.ok r).lfy hn
          rw [hl] at hD
          obtain rfl := Option.some.inj hD
          obtain ⟨F', hok, hsub⟩ := (h.ok r).subD hl
          have hfz := hok.freeze
          rw [hDe, hr] at hfz
          subst hr
          simp only [frz_vec] at hfz ⊢
          exact leafcase _ _ (hfz.mono (fun _ _ => rfl) (fun x hx => hx.imp id (fun hf => ⟨r, hsub x hf⟩))) rfl (by simp) (by simp)
      · cases hr
    | own => exact ha.elim
    | _ => simp [rdV] at hr
  | nil k _ hFF =>
    simp only [er_own, List.map_nil, rdV, Option.some.injEq] at hr
    subst hr
    simp only [frz_vec, List.map_nil]
    exact leafcase _ _ (.nil false k none 0 (by simp)) rfl (by simp) (by simp)
  | own bx k rows b c arr E Fs _ hb hk hcap hSb hv hr' hdd hval hbF hFF =>
    have hok := Ok.own bx k rows b c arr E Fs F hb hk hcap hSb hv hr' hdd hval hbF hFF
    have hfz := hok.freeze
    cases bx with
    | true => simp [rdV] at hr
    | false =>
      simp only [er_own, rdV, Option.some.injEq] at hr
      rw [er_own, hr] at hfz
      subst hr
      simp only [frz_vec] at hfz ⊢
      exact leafcase _ _ (hfz.mono (fun _ _ => rfl) (fun x hx => hx.imp id (hF x))) rfl (by simp) (by simp)
  | agg => simp [rdV] at hr
  | tup => simp [rdV] at hr

theorem rdL_sound (h : St G w S δ Fr) (ds : List DV) : ∀ {l : List AV}, (∀ d ∈ ds, ∃ F, Ok w S d F ∧ ∀ x, F x → Owned Fr x) → (∀ d ∈ ds, AlOK δ d) → rdL (fun s => (δ s).er) (ds.map DV.er) = some l →
    ∃ Ds : List DV, Ds.map DV.er = l ∧ Ds.map DV.ann = ds.map DV.ann ∧ ∀ D ∈ Ds, Ok w (fun x => S x ∨ Owned Fr x) D (fun _ => False) := by
  induction ds with
  | nil => intro l _ _ hr; simp only [List.map_nil, rdL, Option.some.injEq] at hr; subst hr; exact ⟨[], rfl, rfl, by simp⟩
  | cons d ds ih =>
    intro l hok hal hr
    simp only [List.map_cons, rdL] at hr
    split at hr
    · rename_i x l' h1 h2
      simp only [Option.some.injEq] at hr
      subst hr
      obtain ⟨F, g1, g2⟩ := hok d (by simp)
      obtain ⟨D, k1, k2, k3⟩ := rdV_sound h g1 g2 (hal d (by simp)) h1
      obtain ⟨Ds, m1, m2, m3⟩ := ih (fun e he => hok e (by simp [he])) (fun e he => hal e (by simp [he])) h2
      refine ⟨D :: Ds, by simp [k1, m1], by simp [k2, m2], ?_⟩
      intro e he
      simp only [List.mem_cons] at he
      rcases he with rfl | he
      · exact k3
      · exact m3 e he
    · cases hr

theorem rdA_sound (h : St G w S δ Fr) {d : DV} {F : Nat → Prop} (hd : Ok w S d F) (hF : ∀ x, F x → Owned Fr x) (hal : AlOK δ d) {a : AV} (hr : rdA (fun s => (δ s).er) d.er = some a) :
    ∃ D, D.er = a ∧ D.ann = d.ann ∧ Ok w (fun x => S x ∨ Owned Fr x) D (fun _ => False) := by
  cases hde : d.er with
  | agg cs =>
    obtain ⟨ds, rfl⟩ : ∃ ds, d = .agg ds := by
      have := hd.lfy
      cases d with
      | agg ds => exact ⟨ds, rfl⟩
      | lf c v => cases this with | lf _ _ hl => simp at hde; subst hde; simp [leafy] at hl
      | own => simp at hde
      | tup => simp at hde
    simp only [er_agg, rdA] at hr
    split at hr
    · rename_i l hl
      simp only [Option.some.injEq] at hr
      subst hr
      cases hd with
      | agg _ Fs _ h1 h2 h3 h4 =>
        cases hal with
        | agg _ hal =>
          obtain ⟨Ds, m1, m2, m3⟩ := rdL_sound h ds (fun e he => by obtain ⟨i, hi⟩ := List.getElem?_of_mem he; exact ⟨Fs i, h1 i e hi, fun x hx => hF x ((h4 x).2 ⟨i, hx⟩)⟩) (fun e he => by obtain ⟨i, hi⟩ := List.getElem?_of_mem he; exact hal i e hi) hl
          exact ⟨.agg Ds, by simp [m1], by simp [m2], Ok_agg_iff.2 (OkL_empty m3)⟩
    · cases hr
  | al r p => rw [hde] at hr; simp only [rdA] at hr; rw [← hde] at hr; exact rdV_sound h hd hF hal hr
  | own b k rows => rw [hde] at hr; simp only [rdA] at hr; rw [← hde] at hr; exact rdV_sound h hd hF hal hr
  | sc v => rw [hde] at hr; simp only [rdA] at hr; rw [← hde] at hr; exact rdV_sound h hd hF hal hr
  | sl e k rows => rw [hde] at hr; simp only [rdA] at hr; rw [← hde] at hr; exact rdV_sound h hd hF hal hr
  | _ => simp [hde, rdA] at hr

theorem rdArgs_sound (h : St G w S δ Fr) {a : Act} (ha : Rd δ a) (ys : List Ar) : ∀ {xs : List Operand} {as : List AV}, chkL xs ys = true → rdArgs (fun s => (δ s).er) ys = some as →
    ∃ Ds : List DV, Ds.map DV.er = as ∧ Ds.map DV.ann = xs.map a.eval ∧ ∀ D ∈ Ds, Ok w (fun x => S x ∨ Owned Fr x) D (fun _ => False) := by
  induction ys with
  | nil =>
    intro xs as hc hr
    cases xs with
    | cons => simp [chkL] at hc
    | nil => simp only [rdArgs, Option.some.injEq] at hr; subst hr; exact ⟨[], rfl, rfl, by simp⟩
  | cons y ys ih =>
    intro xs as hc hr
    cases xs with
    | nil => simp [chkL] at hc
    | cons x xs =>
      simp only [chkL, Bool.and_eq_true] at hc
      obtain ⟨hy, hev⟩ := chkA_sound hc.1 ha
      simp only [rdArgs] at hr
      split at hr
      · rename_i b l h1 h2
        simp only [Option.some.injEq] at hr
        subst hr
        obtain ⟨D, k1, k2, k3⟩ : ∃ D, D.er = b ∧ D.ann = argv δ y ∧ Ok w (fun x => S x ∨ Owned Fr x) D (fun _ => False) := by
          cases y with
          | t s => exact rdA_sound h (h.ok s) (fun x hx => ⟨s, hx⟩) (h.al s) h1
          | c c =>
            obtain ⟨D0, hD0⟩ := hy
            obtain ⟨e1, e2, e3, _⟩ := cst_facts (w := w) (S := S) (δ := δ) c D0 hD0
            simp only [ar] at h1
            rw [← e1] at h1
            obtain ⟨D, k1, k2, k3⟩ := rdA_sound h e2 (fun _ h => h.elim) e3 h1
            exact ⟨D, k1, by rw [k2]; simp [argv, hD0], k3⟩
        obtain ⟨Ds, m1, m2, m3⟩ := ih hc.2 h2
        refine ⟨D :: Ds, by simp [k1, m1], by simp [k2, m2, hev], ?_⟩
        intro e he
        simp only [List.mem_cons] at he
        rcases he with rfl | he
        · exact k3
        · exact m3 e he
      · cases hr

theorem frozenTree {d : DV} {F : Nat → Prop} (h : Ok w S d F) : ∃ D, D.er = frz d.er ∧ D.ann = d.ann ∧ Ok w (fun x => S x ∨ F x) D (fun _ => False) ∧ AlOK δ D := by
  induction h with
  | lf a v F ha hF =>
    have hl := ha.leafy
    cases a with
    | sc u => exact ⟨.lf (.sc u) v, by simp, by simp, .lf _ _ _ ha (fun _ h => h), .lf _ _ trivial⟩
    | sl e k rows => exact ⟨.lf (.sl e k rows) v, by simp, by simp, .lf _ _ _ (Fz.mono ha (fun _ _ => rfl) (fun _ h => .inl h)) (fun _ h => h), .lf _ _ trivial⟩
    | own => exact ha.elim
    | agg => exact ha.elim
    | tup => exact ha.elim
    | _ => exact ⟨.lf .dead v, by simp [frz], by simp, .lf _ _ _ trivial (fun _ h => h), .lf _ _ trivial⟩
  | nil k F hF => exact ⟨.lf (.sl false k []) (.slice none 0 0), by simp, by simp, .lf _ _ _ (Fz.nil false k none 0 (by simp)) (fun _ h => h), .lf _ _ trivial⟩
  | own bx k rows b c arr E Fs F hb hk hcap hSb hv hr hd hval hbF hF ih =>
    have hfz := (Ok.own bx k rows b c arr E Fs F hb hk hcap hSb hv hr hd hval hbF hF).freeze
    cases bx with
    | true => exact ⟨.lf .dead (hdr true b rows.length c), by simp, by simp, .lf _ _ _ trivial (fun _ h => h), .lf _ _ trivial⟩
    | false =>
      simp only [er_own, frz_vec, ann_own] at hfz ⊢
      exact ⟨.lf (.sl false k (List.map (fun (x : List AV) => List.map frz x) (List.map (fun (x : List DV) => List.map DV.er x) rows))) (hdr false b rows.length c), by rw [er_lf], by simp, .lf _ _ _ hfz (fun _ h => h), .lf _ _ trivial⟩
  | agg cs Fs F hr hd hval hF ih =>
    obtain ⟨Ds, hl, hDs⟩ := mkList cs (fun i d D => D.er = frz d.er ∧ D.ann = d.ann ∧ Ok w (fun x => S x ∨ F x) D (fun _ => False) ∧ AlOK δ D) (by
      intro i d hdi
      obtain ⟨D, h1, h2, h3, h4⟩ := ih i d hdi
      exact ⟨D, h1, h2, h3.mono (fun _ _ => rfl) (fun _ _ => rfl) (fun x hx => hx.imp id (fun h => (hF x).2 ⟨i, h⟩)) (fun _ h => h.elim), h4⟩)
    refine ⟨.agg Ds, ?_, ?_, Ok_agg_iff.2 (OkL_empty fun D hD => ?_), .agg _ fun i D hD => ?_⟩
    · simp only [er_agg, frz_agg, AV.agg.injEq, List.map_map]
      exact map_mk hl hDs _ _ (by simp) fun i c D hΦ hc => by simp [hc, hΦ.1]
    · simp only [ann_agg]; congr 2
      exact map_mk hl hDs _ _ (by simp) fun i c D hΦ hc => by simp [hc, hΦ.2.1]
    · obtain ⟨i, hi⟩ := List.getElem?_of_mem hD; obtain ⟨c, _, hΦ⟩ := mem_mk hl hDs i D hi; exact hΦ.2.2.1
    · obtain ⟨c, _, hΦ⟩ := mem_mk hl hDs i D hD; exact hΦ.2.2.2
  | tup cs Fs F hr hd hval hF ih =>
    obtain ⟨Ds, hl, hDs⟩ := mkList cs (fun i d D => D.er = frz d.er ∧ D.ann = d.ann ∧ Ok w (fun x => S x ∨ F x) D (fun _ => False) ∧ AlOK δ D) (by
      intro i d hdi
      obtain ⟨D, h1, h2, h3, h4⟩ := ih i d hdi
      exact ⟨D, h1, h2, h3.mono (fun _ _ => rfl) (fun _ _ => rfl) (fun x hx => hx.imp id (fun h => (hF x).2 ⟨i, h⟩)) (fun _ h => h.elim), h4⟩)
    refine ⟨.tup Ds, ?_, ?_, Ok_tup_iff.2 (OkL_empty fun D hD => ?_), .tup _ fun i D hD => ?_⟩
    · simp only [er_tup, frz_tup, AV.tup.injEq, List.map_map]
      exact map_mk hl hDs _ _ (by simp) fun i c D hΦ hc => by simp [hc, hΦ.1]
    · simp only [ann_tup]; congr 2
      exact map_mk hl hDs _ _ (by simp) fun i c D hΦ hc => by simp [hc, hΦ.2.1]
    · obtain ⟨i, hi⟩ := List.getElem?_of_mem hD; obtain ⟨c, _, hΦ⟩ := mem_mk hl hDs i D hi; exact hΦ.2.2.1
    · obtain ⟨c, _, hΦ⟩ := mem_mk hl hDs i D hD; exact hΦ.2.2.2

theorem freshL_all (l : List AV) : freshL l = l.all fresh := by
  induction l with
  | nil => rfl
  | cons a l ih => simp [freshL, ih]
theorem freshR_all (l : List (List AV)) : freshR l = l.all (·.all fresh) := by
  induction l with
  | nil => rfl
  | cons a l ih => simp [freshR, freshL_all, ih]
@[simp] theorem fresh_sc (v : Value) : fresh (.sc v) = true := by simp [fresh]
@[simp] theorem fresh_own (b : Bool) (k : Nat) (rows : List (List AV)) : fresh (.own b k rows) = rows.all (·.all fresh) := by simp [fresh, freshR_all]
@[simp] theorem fresh_agg (cs : List AV) : fresh (.agg cs) = cs.all fresh := by simp [fresh, freshL_all]
@[simp] theorem fresh_tup (cs : List AV) : fresh (.tup cs) = cs.all fresh := by simp [fresh, freshL_all]

theorem fresh_ok {d : DV} {F : Nat → Prop} (h : Ok w S d F) : fresh d.er = true → (∀ x, F x → ¬ S' x) → Ok w S' d F := by
  induction h with
  | lf a v F ha hF =>
    intro hf hn
    simp only [er_lf] at hf
    cases a with
    | sc u => exact .lf _ _ _ ha hF
    | own => exact ha.elim
    | agg => exact ha.elim
    | tup => exact ha.elim
    | _ => simp [fresh] at hf
  | nil k F hF => intro _ _; exact .nil k F hF
  | own bx k rows b c arr E Fs F hb hk hcap hSb hv hr hd hval hbF hF ih =>
    intro hf hn
    simp only [er_own, fresh_own, List.all_map, List.all_eq_true] at hf
    refine .own bx k rows b c arr E Fs F hb hk hcap (hn b ((hF b).2 (.inl rfl))) hv (fun i j row d h1 h2 => ih i j row d h1 h2 ?_ ?_) hd hval hbF hF
    · have := hf row (List.mem_of_getElem? h1)
      simp only [Function.comp, List.all_map, List.all_eq_true] at this
      exact this d (List.mem_of_getElem? h2)
    · exact fun x hx => hn x ((hF x).2 (.inr ⟨i, j, hx⟩))
  | agg cs Fs F hr hd hval hF ih =>
    intro hf hn
    simp only [er_agg, fresh_agg, List.all_map, List.all_eq_true] at hf
    exact .agg cs Fs F (fun i d h1 => ih i d h1 (hf d (List.mem_of_getElem? h1)) (fun x hx => hn x ((hF x).2 ⟨i, hx⟩))) hd hval hF
  | tup cs Fs F hr hd hval hF ih =>
    intro hf hn
    simp only [er_tup, fresh_tup, List.all_map, List.all_eq_true] at hf
    exact .tup cs Fs F (fun i d h1 => ih i d h1 (hf d (List.mem_of_getElem? h1)) (fun x hx => hn x ((hF x).2 ⟨i, hx⟩))) hd hval hF

theorem flat_fresh {a : AV} (h : flatA a = true) : fresh a = true := by
  cases a with
  | sc => simp
  | agg cs =>
    simp only [flatA, List.all_eq_true] at h
    simp only [fresh_agg, List.all_eq_true]
    intro c hc
    have := h c hc
    cases c <;> simp_all
  | tup cs =>
    simp only [flatA, List.all_eq_true] at h
    simp only [fresh_tup, List.all_eq_true]
    intro c hc
    have := h c hc
    cases c <;> simp_all
  | _ => simp [flatA] at h

theorem fresh_al {d : DV} {F : Nat → Prop} (h : Ok w S d F) : fresh d.er = true → AlOK δ d := by
  induction h with
  | lf a v F ha hF =>
    intro hf
    simp only [er_lf] at hf
    refine .lf a v ?_
    cases a <;> simp_all [fresh, AlLeaf]
  | nil => intro _; exact .own _ _ _ _
  | own => intro _; exact .own _ _ _ _
  | agg cs Fs F hr hd hval hF ih =>
    intro hf
    simp only [er_agg, fresh_agg, List.all_map, List.all_eq_true] at hf
    exact .agg cs fun i d h1 => ih i d h1 (hf d (List.mem_of_getElem? h1))
  | tup cs Fs F hr hd hval hF ih =>
    intro hf
    simp only [er_tup, fresh_tup, List.all_map, List.all_eq_true] at hf
    exact .tup cs fun i d h1 => ih i d h1 (hf d (List.mem_of_getElem? h1))

theorem run_call {a : Act} {o : Oper} {c : Call} {f : Nat} {fn : Func} (ho : o.op = .call c) (hc : c.callee = .value (.func f)) (hf : P.funcs[f]? = some fn) (hb : fn.body.isSome = true) (hn : (fn.name != "runtime.NumGoroutine") = true) :
    (execOp a.eval o).run P w = .ok (.enter f (c.args.toList.map a.eval).toArray) w := by
  have hbn : fn.body.isNone = false := by cases h : fn.body <;> simp_all
  have hnm : (fn.name == "runtime.NumGoroutine") = false := by simpa using hn
  have harr : c.args.map a.eval = (c.args.toList.map a.eval).toArray := by apply Array.ext'; simp
  simp only [execOp, ho, resolve, hc, Act.eval, Deferred.ofValue, Sem.run_bind, Sem.run_pure, Result.andThen_ok, invoke, callFunc, harr]
  have hp : (program).run P w = .ok P w := rfl
  rw [hp]
  simp only [Result.andThen_ok, hf, hnm, hbn, Bool.false_eq_true, if_false, Sem.run_pure]
  simp

def chkCall (P : Program) : Op → Nat → List Ar → Nat → Bool
  | .call c, f, args, m => (match c.callee with
    | .value (.func g) => f == g && (match P.funcs[f]? with | some fn => fn.body.isSome && fn.name != "runtime.NumGoroutine" | none => false) && decide (m < 3) && chkL c.args.toList args
    | _ => false)
  | _, _, _, _ => false

theorem fzn_tree {d : DV} {F : Nat → Prop} (h : Ok w S d F) : ∃ D, D.er = fzn d.er ∧ D.ann = d.ann ∧ Ok w (fun x => S x ∨ F x) D (fun _ => False) := by
  have leaf : ∀ {e : DV} {F1 : Nat → Prop}, Ok w S e F1 → (∀ x, F1 x → F x) → ∃ D : DV, D.er = fzl e.er ∧ D.ann = e.ann ∧ Ok w (fun x => S x ∨ F x) D (fun _ => False) := by
    intro e F1 he hsub
    obtain ⟨D, h1, h2, h3, _⟩ := frozenTree (δ := fun _ => default) he
    have h3' : Ok w (fun x => S x ∨ F x) D (fun _ => False) := h3.mono (fun _ _ => rfl) (fun _ _ => rfl) (fun x hx => hx.imp id (hsub x)) (fun _ h => h.elim)
    cases hee : e.er with
    | sl ee k rows =>
      rw [hee] at h1
      simp only [frz_sl] at h1
      refine ⟨.lf (.sl false k rows) D.ann, by simp [fzl], by simpa using h2, .lf _ _ _ ?_ (fun _ h => h)⟩
      cases h3' with
      | lf a v _ ha _ =>
        simp only [er_lf] at h1
        subst h1
        simp only [ann_lf]
        have hf : Fz w (fun x => S x ∨ F x) (.sl ee k rows) v := ha
        cases hf with
        | nil x k a c hx => exact Fz.nil _ _ _ _ (by simp)
        | sl x k rows b off c vs hx hlc hS hk hc hr => exact Fz.sl _ _ _ b off c vs (by simp) hlc hS hk hc hr
      | nil => simp at h1
      | own => simp at h1
      | agg => simp at h1
      | tup => simp at h1
    | _ => rw [hee] at h1; exact ⟨D, by rw [h1]; simp only [fzl], h2, h3'⟩
  cases hde : d.er with
  | agg cs =>
    obtain ⟨ds, rfl⟩ : ∃ ds, d = .agg ds := by
      have := h.lfy
      cases d with
      | agg ds => exact ⟨ds, rfl⟩
      | lf c v => cases this with | lf _ _ hl => simp at hde; subst hde; simp [leafy] at hl
      | own => simp at hde
      | tup => simp at hde
    simp only [er_agg, AV.agg.injEq] at hde
    subst hde
    cases h with
    | agg _ Fs _ h1 h2 h3 h4 =>
      obtain ⟨Ds, hl, hDs⟩ := mkList ds (fun i d D => D.er = fzl d.er ∧ D.ann = d.ann ∧ Ok w (fun x => S x ∨ F x) D (fun _ => False)) (fun i d hd => leaf (h1 i d hd) (fun x hx => (h4 x).2 ⟨i, hx⟩))
      refine ⟨.agg Ds, ?_, ?_, Ok_agg_iff.2 (OkL_empty fun D hD => ?_)⟩
      · simp only [er_agg, fzn, AV.agg.injEq, List.map_map]
        exact map_mk hl hDs _ _ (by simp) fun i c D hΦ hc => by simp only [List.getElem?_map, hc, Option.map_some, Function.comp, hΦ.1]
      · simp only [ann_agg]; congr 2
        exact map_mk hl hDs _ _ (by simp) fun i c D hΦ hc => by simp [hc, hΦ.2.1]
      · obtain ⟨i, hi⟩ := List.getElem?_of_mem hD; obtain ⟨c, _, hΦ⟩ := mem_mk hl hDs i D hi; exact hΦ.2.2
  | _ =>
    obtain ⟨D, h1, h2, h3⟩ := leaf h (fun _ h => h)
    refine ⟨D, ?_, h2, h3⟩
    rw [h1]
    simp only [hde, fzn]

theorem tkArgs_sound {a : Act} (ys : List Ar) : ∀ {xs : List Operand} {δ : Nat → DV} {Fr : Nat → Nat → Prop} {as : List AV} {τ : Sg}, St G w S δ Fr → Rd δ a → chkL xs ys = true → tkArgs G ys (fun s => (δ s).er) = some (as, τ) →
    ∃ (δ' : Nat → DV) (F' : Nat → Nat → Prop) (Ds : List DV) (Fd : Nat → Prop), St G w S δ' F' ∧ (fun s => (δ' s).er) = τ ∧ (∀ s, (δ' s).ann = (δ s).ann) ∧ Ds.map DV.er = as ∧ Ds.map DV.ann = xs.map a.eval ∧ (∀ D ∈ Ds, Ok w (fun x => S x ∨ Fd x) D (fun _ => False)) ∧
      (∀ s x, F' s x → ¬ Fd x) ∧ (∀ x, Owned F' x ∨ Fd x → Owned Fr x) := by
  induction ys with
  | nil =>
    intro xs δ Fr as τ h ha hc ht
    cases xs with
    | cons => simp [chkL] at hc
    | nil =>
      simp only [tkArgs, Option.some.injEq, Prod.mk.injEq] at ht
      obtain ⟨rfl, rfl⟩ := ht
      exact ⟨δ, Fr, [], fun _ => False, h, rfl, fun _ => rfl, rfl, rfl, by simp, fun _ _ _ h => h, fun x hx => hx.elim id False.elim⟩
  | cons y ys ih =>
    intro xs δ Fr as τ h ha hc ht
    cases xs with
    | nil => simp [chkL] at hc
    | cons x xs =>
      simp only [chkL, Bool.and_eq_true] at hc
      obtain ⟨hy, hev⟩ := chkA_sound hc.1 ha
      simp only [tkArgs] at ht
      split at ht
      · rename_i v τ1 ht1
        split at ht
        · rename_i l τ2 ht2
          simp only [Option.some.injEq, Prod.mk.injEq] at ht
          obtain ⟨rfl, rfl⟩ := ht
          obtain ⟨δ1, F1, D, Ff, hfl, her, hDe, hDa⟩ := h.tk hy ht1
          subst her
          subst hDe
          obtain ⟨D', k1, k2, k3⟩ := fzn_tree hfl.ok
          obtain ⟨δ2, F2, Ds, Fd, m1, m2, m3, m4, m5, m6, m7, m8⟩ := ih hfl.st (fun s => (ha s).trans (hfl.ann s).symm) hc.2 ht2
          refine ⟨δ2, F2, D' :: Ds, fun x => Ff x ∨ Fd x, m1, m2, fun s => (m3 s).trans (hfl.ann s), by simp [k1, m4], by simp [k2, m5, hDa, hev], ?_, ?_, ?_⟩
          · intro e he
            simp only [List.mem_cons] at he
            rcases he with rfl | he
            · exact k3.mono (fun _ _ => rfl) (fun _ _ => rfl) (fun x hx => hx.imp id .inl) (fun _ h => h.elim)
            · exact (m6 e he).mono (fun _ _ => rfl) (fun _ _ => rfl) (fun x hx => hx.imp id .inr) (fun _ h => h.elim)
          · rintro s x hx (h1 | h1)
            · obtain ⟨t, ht⟩ := m8 x (.inl ⟨s, hx⟩)
              exact hfl.dis t x ht h1
            · exact m7 s x hx h1
          · rintro x (hx | hx | hx)
            · exact hfl.own x (.inl (m8 x (.inl hx)))
            · exact hfl.own x (.inr hx)
            · exact hfl.own x (.inl (m8 x (.inr hx)))
        · cases ht
      · cases ht

theorem chkCall_spec {op : Op} {f m : Nat} {args : List Ar} (h : chkCall P op f args m = true) : ∃ c fn, op = .call c ∧ c.callee = .value (.func f) ∧ P.funcs[f]? = some fn ∧ fn.body.isSome = true ∧ (fn.name != "runtime.NumGoroutine") = true ∧ m < 3 ∧ chkL c.args.toList args = true := by
  cases op with
  | call c =>
    simp only [chkCall] at h
    split at h
    · rename_i g hcal
      simp only [Bool.and_eq_true, beq_iff_eq, decide_eq_true_eq] at h
      obtain ⟨⟨⟨rfl, hfn⟩, hm3⟩, hcl⟩ := h
      split at hfn
      · rename_i fn hf
        simp only [Bool.and_eq_true] at hfn
        exact ⟨c, fn, rfl, hcal, hf, hfn.1, hfn.2, hm3, hcl⟩
      · cases hfn
    · cases h
  | _ => simp [chkCall] at h

theorem call_end {n : Nat} {w0 : World} {S0 U0 S1 S2 : Nat → Prop} {a : Act} {o : Oper} {dst : Option Dst} {δ1 : Nat → DV} {F1 : Nat → Nat → Prop} {D : DV} {FD : Nat → Prop} {v : AV} {K : Sg → Prop} (hst : St G w S1 δ1 F1) (hn : a.tmps.size = n) (hdef : a.defers = []) (ha : Rd δ1 a) (hd : DstOK G a o dst) (hDe : D.er = v)
    (hw : ∀ b, b < w.heap.size → w'.heap[b]? = w.heap[b]?) (hSlt : ∀ b, S1 b → b < w.heap.size) (hSS : ∀ b, S1 b → S2 b) (hS2 : ∀ b, S2 b → S1 b ∨ w.heap.size ≤ b) (hS2lt : ∀ b, S2 b → b < w'.heap.size) (hD : Ok w' S2 D FD) (hFD : ∀ x, FD x → w.heap.size ≤ x) (hal : AlOK δ1 D)
    (hnx : Nx w0 S0 U0 w S1 (Owned F1)) (hos : w'.os = w.os) (htp : w'.tape = w.tape) (hou : w'.output = w.output) (hsz : w.heap.size ≤ w'.heap.size)
    (hK : toDst dst v K (fun s => (δ1 s).er)) : ∃ σ', Rel G n w0 S0 U0 (a.put o.dst D.ann) w' σ' ∧ K σ' := by
  have hf : ∀ s x, F1 s x → w'.heap[x]? = w.heap[x]? := fun s x hx => hw x ((hst.ok s).lt x hx)
  have hfS : ∀ s x, F1 s x → ¬ S2 x := by
    intro s x hx h2
    have hlt := (hst.ok s).lt x hx
    rcases hS2 x h2 with h3 | h3
    · exact (hst.ok s).notS x hx h3
    · omega
  have hdis : ∀ s x, F1 s x → ¬ FD x := by
    intro s x hx h2
    have hlt := (hst.ok s).lt x hx
    have := hFD x h2
    omega
  have hstep : ∀ F2 : Nat → Nat → Prop, (∀ x, Owned F2 x → Owned F1 x ∨ FD x) → Nx w0 S0 U0 w' S2 (Owned F2) := by
    intro F2 hF2
    refine hnx.trans ⟨hos, htp, hou, hsz, fun b hb _ => hw b hb, hSS, fun b hb => (hS2 b hb).imp id .inr, fun _ => hS2lt, fun x hx => (hF2 x hx).imp id (hFD x)⟩
  cases dst with
  | none =>
    have h0 : o.dst = none := hd
    refine ⟨_, ⟨S2, δ1, F1, ?_, ?_, ?_, rfl, hst.world (fun b hb => hw b (hSlt b hb)) hf hSS hfS, hstep F1 (fun x hx => .inl hx), hS2lt⟩, hK⟩
    · rw [h0]; exact hn
    · rw [h0]; exact hdef
    · rw [h0]; exact ha
  | some d =>
    simp only [toDst] at hK
    split at hK
    · rename_i τ' hwr
      obtain ⟨h1, h2, h3, h4⟩ := hd
      rw [← hDe] at hwr
      obtain ⟨δ', F', hst', her, hann, hown⟩ := hst.wr h2 h3 (fun b hb => hw b (hSlt b hb)) hf hSS hfS hD hdis hal hwr
      refine ⟨τ', ⟨S2, δ', F', ?_, ?_, ?_, her, hst', hstep F' hown, hS2lt⟩, hK⟩
      · rw [h1]; simpa [Act.put] using hn
      · rw [h1]; simpa [Act.put] using hdef
      · intro s
        rw [h1, put_get a d.d D.ann h4 s, hann s]
        split
        · rfl
        · exact ha s
    · exact hK.elim

theorem borrow {n : Nat} {w0 : World} {S0 U0 : Nat → Prop} {a : Act} {o : Oper} {dst : Option Dst} {xs : List Operand} {args : List Ar} {as : List AV} {res v : AV} {f : Nat} {K : Sg → Prop} {Q : Exit → Act → World → Prop} (hst : St G w S δ Fr) (hnx : Nx w0 S0 U0 w S (Owned Fr)) (hSlt : ∀ b, S b → b < w.heap.size) (hn : a.tmps.size = n) (hdef : a.defers = []) (ha : Rd δ a) (hd : DstOK G a o dst)
    (hcl : chkL xs args = true) (hr : rdArgs (fun s => (δ s).er) args = some as) (hsays : Says P f as res) (hfr : fresh res = true) (hv : res = v)
    (hres : toDst dst v K (fun s => (δ s).er)) :
    Calls P f (xs.map a.eval).toArray w fun
      | .returned v, w'' => (fun a' w' => ∃ σ', Rel G n w0 S0 U0 a' w' σ' ∧ K σ') (a.put o.dst v) w''
      | .panicked chain, w'' => Q (.panic chain) a w''
      | .outgrown, _ => LetsOut Q := by
  obtain ⟨Ds, hDe, hDa, hDok⟩ := rdArgs_sound hst ha args hcl hr
  have hcalls := hsays w (fun x => S x ∨ Owned Fr x) Ds (fun _ => False) hDe (Ok_tup_iff.2 (OkL_empty hDok)) (by
    rintro b (hb | ⟨s, hs⟩)
    · exact hSlt b hb
    · exact (hst.ok s).lt b hs)
  rw [hDa] at hcalls
  refine hcalls.mono ?_
  rintro e w' ⟨r, os, S', F', rfl, hre, hoe, hoa, hok, hext, hSS, hS', hS'lt, hF'⟩
  obtain ⟨Fa, Fb, hra, _, _, hFab⟩ := Ok_tup_iff.1 hok
  have hfa : ∀ x, Fa x → w.heap.size ≤ x := fun x hx => (hF' x ((hFab x).2 (.inl hx))).resolve_left id
  have hok' : Ok w' S r Fa := fresh_ok hra (by rw [hre]; exact hfr) (fun x hx hs => by have := hSlt x hs; have := hfa x hx; omega)
  simp only
  exact call_end (S2 := S) hst hn hdef ha hd (hre.trans hv) (fun b hb => hext.block b hb id) hSlt (fun _ h => h) (fun _ h => .inl h) (fun b hb => Nat.lt_of_lt_of_le (hSlt b hb) hext.size) hok' hfa (fresh_al hra (by rw [hre]; exact hfr)) hnx hext.os hext.tape hext.output hext.size hres

theorem call_sound {n : Nat} {w0 : World} {S0 U0 : Nat → Prop} {a : Act} {σ : Sg} (h : Rel G n w0 S0 U0 a w σ) {o : Oper} {io : IOper} {f m : Nat} {args : List Ar} (hio : io.op = .call f args m) (hchk : chkCall P o.op f args m = true) (hd : DstOK G a o io.dst) {K : Sg → Prop} (hrun : arun P G io K σ)
    (Q : Exit → Act → World → Prop) : o.wp P a w (fun a' w' => ∃ σ', Rel G n w0 S0 U0 a' w' σ' ∧ K σ') Q := by
  obtain ⟨S, δ, Fr, hn, hdef, ha, rfl, hst, hnx, hSlt⟩ := h
  obtain ⟨c, fn, ho, hcal, hf, hfb, hfn, hm3, hcl⟩ := chkCall_spec hchk
  unfold arun at hrun
  rw [hio] at hrun
  simp only at hrun
  split at hrun
  · rename_i as τ hca
    obtain ⟨res, hsays, hres⟩ := hrun
    split at hres
    · rename_i v hv
      unfold Oper.wp
      rw [run_call ho hcal hf hfb hfn, Oper.upon_enter]
      match m, hm3, hca, hv with
      | 1, _, hca, hv =>
        simp only [callArgs] at hca
        obtain ⟨δ1, F1, Ds, Fd, hst1, her1, hann1, hDe, hDa, hDok, hdis, hown⟩ := tkArgs_sound _ hst ha hcl hca
        subst her1
        have hFdlt : ∀ x, Fd x → x < w.heap.size := fun x hx => by obtain ⟨t, ht⟩ := hown x (.inr hx); exact (hst.ok t).lt x ht
        have hcalls := hsays w (fun x => S x ∨ Fd x) Ds (fun _ => False) hDe (Ok_tup_iff.2 (OkL_empty hDok)) (fun b hb => hb.elim (hSlt b) (hFdlt b))
        rw [hDa] at hcalls
        refine hcalls.mono ?_
        rintro e w' ⟨r, os, S', F', rfl, hre, hoe, hoa, hok, hext, hSS, hS', hS'lt, hF'⟩
        obtain ⟨Fa, Fb, hra, _, _, hFab⟩ := Ok_tup_iff.1 hok
        obtain ⟨D, k1, k2, k3, k4⟩ := frozenTree (δ := δ1) hra
        simp only [resV, Option.some.injEq] at hv
        have hfa : ∀ x, Fa x → w.heap.size ≤ x := fun x hx => (hF' x ((hFab x).2 (.inl hx))).resolve_left id
        have hst1' : St G w (fun x => S x ∨ Fd x) δ1 F1 := hst1.world (fun _ _ => rfl) (fun _ _ _ => rfl) (fun _ h => .inl h) (fun s x hx hs => hs.elim ((hst1.ok s).notS x hx) (hdis s x hx))
        have hnx1 : Nx w0 S0 U0 w (fun x => S x ∨ Fd x) (Owned F1) := hnx.trans (Nx.frz (fun x hx => hown x hx) hFdlt)
        simp only
        rw [← k2]
        refine call_end (S2 := fun x => S' x ∨ Fa x) hst1' hn hdef (fun s => (ha s).trans (hann1 s).symm) hd (by rw [k1, hre]; exact hv) (fun b hb => hext.block b hb id) (fun b hb => hb.elim (hSlt b) (hFdlt b)) (fun b hb => .inl (hSS b hb)) ?_ ?_ k3 (fun _ h => h.elim) k4 hnx1 hext.os hext.tape hext.output hext.size hres
        · rintro b (hb | hb)
          · rcases hS' b hb with h1 | h1 | h1
            · exact .inl h1
            · exact h1.elim
            · exact .inr h1
          · exact .inr (hfa b hb)
        · rintro b (hb | hb)
          · exact hS'lt b hb
          · exact hra.lt b hb
      | 0, _, hca, hv =>
        simp only [callArgs] at hca
        split at hca
        · rename_i l hr
          simp only [Option.some.injEq, Prod.mk.injEq] at hca
          obtain ⟨rfl, rfl⟩ := hca
          simp only [resV] at hv
          split at hv
          · rename_i hfl
            exact borrow hst hnx hSlt hn hdef ha hd hcl hr hsays (flat_fresh hfl) (Option.some.inj hv) hres
          · cases hv
        · cases hca
      | 2, _, hca, hv =>
        simp only [callArgs] at hca
        split at hca
        · rename_i l hr
          simp only [Option.some.injEq, Prod.mk.injEq] at hca
          obtain ⟨rfl, rfl⟩ := hca
          simp only [resV] at hv
          split at hv
          · rename_i hfl
            exact borrow hst hnx hSlt hn hdef ha hd hcl hr hsays hfl (Option.some.inj hv) hres
          · cases hv
        · cases hca
    · exact hres.elim
  · exact hrun.elim
end Go.Abs
namespace Go.Abs
variable {w w' : World} {S S' : Nat → Prop} {G : Gi} {δ : Nat → DV} {Fr : Nat → Nat → Prop} {P : Program}

def chkDst (G : Gi) (n : Nat) (o : Option Tmp) (d : Option Dst) : Bool :=
  match o, d with
  | none, none => true
  | some t, some d => t == d.d && d.kl == G.als d.d && d.rs == G.rtOf d.d && decide (d.d < n)
  | _, _ => false

def chkGuard (n : Nat) (ops : Array Oper) (g : Option (Nat × Bool)) (h : Option (Nat × Bool)) : Bool :=
  match g, h with
  | none, none => true
  | some (j, b), some (s, b') => (ops[j]?).bind (·.dst) == some s && b == b' && decide (s < n)
  | _, _ => false

def chkOper (P : Program) (G : Gi) (n : Nat) (ops : Array Oper) (o : Oper) (io : IOper) : Bool :=
  chkDst G n o.dst io.dst && chkGuard n ops o.guard io.guard && (match io.op with
    | .call f args m => chkCall P o.op f args m
    | op => chkOp P o.op op)

theorem chkDst_ok {n : Nat} {a : Act} {o : Oper} {d : Option Dst} (h : chkDst G n o.dst d = true) (hn : a.tmps.size = n) : DstOK G a o d := by
  unfold chkDst at h
  split at h
  · rename_i ho; exact ho
  · rename_i t d ho
    simp only [Bool.and_eq_true, beq_iff_eq, decide_eq_true_eq] at h
    obtain ⟨⟨⟨rfl, h2⟩, h3⟩, h4⟩ := h
    exact ⟨ho, h2, h3, by rw [hn]; exact h4⟩
  · cases h

theorem arun_sound {n : Nat} {w0 : World} {S0 U0 : Nat → Prop} {a : Act} {σ : Sg} (h : Rel G n w0 S0 U0 a w σ) {ops : Array Oper} {o : Oper} {io : IOper} (hc : chkOper P G n ops o io = true) {K : Sg → Prop} (hrun : arun P G io K σ) (Q : Exit → Act → World → Prop) :
    o.wp P a w (fun a' w' => ∃ σ', Rel G n w0 S0 U0 a' w' σ' ∧ K σ') Q := by
  simp only [chkOper, Bool.and_eq_true] at hc
  obtain ⟨⟨h1, _⟩, h3⟩ := hc
  have h0 := h
  obtain ⟨S, δ, Fr, hn, hdef, ha, rfl, hst, hnx, hSlt⟩ := h
  have hd := chkDst_ok h1 hn
  have plain : ∀ {op : IOp}, io.op = op → (match eff G op io.dst (fun s => (δ s).er) with | some τ => K τ | none => False) → chkOp P o.op op = true → o.wp P a w (fun a' w' => ∃ σ', Rel G n w0 S0 U0 a' w' σ' ∧ K σ') Q := by
    intro op _ he hk
    split at he
    · rename_i τ heff
      obtain ⟨nx, v, w', S', δ', F', hr, hnv, hrd, her, hst', hnx'⟩ := op_sound hst hSlt ha hd hk heff
      have key : ∃ σ', Rel G n w0 S0 U0 (a.put o.dst v) w' σ' ∧ K σ' := by
        refine ⟨τ, ⟨S', δ', F', ?_, ?_, hrd, her, hst', hnx.trans hnx', hnx'.lt hSlt⟩, he⟩
        · cases ho : o.dst <;> simp [Act.put, hn]
        · cases ho : o.dst <;> simp [Act.put, hdef]
      unfold Oper.wp
      rw [hr]
      rcases hnv with rfl | ⟨rfl, rfl⟩
      · rw [Oper.upon_value]; exact key
      · rw [Oper.upon_skip]; exact key
    · exact he.elim
  cases hop : io.op with
  | call f args m =>
    rw [hop] at h3
    exact call_sound h0 hop h3 hd hrun Q
  | _ =>
    rw [hop] at h3
    unfold arun at hrun
    rw [hop] at hrun
    exact plain hop hrun h3

theorem aop_sound {n : Nat} {w0 : World} {S0 U0 : Nat → Prop} {a : Act} {σ : Sg} (h : Rel G n w0 S0 U0 a w σ) {ops : Array Oper} {o : Oper} {io : IOper} (hc : chkOper P G n ops o io = true) {K : Sg → Prop} (hrun : aop P G io K σ) (Q : Exit → Act → World → Prop) {i : Nat} (hi : ops[i]? = some o) :
    wpOp P ops Q i (fun a' w' => ∃ σ', Rel G n w0 S0 U0 a' w' σ' ∧ K σ') a w := by
  unfold wpOp
  rw [hi]
  simp only
  have hc' := hc
  simp only [chkOper, Bool.and_eq_true] at hc'
  obtain ⟨⟨h1, h2⟩, _⟩ := hc'
  have skip : (match io.dst with | some d => K (upd (kills d.kl d.d σ) d.d .un) | none => K σ) → ∃ σ', Rel G n w0 S0 U0 (a.put o.dst undef) w σ' ∧ K σ' := by
    intro hk
    obtain ⟨S, δ, Fr, hn, hdef, ha, rfl, hst, hnx, hSlt⟩ := h
    have hd := chkDst_ok h1 hn
    cases hdd : io.dst with
    | none =>
      rw [hdd] at hk hd
      have h0 : o.dst = none := hd
      rw [h0]
      exact ⟨_, ⟨S, δ, Fr, hn, hdef, ha, rfl, hst, hnx, hSlt⟩, hk⟩
    | some d =>
      rw [hdd] at hk hd
      obtain ⟨g1, g2, g3, g4⟩ := hd
      have hwr : wr d (DV.lf .un undef).er (fun s => (δ s).er) = some (upd (kills d.kl d.d fun s => (δ s).er) d.d .un) := by simp [wr]
      obtain ⟨δ', F', hst', her, hann, hown⟩ := hst.wr (D := .lf .un undef) (Ff := fun _ => False) g2 g3 (fun _ _ => rfl) (fun _ _ _ => rfl) (fun _ h => h) (fun s x hx => (hst.ok s).notS x hx) (.lf _ _ _ rfl (fun _ h => h)) (fun _ _ _ h => h) (.lf _ _ trivial) hwr
      refine ⟨_, ⟨S, δ', F', ?_, ?_, ?_, her, hst', hnx.trans (Nx.less fun x hx => (hown x hx).elim id False.elim), hSlt⟩, hk⟩
      · rw [g1]; simpa [Act.put] using hn
      · rw [g1]; simpa [Act.put] using hdef
      · intro s
        rw [g1, put_get a d.d undef g4 s, hann s]
        split
        · rfl
        · exact ha s
  unfold aop at hrun
  split at hrun
  · rename_i hg
    have hog : o.guard = none := by
      unfold chkGuard at h2
      split at h2
      · assumption
      · rename_i hh; rw [hg] at hh; cases hh
      · cases h2
    have hw : Region.wanted o (yielded ops a.tmps) = true := by simp [Region.wanted, hog]
    rw [if_pos hw]
    exact .inl (arun_sound h hc hrun Q)
  · rename_i s want hg
    obtain ⟨j, hog, hjs, hsn⟩ : ∃ j, o.guard = some (j, want) ∧ (ops[j]?).bind (·.dst) = some s ∧ s < n := by
      unfold chkGuard at h2
      split at h2
      · rename_i hh; rw [hg] at hh; cases hh
      · rename_i j b s' b' ho hh
        rw [hg] at hh
        simp only [Option.some.injEq, Prod.mk.injEq] at hh
        obtain ⟨rfl, rfl⟩ := hh
        simp only [Bool.and_eq_true, beq_iff_eq, decide_eq_true_eq] at h2
        exact ⟨j, by rw [ho, h2.1.2], h2.1.1, h2.2⟩
      · cases h2
    have hy : yielded ops a.tmps j = match a.tmps.getD s undef with | .bool b => some b | _ => none := by
      obtain ⟨S, δ, Fr, hn, _⟩ := h
      have hs : s < a.tmps.size := by rw [hn]; exact hsn
      unfold yielded
      rw [hjs]
      simp only [Option.bind_some, Array.getElem?_eq_getElem hs, Array.getD_eq_getD_getElem?, Option.getD_some]
      cases a.tmps[s] <;> rfl
    have hval : a.tmps.getD s undef = match σ s with | .sc v => v | .un => undef | _ => a.tmps.getD s undef := by
      obtain ⟨S, δ, Fr, hn, hdef, ha, rfl, hst, _⟩ := h
      simp only
      cases hs : (δ s).er with
      | sc v => rw [ha s]; exact (hst.leaf hs rfl).2.1.1
      | un => rw [ha s]; exact (hst.leaf hs rfl).2.1
      | _ => rfl
    split at hrun
    · rename_i b hb
      rw [hb] at hval
      simp only at hval
      have hwd : Region.wanted o (yielded ops a.tmps) = (some b == some want) := by simp only [Region.wanted, hog, hy, hval]
      split at hrun
      · rename_i hbw
        subst hbw
        rw [if_pos (by rw [hwd]; simp)]
        exact .inl (arun_sound h hc hrun Q)
      · rename_i hbw
        rw [if_neg (by rw [hwd]; simp [hbw])]
        exact skip hrun
    · rename_i hb
      rw [hb] at hval
      simp only at hval
      have hwd : Region.wanted o (yielded ops a.tmps) = false := by simp only [Region.wanted, hog, hy, hval]; rfl
      rw [if_neg (by rw [hwd]; simp)]
      exact skip hrun
    · exact hrun.elim

def chkOps (P : Program) (G : Gi) (n : Nat) (ops : Array Oper) : List Oper → List IOper → Bool
  | [], [] => true
  | o :: os, io :: ios => chkOper P G n ops o io && chkOps P G n ops os ios
  | _, _ => false

theorem aops_sound {n : Nat} {w0 : World} {S0 U0 : Nat → Prop} {ops : Array Oper} {K : Sg → Prop} (Q : Exit → Act → World → Prop) (hQ : ∀ a w σ, Rel G n w0 S0 U0 a w σ → K σ → Q .normal a w) (ios : List IOper) :
    ∀ (k : Nat) {a : Act} {w : World} {σ : Sg}, Rel G n w0 S0 U0 a w σ → chkOps P G n ops (ops.toList.drop k) ios = true → aops P G ios K σ → wpOps P ops Q (List.range' k (ops.size - k)) a w := by
  induction ios with
  | nil =>
    intro k a w σ h hc hr
    have hk : ops.toList.drop k = [] := by cases hd : ops.toList.drop k with | nil => rfl | cons o os => rw [hd] at hc; simp [chkOps] at hc
    have hlen : ops.size ≤ k := by simpa using hk
    rw [show ops.size - k = 0 from by omega]
    exact hQ a w σ h hr
  | cons io ios ih =>
    intro k a w σ h hc hr
    cases hd : ops.toList.drop k with
    | nil => rw [hd] at hc; simp [chkOps] at hc
    | cons o os =>
      rw [hd] at hc
      simp only [chkOps, Bool.and_eq_true] at hc
      have hk : k < ops.size := by
        have : (ops.toList.drop k).length = os.length + 1 := by rw [hd]; rfl
        simp at this; omega
      have ho : ops[k]? = some o := by
        have : (ops.toList.drop k)[0]? = some o := by rw [hd]; rfl
        simpa using this
      have hos : ops.toList.drop (k + 1) = os := by
        have : (ops.toList.drop k).drop 1 = os := by rw [hd]; rfl
        rw [List.drop_drop] at this; exact this
      rw [show ops.size - k = (ops.size - (k + 1)) + 1 from by omega, List.range'_succ, wpOps_cons]
      refine wpOp_mono ?_ (aop_sound h hc.1 hr Q ho)
      rintro a' w' ⟨σ', h', hK'⟩
      exact ih (k + 1) h' (by rw [hos]; exact hc.2) hK'
end Go.Abs
namespace Go.Abs
variable {w w' : World} {S S' : Nat → Prop} {G : Gi} {δ : Nat → DV} {Fr : Nat → Nat → Prop} {P : Program}

theorem run_equalIn_nil (d : Nat) (t e : TypeId) (a : Option Addr) (n c : Nat) (h : P.underlying t = some (.slice e)) : (Op.equalIn (d + 1) t (.slice a n c) (.slice none 0 0)).run P w = .ok a.isNone w := by
  have hu : (underlying t).run P w = .ok (.slice e) w := run_underlying h w
  cases a <;> simp [Op.equalIn, hu]
theorem run_eql_nil (t e : TypeId) (a : Option Addr) (n c : Nat) (h : P.underlying t = some (.slice e)) : (binOp .eql t (.slice a n c) (.slice none 0 0)).run P w = .ok (.bool a.isNone) w := by
  simp only [binOp]
  have : (Op.equal t (.slice a n c) (.slice none 0 0)).run P w = .ok a.isNone w := run_equalIn_nil 9999 t e a n c h
  simp [this]
theorem run_neq_nil (t e : TypeId) (a : Option Addr) (n c : Nat) (h : P.underlying t = some (.slice e)) : (binOp .neq t (.slice a n c) (.slice none 0 0)).run P w = .ok (.bool (!a.isNone)) w := by
  simp only [binOp]
  have : (Op.equal t (.slice a n c) (.slice none 0 0)).run P w = .ok a.isNone w := run_equalIn_nil 9999 t e a n c h
  simp [this]

def chkNil (P : Program) (o : Op) (neg : Bool) (y : Ar) : Bool := match o with
  | .binOp op t x (.const (.slice none 0 0)) _ => (match op with | .eql => !neg | .neq => neg | _ => false) && (match P.underlying t with | some (.slice _) => true | _ => false) && chkA x y
  | _ => false

theorem nilq_sound {n : Nat} {w0 : World} {S0 U0 : Nat → Prop} {a : Act} {σ : Sg} (h : Rel G n w0 S0 U0 a w σ) {o : Oper} {d : Dst} {neg : Bool} {x : Ar} {K : Sg → Prop} {rows : List (List AV)} {hv : AV} {pl : Option (Nat × List Step)} (hc : chkNil P o.op neg x = true) (hdt : chkDst G n o.dst (some d) = true)
    (hh : hd σ x = some (hv, pl)) (hrows : rowsOf hv = some rows) (hK : ∀ b : Bool, (b = true → rows = []) → toDst (some d) (.sc (.bool (if neg = true then !b else b))) K σ) (Q : Exit → Act → World → Prop) :
    o.wp P a w (fun a' w' => ∃ σ', Rel G n w0 S0 U0 a' w' σ' ∧ K σ') Q := by
  obtain ⟨S, δ, Fr, hn, hdef, ha, rfl, hst, hnx, hSlt⟩ := h
  unfold chkNil at hc
  split at hc
  · rename_i op t x' u ho
    simp only [Bool.and_eq_true] at hc
    obtain ⟨⟨h1, h2⟩, h3⟩ := hc
    obtain ⟨hx, ex⟩ := chkA_sound h3 ha
    obtain ⟨e, he⟩ : ∃ e, P.underlying t = some (.slice e) := by
      split at h2
      · exact ⟨_, ‹_›⟩
      · cases h2
    -- the slice's own value
    obtain ⟨ad, l, c, hval, hnil⟩ : ∃ ad l c, argv δ x = .slice ad l c ∧ (ad.isNone = true → rows = []) := by
      obtain ⟨g1, g2⟩ := hst.hdD hx hh
      cases hv with
      | own b k rows' =>
        cases b with
        | true => simp [rowsOf] at hrows
        | false =>
          simp only [rowsOf, Option.some.injEq] at hrows
          subst hrows
          obtain ⟨rowsD, F, e1, hok, _⟩ := g1 _ _ _ rfl
          generalize argv δ x = v at hok
          cases hok with
          | nil => exact ⟨none, 0, 0, rfl, fun _ => by rw [← e1]; rfl⟩
          | own _ _ _ b c arr E Fs _ hb hk hcap hSb hvv hr hdd hval hbF hF => exact ⟨_, _, _, by simp [hdr]; exact ⟨rfl, rfl, rfl⟩, by simp⟩
      | sl e' k rows' =>
        simp only [rowsOf, Option.some.injEq] at hrows
        subst hrows
        obtain ⟨s, hs1, hs2⟩ := hst.hdSl hx hh
        have hfz := g2 _ _ _ rfl ⟨s, hs1, hs2⟩
        generalize argv δ x = v at hfz
        cases hfz with
        | nil => exact ⟨_, _, _, rfl, fun _ => rfl⟩
        | sl => exact ⟨_, _, _, rfl, by simp⟩
      | _ => simp [rowsOf] at hrows
    have hb : (execOp a.eval o).run P w = .ok (.value (.bool (if neg = true then !ad.isNone else ad.isNone))) w := by
      have hg : ∀ op, (eqGuard op t x' (.const (.slice none 0 0)) (.slice ad l c) (.slice none 0 0)).run P w = .ok () w := by intro op; cases op <;> simp [eqGuard]
      have hev : a.eval (.const (.slice none 0 0)) = .slice none 0 0 := rfl
      cases op <;> simp only [Bool.false_eq_true] at h1
      · have : neg = false := by simpa using h1
        subst this
        simp only [execOp, ho, ex, hval, hev, Sem.run_bind, hg, Result.andThen_ok, run_eql_nil t e ad l c he, Sem.run_pure, Bool.false_eq_true, if_false]
      · subst h1
        simp only [execOp, ho, ex, hval, hev, Sem.run_bind, hg, Result.andThen_ok, run_neq_nil t e ad l c he, Sem.run_pure, if_true]
    have hk := hK ad.isNone hnil
    have hdd := chkDst_ok hdt hn
    unfold Oper.wp
    rw [hb, Oper.upon_value]
    exact call_end (S2 := S) (D := .lf (.sc (.bool (if neg = true then !ad.isNone else ad.isNone))) (.bool (if neg = true then !ad.isNone else ad.isNone))) (FD := fun _ => False) hst hn hdef ha hdd (by simp) (fun _ _ => rfl) hSlt (fun _ h => h) (fun _ h => .inl h) hSlt (.lf _ _ _ ⟨rfl, rfl⟩ (fun _ h => h)) (fun _ h => h.elim) (.lf _ _ trivial) hnx rfl rfl rfl (Nat.le_refl _) hk
  · cases hc

theorem plc_sound (h : St G w S δ Fr) {x : Ar} {r : Nat} {p : List Step} {b : Bool} {k : Nat} {rows : List (List AV)} (hp : plc (fun s => (δ s).er) x = some (r, p)) (hs : sub (δ r).er p = some (.own b k rows)) :
    ∃ rowsD, subD (δ r) p = some (.own (argv δ x) b k rowsD) ∧ (DV.own (argv δ x) b k rowsD).er = .own b k rows := by
  obtain ⟨D, hD, hDe⟩ := subD_of_sub (h.ok r).lfy hs
  have hown : ∃ v rowsD, D = .own v b k rowsD := by
    have := (h.ok r).lfy.subD hD
    cases D with
    | own v bx k' rows' => simp only [er_own, AV.own.injEq] at hDe; obtain ⟨rfl, rfl, _⟩ := hDe; exact ⟨v, rows', rfl⟩
    | lf a v => cases this with | lf _ _ hl => simp at hDe; subst hDe; simp [leafy] at hl
    | agg cs => simp at hDe
    | tup cs => simp at hDe
  obtain ⟨v, rowsD, rfl⟩ := hown
  unfold plc at hp
  split at hp
  · rename_i s
    split at hp
    · rename_i r' p' hs'
      simp only [Option.some.injEq, Prod.mk.injEq] at hp
      obtain ⟨rfl, rfl⟩ := hp
      obtain ⟨e1, _, hal⟩ := h.leaf hs' rfl
      obtain ⟨bx, k', rows', hl⟩ := hal
      rw [hD] at hl
      simp only [Option.some.injEq, DV.own.injEq] at hl
      obtain ⟨rfl, rfl, rfl, rfl⟩ := hl
      exact ⟨_, hD, hDe⟩
    · simp only [Option.some.injEq, Prod.mk.injEq] at hp
      obtain ⟨rfl, rfl⟩ := hp
      simp only [subD, Option.some.injEq] at hD
      refine ⟨rowsD, ?_, ?_⟩
      · simp [subD, argv, hD]
      · rw [← hDe]; simp
    · cases hp
  · cases hp

theorem rdSc_sound (h : St G w S δ Fr) {a : Act} (ha : Rd δ a) (ys : List Ar) : ∀ {xs : List Operand} {as : List AV}, chkL xs ys = true → rdSc (fun s => (δ s).er) ys = some as →
    ∃ vs : List Value, as = vs.map .sc ∧ xs.map a.eval = vs ∧ ∀ v ∈ vs, plainV v = true := by
  induction ys with
  | nil =>
    intro xs as hc hr
    cases xs with
    | nil => simp only [rdSc, Option.some.injEq] at hr; exact ⟨[], hr.symm, rfl, by simp⟩
    | cons => simp [chkL] at hc
  | cons y ys ih =>
    intro xs as hc hr
    cases xs with
    | nil => simp [chkL] at hc
    | cons x xs =>
      simp only [chkL, Bool.and_eq_true] at hc
      simp only [rdSc] at hr
      split at hr
      · rename_i v l hv hl
        simp only [Option.some.injEq] at hr
        subst hr
        obtain ⟨vs, e1, e2, e3⟩ := ih hc.2 hl
        obtain ⟨hy, ey⟩ := chkA_sound hc.1 ha
        obtain ⟨g1, g2⟩ := h.argSc hy hv
        refine ⟨v :: vs, by simp [e1], by simp [ey, g1, e2], ?_⟩
        intro u hu
        rcases List.mem_cons.1 hu with rfl | hu
        · exact g2
        · exact e3 u hu
      · cases hr

theorem backOK_al {d : DV} (h : backOK d.er = true) : AlOK δ d := by
  cases d with
  | own => exact .own _ _ _ _
  | lf a v => refine .lf _ _ ?_; simp only [er_lf] at h; cases a <;> simp_all [backOK, AlLeaf]
  | agg => simp [backOK] at h
  | tup => simp [backOK] at h
theorem backOK_rin {L : List Nat} {a : AV} (h : backOK a = true) : rin L a = true := by cases a <;> simp_all [backOK]

theorem lend_sound {n : Nat} {w0 : World} {S0 U0 : Nat → Prop} {a : Act} {σ : Sg} (h : Rel G n w0 S0 U0 a w σ) {o : Oper} {d : Option Dst} {f : Nat} {x : Ar} {rest : List Ar} {K : Sg → Prop} {r : Nat} {p : List Step} {as : List AV} {b : Bool} {k : Nat} {rows : List (List AV)} {res out t v : AV}
    (hchk : chkCall P o.op f (x :: rest) 0 = true) (hdt : chkDst G n o.dst d = true) (hp : plc σ x = some (r, p)) (hra : rdSc σ rest = some as) (hs : sub (σ r) p = some (.own b k rows))
    (hsays : SoundAt P f (.own b k rows :: as) res (out :: as.map fun _ => .dead)) (hback : backOK out = true) (hput : put (σ r) p out = some t) (hres : resV 2 res = some v) (hK : toDst d v K (upd (killS G r σ) r t)) (Q : Exit → Act → World → Prop) :
    o.wp P a w (fun a' w' => ∃ σ', Rel G n w0 S0 U0 a' w' σ' ∧ K σ') Q := by
  obtain ⟨S, δ, Fr, hn, hdef, ha, rfl, hst, hnx, hSlt⟩ := h
  obtain ⟨c, fn, ho, hcal, hf, hfb, hfn, hm3, hcl⟩ := chkCall_spec hchk
  have hd := chkDst_ok hdt hn
  obtain ⟨rowsD, hD, hDe⟩ := plc_sound hst hp hs
  obtain ⟨Fo, hokD, hsub, hrep⟩ := (hst.ok r).replace p hD
  obtain ⟨x0, xs, hargs, hx0, hxs⟩ : ∃ x0 xs, c.args.toList = x0 :: xs ∧ chkA x0 x = true ∧ chkL xs rest = true := by
    cases hl : c.args.toList with
    | nil => rw [hl] at hcl; simp [chkL] at hcl
    | cons x0 xs => rw [hl] at hcl; simp only [chkL, Bool.and_eq_true] at hcl; exact ⟨x0, xs, rfl, hcl.1, hcl.2⟩
  obtain ⟨_, ex0⟩ := chkA_sound hx0 ha
  obtain ⟨vs, e1, e2, e3⟩ := rdSc_sound hst ha rest hxs hra
  simp only [resV] at hres
  split at hres
  · rename_i hfr
    simp only [Option.some.injEq] at hres
    subst hres
    have hokvs : OkL w S (vs.map fun v => DV.lf (.sc v) v) (fun _ => False) := by
      refine OkL_empty fun d hd => ?_
      obtain ⟨u, hu, rfl⟩ := List.mem_map.1 hd
      exact .lf _ _ _ ⟨rfl, e3 u hu⟩ (fun _ h => h)
    have hcalls := hsays w S (DV.own (argv δ x) b k rowsD :: vs.map fun v => DV.lf (.sc v) v) Fo (by simp only [List.map_cons, hDe, e1]; simp) (Ok_tup_iff.2 ⟨Fo, fun _ => False, hokD, hokvs, fun _ _ h => h, fun x => by simp⟩) hSlt
    have harg : (List.map DV.ann (DV.own (argv δ x) b k rowsD :: vs.map fun v => DV.lf (.sc v) v)) = c.args.toList.map a.eval := by
      rw [hargs]; simp [ex0, e2, Function.comp_def]
    unfold Oper.wp
    rw [run_call ho hcal hf hfb hfn, Oper.upon_enter, ← harg]
    refine hcalls.mono ?_
    rintro e w' ⟨rD, os, S', F', rfl, hre, hoe, hoa, hok, hext, hSS, hS', hS'lt, hF'⟩
    obtain ⟨Fa, Fb, hra', hosk, hdab, hFab⟩ := Ok_tup_iff.1 hok
    obtain ⟨oD, ors, rfl⟩ : ∃ oD ors, os = oD :: ors := by cases os with | nil => simp at hoe | cons oD ors => exact ⟨oD, ors, rfl⟩
    obtain ⟨Fc, Fd, hoD, _, _, hFcd⟩ := hosk
    simp only [List.map_cons, List.cons.injEq] at hoe hoa
    have hlt : ∀ s x, Fr s x → x < w.heap.size := fun s x hx => (hst.ok s).lt x hx
    have hFc : ∀ x, Fc x → Fo x ∨ w.heap.size ≤ x := fun x hx => hF' x ((hFab x).2 (.inr ((hFcd x).2 (.inl hx))))
    have hFa : ∀ x, Fa x → Fo x ∨ w.heap.size ≤ x := fun x hx => hF' x ((hFab x).2 (.inl hx))
    have hwS : ∀ b, S b → w'.heap[b]? = w.heap[b]? := fun b hb => hext.block b (hSlt b hb) (fun hf => hokD.notS b hf hb)
    have hwF : ∀ s b, Fr s b → ¬ Fo b → w'.heap[b]? = w.heap[b]? := fun s b hb hno => hext.block b (hlt s b hb) hno
    have hS'n : ∀ s b, Fr s b → ¬ Fo b → ¬ S' b := by
      intro s b hb hno h'
      rcases hS' b h' with h1 | h1 | h1
      · exact (hst.ok s).notS b hb h1
      · exact hno h1
      · have := hlt s b hb; omega
    have hnoFo : ∀ s, s ≠ r → ∀ x, Fr s x → ¬ Fo x := fun s hs' x hx hf => hs' (hst.dis s r x hx (hsub x hf))
    obtain ⟨tD, F2, htD, hokt, hiff, hann⟩ := hrep w' S' oD Fc (by rw [hoa.1]) hoD (fun x hx hr => (hFc x hx).elim id fun hge => absurd (hlt r x hr) (by omega)) hwS (fun b hb hno => hwF r b hb hno) hSS (fun b hb hno => hS'n r b hb hno)
    have hte : tD.er = t := by
      obtain ⟨t', h1, h2⟩ := putD_of_put (d := δ r) (p := p) (a := t) oD (hst.ok r).lfy (by rw [hoe.1]; exact hput)
      rw [htD] at h1
      obtain rfl := Option.some.inj h1
      exact h2
    have hdisr : ∀ s, s ≠ r → ∀ x, F2 x → ¬ Fr s x := by
      intro s hs' x hx hy
      rcases (hiff x).1 hx with ⟨h1, _⟩ | h1
      · exact hs' (hst.dis s r x hy h1)
      · rcases hFc x h1 with h2 | h2
        · exact hnoFo s hs' x hy h2
        · have := hlt s x hy; omega
    have hb' : backOK oD.er = true := by rw [hoe.1]; exact hback
    have hal : AlOK δ oD := backOK_al hb'
    have hrin : ∀ L, rin L oD.er = true := fun L => backOK_rin hb'
    have hst1 : St G w' S' (upd (killδ G r δ) r tD) (upd Fr r F2) :=
      hst.set r tD F2 hwS (fun s hs' x hx => hwF s x hx (hnoFo s hs' x hx)) hSS (fun s hs' x hx => hS'n s x hx (hnoFo s hs' x hx)) hokt hdisr (putD_rin p htD (hst.rt r) (hrin _)) (putD_al p htD (hst.al r) hal)
    have her1 : (fun s => (upd (killδ G r δ) r tD s).er) = upd (killS G r fun s => (δ s).er) r t := by rw [er_upd_kill hst, hte]
    have hann1 : ∀ s, (upd (killδ G r δ) r tD s).ann = (δ s).ann := by
      intro s; rw [ann_upd_kill hst]; split
      · rename_i e; rw [e, hann]
      · rfl
    have hF1 : ∀ s x, upd Fr r F2 s x → (Fr s x ∧ ¬ Fo x) ∨ (s = r ∧ Fc x) := by
      intro s x hx
      by_cases hs' : s = r
      · subst hs'; rw [upd_same] at hx
        exact ((hiff x).1 hx).imp id fun h => ⟨rfl, h⟩
      · rw [upd_ne _ _ hs'] at hx; exact .inl ⟨hx, hnoFo s hs' x hx⟩
    have hdisD : ∀ s x, upd Fr r F2 s x → ¬ Fa x := by
      intro s x hx hy
      rcases hF1 s x hx with ⟨h1, h2⟩ | ⟨_, h1⟩
      · rcases hFa x hy with h3 | h3
        · exact h2 h3
        · have := hlt s x h1; omega
      · exact hdab x hy ((hFcd x).2 (.inl h1))
    have hOwn1 : ∀ x, Owned (upd Fr r F2) x → Owned Fr x ∨ w.heap.size ≤ x := by
      rintro x ⟨s, hx⟩
      rcases hF1 s x hx with ⟨h1, _⟩ | ⟨_, h1⟩
      · exact .inl ⟨s, h1⟩
      · exact (hFc x h1).imp (fun h => ⟨r, hsub x h⟩) id
    have hstep : ∀ F3 : Nat → Nat → Prop, (∀ x, Owned F3 x → Owned (upd Fr r F2) x ∨ Fa x) → Nx w0 S0 U0 w' S' (Owned F3) := by
      intro F3 hF3
      refine hnx.trans ⟨hext.os, hext.tape, hext.output, hext.size, fun b hb hno => hext.block b hb fun hf => hno ⟨r, hsub b hf⟩, hSS, fun b hb => (hS' b hb).imp id (Or.imp (fun h => ⟨r, hsub b h⟩) id), fun _ => hS'lt, fun x hx => ?_⟩
      rcases hF3 x hx with h1 | h1
      · exact hOwn1 x h1
      · exact (hFa x h1).imp (fun h => ⟨r, hsub x h⟩) id
    rw [← her1] at hK
    have ha1 : Rd (upd (killδ G r δ) r tD) a := fun s => (ha s).trans (hann1 s).symm
    simp only
    cases d with
    | none =>
      have h0 : o.dst = none := hd
      refine ⟨_, ⟨S', _, _, ?_, ?_, ?_, rfl, hst1, hstep _ (fun x hx => .inl hx), hS'lt⟩, hK⟩
      · rw [h0]; exact hn
      · rw [h0]; exact hdef
      · rw [h0]; exact ha1
    | some d =>
      simp only [toDst] at hK
      split at hK
      · rename_i τ' hwr
        obtain ⟨h1, h2, h3, h4⟩ := hd
        rw [← hre] at hwr
        obtain ⟨δ', F3, hst', her, hann', hown⟩ := hst1.wr h2 h3 (fun _ _ => rfl) (fun _ _ _ => rfl) (fun _ h => h) (fun s x hx => (hst1.ok s).notS x hx) hra' hdisD (fresh_al hra' (by rw [hre]; exact hfr)) hwr
        refine ⟨τ', ⟨S', δ', F3, ?_, ?_, ?_, her, hst', hstep F3 hown, hS'lt⟩, hK⟩
        · rw [h1]; simpa [Act.put] using hn
        · rw [h1]; simpa [Act.put] using hdef
        · intro s
          rw [h1, put_get a d.d rD.ann h4 s, hann' s]
          split
          · rfl
          · exact ha1 s
      · exact hK.elim
  · cases hres
end Go.Abs
