/- The calculus is sound: a function's contract out of it. -/
import Derived.Test.YtejicekieoclaaaCoreF
import Derived.Laws.Sem
namespace Go.Abs
variable {w w' : World} {S S' : Nat → Prop} {G : Gi} {δ : Nat → DV} {Fr : Nat → Nat → Prop} {P : Program}

def chkX (P : Program) (G : Gi) (n : Nat) (ops : Array Oper) (o : Oper) : XOp → Bool
  | .o io => chkOper P G n ops o io
  | .nilq d neg x => o.guard.isNone && chkDst G n o.dst (some d) && chkNil P o.op neg x
  | .lend d f x rest => o.guard.isNone && chkDst G n o.dst d && chkCall P o.op f (x :: rest) 0
def chkXs (P : Program) (G : Gi) (n : Nat) (ops : Array Oper) : List Oper → List XOp → Bool
  | [], [] => true
  | o :: os, x :: xs => chkX P G n ops o x && chkXs P G n ops os xs
  | _, _ => false

theorem axs_sound {n : Nat} {w0 : World} {S0 U0 : Nat → Prop} {ops : Array Oper} {K : Sg → Prop} (Q : Exit → Act → World → Prop) (hQ : ∀ a w σ, Rel G n w0 S0 U0 a w σ → K σ → Q .normal a w) (xs : List XOp) :
    ∀ (k : Nat) {a : Act} {w : World} {σ : Sg}, Rel G n w0 S0 U0 a w σ → chkXs P G n ops (ops.toList.drop k) xs = true → axs P G xs K σ → wpOps P ops Q (List.range' k (ops.size - k)) a w := by
  induction xs with
  | nil =>
    intro k a w σ h hc hr
    have hk : ops.toList.drop k = [] := by cases hd : ops.toList.drop k with | nil => rfl | cons o os => rw [hd] at hc; simp [chkXs] at hc
    have hlen : ops.size ≤ k := by simpa using hk
    rw [show ops.size - k = 0 from by omega]
    exact hQ a w σ h hr
  | cons x xs ih =>
    intro k a w σ h hc hr
    cases hd : ops.toList.drop k with
    | nil => rw [hd] at hc; simp [chkXs] at hc
    | cons o os =>
      rw [hd] at hc
      simp only [chkXs, Bool.and_eq_true] at hc
      have hk : k < ops.size := by
        have : (ops.toList.drop k).length = os.length + 1 := by rw [hd]; rfl
        simp at this; omega
      have ho : ops[k]? = some o := by
        have : (ops.toList.drop k)[0]? = some o := by rw [hd]; rfl
        simpa using this
      have hos : ops.toList.drop (k + 1) = os := by
        have : (ops.toList.drop k).drop 1 = os := by rw [hd]; rfl
        rw [List.drop_drop] at this; exact this
      rw [show ops.size - k = (ops.size - (k + 1)) + 1 from by omega, List.range'_succ, wpOps_cons]
      have hnext : ∀ a' w', (∃ σ', Rel G n w0 S0 U0 a' w' σ' ∧ axs P G xs K σ') → wpOps P ops Q (List.range' (k + 1) (ops.size - (k + 1))) a' w' := by
        rintro a' w' ⟨σ', h', hK'⟩
        exact ih (k + 1) h' (by rw [hos]; exact hc.2) hK'
      have hplain : o.guard.isNone = true → o.wp P a w (fun a' w' => ∃ σ', Rel G n w0 S0 U0 a' w' σ' ∧ axs P G xs K σ') Q → wpOp P ops Q k (fun a' w' => ∃ σ', Rel G n w0 S0 U0 a' w' σ' ∧ axs P G xs K σ') a w := by
        intro hg hwp
        unfold wpOp
        rw [ho]
        have hog : o.guard = none := by simpa using hg
        simp only
        rw [if_pos (by simp [Region.wanted, hog])]
        exact .inl hwp
      refine wpOp_mono hnext ?_
      cases x with
      | o io => exact aop_sound h hc.1 hr Q ho
      | nilq d neg x =>
        simp only [chkX, Bool.and_eq_true] at hc
        obtain ⟨⟨⟨g1, g2⟩, g3⟩, _⟩ := hc
        refine hplain g1 ?_
        simp only [axs] at hr
        split at hr
        · rename_i hv pl hh
          split at hr
          · rename_i rows hrows
            exact nilq_sound h g3 g2 hh hrows hr Q
          · exact hr.elim
        · exact hr.elim
      | lend d f x rest =>
        simp only [chkX, Bool.and_eq_true] at hc
        obtain ⟨⟨⟨g1, g2⟩, g3⟩, _⟩ := hc
        refine hplain g1 ?_
        simp only [axs] at hr
        split at hr
        · rename_i r p as hp hra
          split at hr
          · rename_i b kk rows hs
            obtain ⟨res, out, hsays, hback, hr⟩ := hr
            split at hr
            · rename_i t v hput hres
              exact lend_sound h g3 g2 hp hra hs hsays hback hput hres hr Q
            · exact hr.elim
          · exact hr.elim
        · exact hr.elim

def chkC (P : Program) (G : Gi) (n : Nat) : Code → IC → Bool
  | .skip, .skip => true
  | _, .bad => true
  | c, .gz _ _ a => chkC P G n c a
  | .region _ ops false, .rex xs => chkXs P G n ops ops.toList xs
  | .region _ ops d, .reg ios => chkOps P G n ops ops.toList ios && (!d || chkDraw G ops.toList ios)
  | .seq a b, .seq a' b' => chkC P G n a a' && chkC P G n b b'
  | .cond c a b, .cond c' a' b' => chkA c c' && chkC P G n a a' && chkC P G n b b'
  | .block id a, .block id' a' => id == id' && chkC P G n a a'
  | .loop a, .loop a' => chkC P G n a a'
  | .exit id, .exit id' => id == id'
  | .ret, .ret => true
  | _, _ => false

def Tied (G : Gi) (n : Nat) (w0 : World) (S0 U0 : Nat → Prop) (Q : Exit → Sg → Prop) (e : Exit) (a : Act) (w : World) : Prop := ∃ σ, Rel G n w0 S0 U0 a w σ ∧ Q e σ

theorem Rel.drew {n : Nat} {w0 : World} {S0 U0 : Nat → Prop} {a : Act} {σ : Sg} (h : Rel G n w0 S0 U0 a w σ) : Rel G n w0 S0 U0 a { w with drawn := w.drawn + 1 } σ := by
  obtain ⟨S, δ, Fr, hn, hdef, ha, her, hst, hnx, hlt⟩ := h
  exact ⟨S, δ, Fr, hn, hdef, ha, her, hst.world (fun _ _ => rfl) (fun _ _ _ => rfl) (fun _ h => h) (fun s x hx => (hst.ok s).notS x hx), ⟨hnx.os, hnx.tape, hnx.output, hnx.size, hnx.block, hnx.sub, hnx.sup, hnx.lt, hnx.own⟩, hlt⟩

theorem Rel.gz {n : Nat} {w0 : World} {S0 U0 : Nat → Prop} {a : Act} {σ τ : Sg} {r : Nat} {p : List Step} {v : AV} (h : Rel G n w0 S0 U0 a w σ) (hf : fzAt G r p σ = some (v, τ)) : Rel G n w0 S0 U0 a w τ := by
  obtain ⟨S, δ, Fr, hn, hdef, ha, rfl, hst, hnx, hlt⟩ := h
  obtain ⟨δ', F', Fo, v, bx, k, rows, hst', her, hann, _, _, _, hdis, hown, _⟩ := hst.fzAt hf
  have hFo : ∀ x, Fo x → x < w.heap.size := fun x hx => by obtain ⟨t, ht⟩ := hown x (.inr hx); exact (hst.ok t).lt x ht
  exact ⟨_, δ', F', hn, hdef, fun s => (ha s).trans (hann s).symm, her, hst', hnx.trans (Nx.frz (fun x hx => hown x hx) hFo), fun b hb => hb.elim (hlt b) (hFo b)⟩

theorem Rel.gzS {n : Nat} {w0 : World} {S0 U0 : Nat → Prop} {a : Act} {σ τ : Sg} {r : Nat} {p : List Step} (h : Rel G n w0 S0 U0 a w σ) (hf : gzS G r p σ = some τ) : Rel G n w0 S0 U0 a w τ := by
  unfold Abs.gzS at hf
  split at hf
  · obtain rfl := Option.some.inj hf; exact h
  · split at hf
    · rename_i v τ' hv
      obtain rfl := Option.some.inj hf
      exact h.gz hv
    · cases hf

theorem bad_sound {n : Nat} {w0 : World} {S0 U0 : Nat → Prop} {c : Code} {ic : IC} {Q : Exit → Sg → Prop} {a : Act} {w : World} {σ : Sg} (hc : ic = .bad) (hw : awp P G ic Q σ) : c.wp P (Tied G n w0 S0 U0 Q) a w := by
  subst hc; exact hw.elim

def isGz : IC → Bool
  | .gz .. => true
  | _ => false
theorem gz_lift {n : Nat} {w0 : World} {S0 U0 : Nat → Prop} {c : Code} (h : ∀ ic, isGz ic = false → ∀ (Q : Exit → Sg → Prop) (a : Act) (w : World) (σ : Sg), chkC P G n c ic = true → Rel G n w0 S0 U0 a w σ → awp P G ic Q σ → c.wp P (Tied G n w0 S0 U0 Q) a w) :
    ∀ (ic : IC) (Q : Exit → Sg → Prop) (a : Act) (w : World) (σ : Sg), chkC P G n c ic = true → Rel G n w0 S0 U0 a w σ → awp P G ic Q σ → c.wp P (Tied G n w0 S0 U0 Q) a w := by
  intro ic
  induction ic with
  | gz r p x ihx =>
    intro Q a w σ hc hr hw
    have hc' : chkC P G n c x = true := by cases c <;> simpa [chkC] using hc
    simp only [awp] at hw
    split at hw
    · rename_i τ hf
      exact ihx Q a w τ hc' (hr.gzS hf) hw
    · exact hw.elim
  | _ => exact h _ rfl

theorem awp_sound {n : Nat} {w0 : World} {S0 U0 : Nat → Prop} (hm : P.follows .mixedOrders = true) (c : Code) : ∀ (ic : IC) (Q : Exit → Sg → Prop) (a : Act) (w : World) (σ : Sg), chkC P G n c ic = true → Rel G n w0 S0 U0 a w σ → awp P G ic Q σ → c.wp P (Tied G n w0 S0 U0 Q) a w := by
  induction c with
  | skip =>
    refine gz_lift ?_
    intro ic hg Q a w σ hc h hw
    cases ic with
    | skip => exact wp_skip ⟨σ, h, hw⟩
    | bad => exact hw.elim
    | gz => cases hg
    | _ => simp [chkC] at hc
  | region id ops d =>
    refine gz_lift ?_
    intro ic hg Q a w σ hc h hw
    cases ic with
    | reg ios =>
      simp only [chkC, Bool.and_eq_true, Bool.or_eq_true, Bool.not_eq_true'] at hc
      obtain ⟨hc, hdr⟩ := hc
      cases d with
      | false =>
        refine wp_region ?_
        have := aops_sound (P := P) (G := G) (ops := ops) (K := Q .normal) (Tied G n w0 S0 U0 Q) (fun a w σ h hk => ⟨σ, h, hk⟩) ios 0 h (by simpa using hc) hw
        rw [List.range_eq_range']
        simpa using this
      | true =>
        refine wp_region_any hm ?_
        exact draw_sound (P := P) (G := G) (K := Q .normal) (Tied G n w0 S0 U0 Q) (fun a w σ h hk => ⟨σ, h, hk⟩) h.drew hc (hdr.resolve_left (by simp)) hw
    | rex xs =>
      cases d with
      | true => simp [chkC] at hc
      | false =>
        simp only [chkC] at hc
        refine wp_region ?_
        have := axs_sound (P := P) (G := G) (ops := ops) (K := Q .normal) (Tied G n w0 S0 U0 Q) (fun a w σ h hk => ⟨σ, h, hk⟩) xs 0 h (by simpa using hc) hw
        rw [List.range_eq_range']
        simpa using this
    | bad => exact hw.elim
    | gz => cases hg
    | _ => simp [chkC] at hc
  | seq x y ihx ihy =>
    refine gz_lift ?_
    intro ic hg Q a w σ hc h hw
    cases ic with
    | seq x' y' =>
      simp only [chkC, Bool.and_eq_true] at hc
      refine wp_seq (wp_mono (ihx x' _ a w σ hc.1 h hw) ?_)
      rintro e a' w' ⟨σ', h', hq⟩
      cases e with
      | normal => exact ihy y' Q a' w' σ' hc.2 h' hq
      | _ => exact ⟨σ', h', hq⟩
    | bad => exact hw.elim
    | gz => cases hg
    | _ => simp [chkC] at hc
  | cond c x y ihx ihy =>
    refine gz_lift ?_
    intro ic hg Q a w σ hc h hw
    cases ic with
    | cond c' x' y' =>
      simp only [chkC, Bool.and_eq_true] at hc
      obtain ⟨⟨h1, h2⟩, h3⟩ := hc
      rw [awp_cond] at hw
      split at hw
      · rename_i b hb
        have hev : a.eval c = .bool b := by
          obtain ⟨S, δ, Fr, hn, hdef, ha, rfl, hst, _⟩ := h
          obtain ⟨hy, he⟩ := chkA_sound h1 ha
          rw [he]
          exact (hst.argSc hy hb).1
        split at hw
        · rename_i hbt
          subst hbt
          exact wp_cond_true hev (ihx x' Q a w σ h2 h hw)
        · rename_i hbf
          obtain rfl : b = false := by simpa using hbf
          exact wp_cond_false hev (ihy y' Q a w σ h3 h hw)
      · exact hw.elim
    | bad => exact hw.elim
    | gz => cases hg
    | _ => simp [chkC] at hc
  | block id x ihx =>
    refine gz_lift ?_
    intro ic hg Q a w σ hc h hw
    cases ic with
    | block id' x' =>
      simp only [chkC, Bool.and_eq_true, beq_iff_eq] at hc
      obtain ⟨rfl, h2⟩ := hc
      refine wp_block (wp_mono (ihx x' _ a w σ h2 h hw) ?_)
      rintro e a' w' ⟨σ', h', hq⟩
      cases e with
      | exit i =>
        simp only [Exit.inBlock]
        rw [blockA_exit] at hq
        split
        · rename_i hi; rw [if_pos hi] at hq; exact ⟨σ', h', hq⟩
        · rename_i hi; rw [if_neg hi] at hq; exact ⟨σ', h', hq⟩
      | _ => exact ⟨σ', h', hq⟩
    | bad => exact hw.elim
    | gz => cases hg
    | _ => simp [chkC] at hc
  | loop x ihx =>
    refine gz_lift ?_
    intro ic hg Q a w σ hc h hw
    cases ic with
    | loop x' =>
      simp only [chkC] at hc
      obtain ⟨I, ⟨n0, h0⟩, hround⟩ := hw
      refine wp_loop_ghost (fun k a w => ∃ σ, Rel G n w0 S0 U0 a w σ ∧ I k σ) n0 ⟨σ, h, h0⟩ ?_
      rintro k a' w' ⟨τ, h', hI⟩
      refine wp_mono (ihx x' _ a' w' τ hc h' (hround k τ hI)) ?_
      rintro e a2 w2 ⟨σ2, h2, hq⟩
      cases e with
      | normal =>
        obtain ⟨k', hk, hI'⟩ := hq
        exact ⟨k', hk, σ2, h2, hI'⟩
      | _ => exact ⟨σ2, h2, hq⟩
    | bad => exact hw.elim
    | gz => cases hg
    | _ => simp [chkC] at hc
  | exit id =>
    refine gz_lift ?_
    intro ic hg Q a w σ hc h hw
    cases ic with
    | exit id' =>
      simp only [chkC, beq_iff_eq] at hc
      subst hc
      exact wp_exit ⟨σ, h, hw⟩
    | bad => exact hw.elim
    | gz => cases hg
    | _ => simp [chkC] at hc
  | ret =>
    refine gz_lift ?_
    intro ic hg Q a w σ hc h hw
    cases ic with
    | ret => exact wp_ret ⟨σ, h, hw⟩
    | bad => exact hw.elim
    | gz => cases hg
    | _ => simp [chkC] at hc
  | rangeFunc => refine gz_lift ?_; intro ic hg Q a w σ hc h hw; cases ic with | bad => exact hw.elim | gz => cases hg | _ => simp [chkC] at hc
  | scope => refine gz_lift ?_; intro ic hg Q a w σ hc h hw; cases ic with | bad => exact hw.elim | gz => cases hg | _ => simp [chkC] at hc
  | label => refine gz_lift ?_; intro ic hg Q a w σ hc h hw; cases ic with | bad => exact hw.elim | gz => cases hg | _ => simp [chkC] at hc
  | goto => refine gz_lift ?_; intro ic hg Q a w σ hc h hw; cases ic with | bad => exact hw.elim | gz => cases hg | _ => simp [chkC] at hc
  | refuse => refine gz_lift ?_; intro ic hg Q a w σ hc h hw; cases ic with | bad => exact hw.elim | gz => cases hg | _ => simp [chkC] at hc
end Go.Abs
namespace Go.Abs
variable {w w' : World} {S S' : Nat → Prop} {G : Gi} {δ : Nat → DV} {Fr : Nat → Nat → Prop} {P : Program}

def chkRV (P : Program) : ResultVar → RV → Bool
  | .tmp t, .tmp t' => t == t'
  | .cell a t, .cell a' agg n => a == a' && szOf P t == some n && isAggT P t == some agg && (agg || n == 1)
  | _, _ => false
def chkRes (P : Program) : List ResultVar → List RV → Bool
  | [], [] => true
  | r :: rs, v :: vs => chkRV P r v && chkRes P rs vs
  | _, _ => false

def resOne (tmps : Array Value) : ResultVar → Sem Value
  | .tmp t => pure (tmps.getD t undef)
  | .cell a t => do loadVar t (← asAddr (tmps.getD a undef))

theorem run_mapM_cons {α β : Type} (f : α → Sem β) (x : α) (l : List α) {v : β} {vs : List β} (h1 : (f x).run P w = .ok v w) (h2 : (l.mapM f).run P w = .ok vs w) : ((x :: l).mapM f).run P w = .ok (v :: vs) w := by
  rw [List.mapM_cons]
  simp [h1, h2]

theorem takeRes_sound {tmps : Array Value} (rvs : List ResultVar) : ∀ {rs : List RV} {δ : Nat → DV} {Fr : Nat → Nat → Prop} {vs : List AV} {τ : Sg}, St G w S δ Fr → (∀ s, tmps.getD s undef = (δ s).ann) → chkRes P rvs rs = true →
    takeRes G rs (fun s => (δ s).er) = some (vs, τ) → ∃ (Ds : List DV) (FD : Nat → Prop), Ds.map DV.er = vs ∧ (rvs.mapM (resOne tmps)).run P w = .ok (Ds.map DV.ann) w ∧ OkL w S Ds FD ∧ (∀ x, FD x → Owned Fr x) := by
  induction rvs with
  | nil =>
    intro rs δ Fr vs τ h ha hc ht
    cases rs with
    | nil => simp only [takeRes, Option.some.injEq, Prod.mk.injEq] at ht; obtain ⟨rfl, rfl⟩ := ht; exact ⟨[], fun _ => False, rfl, by simp, fun _ h => h, fun _ h => h.elim⟩
    | cons => simp [chkRes] at hc
  | cons rv rvs ih =>
    intro rs δ Fr vs τ h ha hc ht
    cases rs with
    | nil => simp [chkRes] at hc
    | cons r rs =>
      simp only [chkRes, Bool.and_eq_true] at hc
      obtain ⟨hc1, hc2⟩ := hc
      cases r with
      | tmp t =>
        cases rv with
        | cell => simp [chkRV] at hc1
        | tmp t' =>
          simp only [chkRV, beq_iff_eq] at hc1
          subst hc1
          simp only [takeRes] at ht
          split at ht
          · rename_i v τ1 htk
            split at ht
            · rename_i vs' τ' hrec
              simp only [Option.some.injEq, Prod.mk.injEq] at ht
              obtain ⟨rfl, rfl⟩ := ht
              obtain ⟨δ', F', D, Ff, hfly, her, hDe, hDa⟩ := h.tk (x := .t t') trivial htk
              subst her
              obtain ⟨Ds, FD, g1, g2, g3, g4⟩ := ih hfly.st (fun s => (ha s).trans (hfly.ann s).symm) hc2 hrec
              refine ⟨D :: Ds, fun x => Ff x ∨ FD x, by simp [hDe, g1], ?_, ⟨Ff, FD, hfly.ok, g3, ?_, fun x => Iff.rfl⟩, ?_⟩
              · refine run_mapM_cons _ _ _ ?_ g2
                simp [resOne, ha, hDa, argv]
              · intro x hx hy
                obtain ⟨s, hs⟩ := g4 x hy
                exact hfly.dis s x hs hx
              · rintro x (hx | hx)
                · exact hfly.own x (.inr hx)
                · exact hfly.own x (.inl (g4 x hx))
            · cases ht
          · cases ht
      | cell a agg n =>
        cases rv with
        | tmp => simp [chkRV] at hc1
        | cell a' t =>
          simp only [chkRV, Bool.and_eq_true, beq_iff_eq, Bool.or_eq_true] at hc1
          obtain ⟨⟨⟨rfl, hn⟩, hg⟩, hg1⟩ := hc1
          simp only [takeRes] at ht
          split at ht
          · rename_i k row hs
            split at ht
            · rename_i v hv
              split at ht
              · rename_i vs' τ' hrec
                simp only [Option.some.injEq, Prod.mk.injEq] at ht
                obtain ⟨rfl, rfl⟩ := ht
                obtain ⟨rowsD, hd, hrow⟩ := h.nodeS hs
                have hok := h.ok a'
                rw [hd] at hok
                match rowsD, hrow with
                | [rowD], hrow =>
                  simp only [List.map_cons, List.map_nil, List.cons.injEq, and_true] at hrow
                  generalize hva : (δ a').ann = va at *
                  cases hok with
                  | own _ _ _ b c arr E Fs _ hb hk hcap hSb hvv hr hdd hval hbF hF =>
                    have hkr : rowD.length = k := hk rowD (by simp)
                    simp only [if_true] at hcap
                    have hokL : OkL w S rowD (fun x => ∃ j, Fs 0 j x) := by
                      refine OkL_iff.2 ⟨fun j => Fs 0 j, fun j d hj => hr 0 j rowD d rfl hj, fun i i' x hx hy => (hdd 0 i 0 i' x hx hy).2, fun j x hx => ?_, fun x => Iff.rfl⟩
                      obtain ⟨row', d, h1, h2⟩ := hval 0 j x hx
                      simp only [List.getElem?_cons_zero, Option.some.injEq] at h1
                      exact ⟨d, h1 ▸ h2⟩
                    have hlen : rowD.length = n := by
                      have : row.length = n := by
                        unfold asCells at hv
                        split at hv
                        · assumption
                        · cases hv
                      rw [← this, ← hrow]; simp
                    have hst := h.set (w' := w) (S' := S) a' (.lf .dead (hdr true b 1 c)) (fun _ => False) (fun _ _ => rfl) (fun _ _ _ _ => rfl) (fun _ h => h) (fun s _ x hx => (h.ok s).notS x hx) (.lf _ _ _ trivial (fun _ h => h)) (fun _ _ _ h => h.elim) (by simp) (.lf _ _ trivial)
                    have her : (fun s => (upd (killδ G a' δ) a' (.lf .dead (hdr true b 1 c)) s).er) = upd (killS G a' fun s => (δ s).er) a' .dead := by
                      funext s
                      simp only [upd]
                      split
                      · simp
                      · exact h.killδ_er a' s
                    rw [← her] at hrec
                    have hann : ∀ s, tmps.getD s undef = (upd (killδ G a' δ) a' (.lf .dead (hdr true b 1 c)) s).ann := by
                      intro s
                      simp only [upd]
                      split
                      · rename_i e; subst e; rw [ha, hva]; simp
                      · rw [ha, h.killδ_ann a' s]
                    obtain ⟨Ds, FD, g1, g2, g3, g4⟩ := ih hst hann hc2 hrec
                    have hload : (loadVar t ⟨b, 0, none⟩).run P w = .ok (if agg = true then .agg (rowD.map DV.ann).toArray else (rowD.map DV.ann).headD undef) w := by
                      refine run_loadVar hn hg hg1 (by simp [hlen]) ?_
                      intro j v hj
                      simp only [List.getElem?_map] at hj
                      cases hjd : rowD[j]? with
                      | none => simp [hjd] at hj
                      | some d =>
                        simp only [hjd, Option.map_some, Option.some.injEq] at hj
                        subst hj
                        have := hvv 0 j rowD d rfl hjd
                        simp only [World.cell?, hb]
                        simpa using this
                    have hone : (resOne tmps (.cell a' t)).run P w = .ok (if agg = true then .agg (rowD.map DV.ann).toArray else (rowD.map DV.ann).headD undef) w := by
                      simp only [resOne, ha, hva, hdr, if_true]
                      simpa [asAddr] using hload
                    have hout : ∀ x, (∃ j, Fs 0 j x) → Owned Fr x := fun x ⟨j, hx⟩ => ⟨a', (hF x).2 (.inr ⟨0, j, hx⟩)⟩
                    have hdis : ∀ x, (∃ j, Fs 0 j x) → ¬ FD x := by
                      intro x ⟨j, hx⟩ hy
                      obtain ⟨s, hs⟩ := g4 x hy
                      simp only [upd] at hs
                      split at hs
                      · exact hs
                      · rename_i hne
                        exact hne (h.dis s a' x hs ((hF x).2 (.inr ⟨0, j, hx⟩)))
                    have hFDo : ∀ x, FD x → Owned Fr x := by
                      intro x hx
                      obtain ⟨s, hs⟩ := g4 x hx
                      simp only [upd] at hs
                      split at hs
                      · exact hs.elim
                      · exact ⟨s, hs⟩
                    unfold asCells at hv
                    split at hv
                    · cases agg with
                      | true =>
                        simp only [if_true, Option.some.injEq] at hv hone
                        subst hv
                        refine ⟨.agg rowD :: Ds, fun x => (∃ j, Fs 0 j x) ∨ FD x, by simp [hrow, g1], ?_, ⟨_, FD, Ok_agg_iff.2 hokL, g3, hdis, fun x => Iff.rfl⟩, ?_⟩
                        · have := run_mapM_cons _ _ _ hone g2
                          simpa using this
                        · rintro x (hx | hx)
                          · exact hout x hx
                          · exact hFDo x hx
                      | false =>
                        simp only [Bool.false_eq_true, if_false] at hv hone
                        split at hv
                        · rename_i c0 hn1
                          simp only [Option.some.injEq] at hv
                          subst hv
                          match rowD, hrow with
                          | [D0], hrow =>
                            simp only [List.map_cons, List.map_nil, List.cons.injEq, and_true] at hrow
                            obtain ⟨F1, F2, k1, k2, k3, k4⟩ := hokL
                            refine ⟨D0 :: Ds, fun x => F1 x ∨ FD x, by simp [hrow, g1], ?_, ⟨_, FD, k1, g3, fun x hx => hdis x ((k4 x).2 (.inl hx)), fun x => Iff.rfl⟩, ?_⟩
                            · have := run_mapM_cons _ _ _ hone g2
                              simpa using this
                            · rintro x (hx | hx)
                              · exact hout x ((k4 x).2 (.inl hx))
                              · exact hFDo x hx
                        · cases hv
                    · cases hv
              · cases ht
            · cases ht
          · cases ht

def argL : AV → Bool
  | .sc _ | .sl .. | .dead | .fp _ => true
  | _ => false
def argOK : AV → Bool
  | .agg cs => cs.all argL
  | .tup cs => cs.all argL
  | a => argL a

theorem argL_rin {L : List Nat} {a : AV} (h : argL a = true) : rin L a = true := by cases a <;> simp_all [argL, rin]
theorem argOK_rin {L : List Nat} {a : AV} (h : argOK a = true) : rin L a = true := by
  cases a with
  | agg cs => simp only [argOK, List.all_eq_true] at h; rw [rin, rinL_eq, List.all_eq_true]; exact fun x hx => argL_rin (h x hx)
  | tup cs => simp only [argOK, List.all_eq_true] at h; rw [rin, rinL_eq, List.all_eq_true]; exact fun x hx => argL_rin (h x hx)
  | _ => exact argL_rin h
theorem argL_al {d : DV} (hl : Lfy d) (h : argL d.er = true) : AlOK δ d := by
  cases hl with
  | lf a v hl => refine .lf _ _ ?_; simp only [er_lf] at h; cases a <;> simp_all [argL, AlLeaf]
  | own => simp [argL] at h
  | agg => simp [argL] at h
  | tup => simp [argL] at h
theorem argOK_al {d : DV} (hl : Lfy d) (h : argOK d.er = true) : AlOK δ d := by
  cases hl with
  | lf a v hl => exact argL_al (.lf a v hl) (by simp only [er_lf] at h ⊢; cases a <;> simp_all [argOK, leafy])
  | own => simp [argOK, argL] at h
  | agg cs hr => simp only [er_agg, argOK, List.all_map, List.all_eq_true, Function.comp] at h; exact .agg _ fun i d hd => argL_al (hr i d hd) (h d (List.mem_of_getElem? hd))
  | tup cs hr => simp only [er_tup, argOK, List.all_map, List.all_eq_true, Function.comp] at h; exact .tup _ fun i d hd => argL_al (hr i d hd) (h d (List.mem_of_getElem? hd))

structure FI where
  c : IC
  g : Gi
  r : List RV

def chkF (P : Program) (fn : Func) (I : FI) : Bool :=
  (match fn.body with
  | some c => chkC P I.g fn.ntmps c I.c
  | none => false) && chkRes P fn.results.toList I.r && I.g.rt.all (fun x => !x.2.contains x.1)

theorem self_of {G : Gi} (h : G.rt.all (fun x => !x.2.contains x.1) = true) (s : Nat) : s ∉ G.rtOf s := by
  unfold Gi.rtOf
  split
  · rename_i x hx
    have hm := List.mem_of_find?_eq_some hx
    have hp := List.find?_some hx
    simp only [List.all_eq_true] at h
    have := h _ hm
    simp only [beq_iff_eq] at hp
    rw [← hp]
    simpa using this
  · simp

theorem getD_ext (ds : List DV) (n s : Nat) : ((ds.map DV.ann).toArray ++ Array.replicate (n - (ds.map DV.ann).toArray.size) undef).getD s undef = (ds.getD s (.lf .un undef)).ann := by
  simp only [Array.getD_eq_getD_getElem?, Array.getElem?_append, List.getD_eq_getElem?_getD]
  simp only [List.size_toArray, List.length_map]
  split
  · rename_i h; simp [h]
  · rename_i h
    simp only [Array.getElem?_replicate]
    rw [List.getElem?_eq_none (by omega)]
    split <;> simp

def one' : List DV → DV
  | [d] => d
  | ds => .tup ds
theorem one'_er (ds : List DV) : (one' ds).er = one (ds.map DV.er) := by
  match ds with
  | [] => simp [one', one]
  | [d] => simp [one', one]
  | _ :: _ :: _ => simp [one', one]
theorem one'_ok {ds : List DV} {F : Nat → Prop} (h : OkL w S ds F) : Ok w S (one' ds) F := by
  match ds with
  | [] => exact Ok_tup_iff.2 h
  | [d] =>
    obtain ⟨F1, F2, h1, h2, h3, h4⟩ := h
    have : F = F1 := funext fun x => propext ⟨fun hx => ((h4 x).1 hx).elim id fun hf => absurd hf (h2 x), fun hx => (h4 x).2 (.inl hx)⟩
    exact this ▸ h1
  | _ :: _ :: _ => exact Ok_tup_iff.2 h
def oneV : List Value → Value
  | [v] => v
  | vs => .tuple vs.toArray
theorem run_results {fn : Func} {tmps : Array Value} {vs : List Value} (h : (fn.results.toList.mapM (resOne tmps)).run P w = .ok vs w) :
    (results fn tmps).run P w = .ok (oneV vs) w := by
  have e : results fn tmps = (do
    let vs ← fn.results.mapM (resOne tmps)
    pure (if h : vs.size = 1 then vs[0] else .tuple vs)) := by
    unfold results
    congr 1
  rw [e, Array.mapM_eq_mapM_toList, map_eq_pure_bind, bind_assoc]
  have h1 : ∀ (m : Sem (List Value)) (k : List Value → Sem Value), m.run P w = .ok vs w → (m >>= k).run P w = (k vs).run P w := by
    intro m k hm
    simp [hm]
  rw [h1 _ _ h]
  match vs with
  | [] => simp [oneV]
  | [v] => simp [oneV]
  | _ :: _ :: _ => simp [oneV]

theorem says_of {f : Nat} {fn : Func} {I : FI} {args : List AV} {res : AV} (hm : P.follows .mixedOrders = true) (hf : P.funcs[f]? = some fn) (hc : chkF P fn I = true) (hn : args.length ≤ fn.ntmps) (hargs : args.all argOK = true)
    (h : awp P I.g I.c (Ends I.g I.r res) (start args)) : Says P f args res := by
  intro w S ds F hds hok hS
  simp only [chkF, Bool.and_eq_true] at hc
  obtain ⟨⟨hc1, hc2⟩, hc3⟩ := hc
  split at hc1
  · rename_i c hb
    obtain ⟨Fs, hr, hd, hval, hF⟩ : Parts w S ds F := by cases hok with | tup _ Fs _ hr hd hval hF => exact ⟨Fs, hr, hd, hval, hF⟩
    have hlen : ds.length = args.length := by rw [← hds]; simp
    have harg : ∀ (i : Nat) d, ds[i]? = some d → argOK d.er = true := fun i d hi => by
      simp only [List.all_eq_true] at hargs
      exact hargs _ (by rw [← hds]; exact List.mem_map_of_mem (List.mem_of_getElem? hi))
    refine calls_of_wp hf hb ?_
    let δ : Nat → DV := fun s => ds.getD s (.lf .un undef)
    have hδ : ∀ s, (∃ d, ds[s]? = some d ∧ δ s = d) ∨ (ds[s]? = none ∧ δ s = .lf .un undef) := by
      intro s
      cases hs : ds[s]? with
      | some d => exact .inl ⟨d, rfl, by simp [δ, hs]⟩
      | none => exact .inr ⟨rfl, by simp [δ, hs]⟩
    have hst : St I.g w S δ Fs := by
      refine ⟨fun s => ?_, fun s t x => hd s t x, fun s => ?_, fun s => ?_, self_of hc3⟩
      · rcases hδ s with ⟨d, hs, e⟩ | ⟨hs, e⟩
        · rw [e]; exact hr s d hs
        · rw [e]
          exact .lf _ _ _ rfl fun x hx => by obtain ⟨d, hd⟩ := hval s x hx; rw [hs] at hd; cases hd
      · rcases hδ s with ⟨d, hs, e⟩ | ⟨hs, e⟩
        · rw [e]; exact argOK_al (hr s d hs).lfy (harg s d hs)
        · rw [e]; exact .lf _ _ trivial
      · rcases hδ s with ⟨d, hs, e⟩ | ⟨hs, e⟩
        · rw [e]; exact argOK_rin (harg s d hs)
        · rw [e]; simp
    have hσ : (fun s => (δ s).er) = start args := by
      funext s
      unfold start
      rcases hδ s with ⟨d, hs, e⟩ | ⟨hs, e⟩
      · simp [e, ← hds, hs]
      · simp [e, ← hds, hs]
    have hrel : Rel I.g fn.ntmps w S F { tmps := (ds.map DV.ann).toArray ++ Array.replicate (fn.ntmps - (ds.map DV.ann).toArray.size) undef, defers := [] } w (start args) := by
      refine ⟨S, δ, Fs, by simp; omega, rfl, fun s => getD_ext ds fn.ntmps s, hσ, hst, Nx.less fun x ⟨s, hx⟩ => (hF x).2 ⟨s, hx⟩, hS⟩
    refine wp_mono (awp_sound hm c I.c _ _ w _ hc1 hrel h) ?_
    rintro e a' w1 ⟨σ, ⟨S1, δ1, F1, hn1, hdef, ha1, rfl, hst1, hnx, hlt⟩, hex, vs, τ, htk, hone⟩
    obtain ⟨Ds, FD, g1, g2, g3, g4⟩ := takeRes_sound fn.results.toList hst1 ha1 hc2 htk
    have hres : (results fn a'.tmps).run P w1 = .ok (one' Ds).ann w1 := by
      rw [run_results g2]
      match Ds with
      | [] => simp [one', oneV]
      | [d] => simp [one', oneV]
      | _ :: _ :: _ => simp [one', oneV]
    have hO : OkL w1 S1 (ds.map fun d => DV.lf .dead d.ann) (fun _ => False) := by
      refine OkL_empty fun d hd => ?_
      obtain ⟨x, _, rfl⟩ := List.mem_map.1 hd
      exact .lf _ _ _ trivial (fun _ h => h)
    have hfin : ∃ v, (results fn a'.tmps).run P w1 = .ok v w1 ∧ (∃ (r : DV) (os : List DV) (S' F' : Nat → Prop), Ending.returned v = .returned r.ann ∧ r.er = res ∧ os.map DV.er = (args.map fun _ => AV.dead) ∧ os.map DV.ann = ds.map DV.ann ∧
      Ok w1 S' (.tup (r :: os)) F' ∧ Ext w w1 F ∧ (∀ b, S b → S' b) ∧ (∀ b, S' b → S b ∨ F b ∨ w.heap.size ≤ b) ∧ (∀ b, S' b → b < w1.heap.size) ∧ (∀ x, F' x → F x ∨ w.heap.size ≤ x)) := by
      refine ⟨_, hres, one' Ds, ds.map fun d => DV.lf .dead d.ann, S1, FD, rfl, by rw [one'_er, g1, hone], by simp [← hds], by simp, Ok_tup_iff.2 ⟨FD, fun _ => False, one'_ok g3, hO, fun _ _ h => h, fun x => by simp⟩, ⟨hnx.os, hnx.tape, hnx.output, hnx.size, hnx.block⟩, hnx.sub, hnx.sup, hlt, fun x hx => hnx.own x (g4 x hx)⟩
    cases e with
    | normal => exact ⟨hdef, hfin⟩
    | ret => exact ⟨hdef, hfin⟩
    | _ => exact hex.elim
  · cases hc1
end Go.Abs
