/- The calculus, run; loops. -/
import Derived.Test.YtejicekieoclaaaCoreH
import Derived.IntWalk
namespace Go.Abs
variable {P : Program} {G : Gi}

theorem toDst_mono {d : Option Dst} {v : AV} {K K' : Sg → Prop} {τ : Sg} (h : ∀ σ, K σ → K' σ) (ht : toDst d v K τ) : toDst d v K' τ := by
  unfold toDst at *
  split at ht
  · split at ht
    · exact h _ ht
    · exact ht.elim
  · exact h _ ht
theorem arun_mono {o : IOper} {K K' : Sg → Prop} {σ : Sg} (h : ∀ σ, K σ → K' σ) (ht : arun P G o K σ) : arun P G o K' σ := by
  obtain ⟨τ, h1, h2⟩ := arun_step.1 ht
  exact arun_step.2 ⟨τ, h1, h _ h2⟩
theorem aop_mono {o : IOper} {K K' : Sg → Prop} {σ : Sg} (h : ∀ σ, K σ → K' σ) (ht : aop P G o K σ) : aop P G o K' σ := by
  obtain ⟨τ, h1, h2⟩ := aop_step.1 ht
  exact aop_step.2 ⟨τ, h1, h _ h2⟩
theorem aops_mono {K K' : Sg → Prop} (h : ∀ σ, K σ → K' σ) : ∀ {os : List IOper} {σ : Sg}, aops P G os K σ → aops P G os K' σ
  | [], _, ht => h _ ht
  | _ :: _, _, ht => aop_mono (fun _ hx => aops_mono h hx) ht
theorem axs_mono {K K' : Sg → Prop} (h : ∀ σ, K σ → K' σ) : ∀ {xs : List XOp} {σ : Sg}, axs P G xs K σ → axs P G xs K' σ
  | [], _, ht => h _ ht
  | .o _ :: _, _, ht => aop_mono (fun _ hx => axs_mono h hx) ht
  | .nilq d neg x :: xs, σ, ht => by
    simp only [axs] at ht ⊢
    split at ht
    · split at ht
      · exact fun b hb => toDst_mono (fun _ hx => axs_mono h hx) (ht b hb)
      · exact ht.elim
    · exact ht.elim
  | .lend d f x rest :: xs, σ, ht => by
    simp only [axs] at ht ⊢
    split at ht
    · split at ht
      · obtain ⟨res, out, h1, h2, h3⟩ := ht
        refine ⟨res, out, h1, h2, ?_⟩
        split at h3
        · rename_i hp hv
          exact toDst_mono (fun _ hx => axs_mono h hx) h3
        · exact h3.elim
      · exact ht.elim
    · exact ht.elim

theorem awp_mono {ic : IC} : ∀ {Q Q' : Exit → Sg → Prop} {σ : Sg}, (∀ e σ, Q e σ → Q' e σ) → awp P G ic Q σ → awp P G ic Q' σ := by
  induction ic with
  | skip => exact fun h ht => h _ _ ht
  | bad => exact fun _ ht => ht
  | rex xs => exact fun h ht => axs_mono (h .normal) ht
  | reg ops => exact fun h ht => aops_mono (h .normal) ht
  | gz r p a iha =>
    intro Q Q' σ h ht
    simp only [awp] at ht ⊢
    split at ht
    · exact iha h ht
    · exact ht.elim
  | seq a b iha ihb =>
    intro Q Q' σ h ht
    refine iha (fun e σ' hq => ?_) ht
    cases e with
    | normal => exact ihb h hq
    | _ => exact h _ _ hq
  | cond c a b iha ihb =>
    intro Q Q' σ h ht
    rw [awp_cond] at ht ⊢
    split at ht
    · split at ht
      · rename_i hx; simp only [hx, if_true]; exact iha h ht
      · rename_i hx; simp only [hx]; exact ihb h ht
    · exact ht.elim
  | block id a iha =>
    intro Q Q' σ h ht
    refine iha (fun e σ' hq => ?_) ht
    cases e with
    | exit i =>
      rw [blockA_exit] at hq ⊢
      split
      · rename_i hi; rw [if_pos hi] at hq; exact h _ _ hq
      · rename_i hi; rw [if_neg hi] at hq; exact h _ _ hq
    | _ => exact h _ _ hq
  | loop a iha =>
    intro Q Q' σ h ht
    obtain ⟨I, h0, hr⟩ := ht
    refine ⟨I, h0, fun n τ hI => iha (fun e σ' hq => ?_) (hr n τ hI)⟩
    cases e with
    | normal => exact hq
    | _ => exact h _ _ hq
  | exit id => exact fun h ht => h _ _ ht
  | ret => exact fun h ht => h _ _ ht

abbrev si (n : Int) : AV := .sc (.int .i64 n)
abbrev sb (b : Bool) : AV := .sc (.bool b)

theorem wrap_nat {n : Nat} (h : n < 9223372036854775808) : IntKind.i64.wrap (n : Int) = n := IntWalk.i64_in _ (by omega)

theorem awp_range {c i n t b : Nat} {body : IC} {Q : Exit → Sg → Prop} {σ : Sg} (len : Nat) (I : Nat → Sg → Prop) (hlen : len < 4611686018427387904) (hi : σ i = si 0) (hn : σ n = si len) (h0 : I 0 σ)
    (hround : ∀ j τ, j < len → τ i = si j → τ n = si len → I j τ → awp P G body (Exit.seqA (fun τ' => τ' i = si j ∧ τ' n = si len ∧ I (j + 1) (upd (upd τ' t (si ((j : Int) + 1))) i (si ((j : Int) + 1)))) Q) (upd τ c (sb true)))
    (hexit : ∀ τ, τ i = si len → τ n = si len → I len τ → Q (.exit b) (upd τ c (sb false)))
    (hne : c ≠ i ∧ c ≠ n ∧ t ≠ n ∧ t ≠ i ∧ i ≠ n) :
    awp P G (.loop (.seq (.reg [⟨some ⟨c, [], []⟩, .bin .lss (.t i) (.t n), none⟩]) (.seq (.cond (.t c) .skip (.exit b)) (.seq body (.reg [⟨some ⟨t, [], []⟩, .bin .add (.t i) (.c (.sc (.int .i64 1))), none⟩, ⟨some ⟨i, [], []⟩, .cp (.t t), none⟩]))))) Q σ := by
  obtain ⟨n1, n2, n3, n4, n5⟩ := hne
  refine awp_loop (fun m τ => ∃ j : Nat, j ≤ len ∧ m = len - j ∧ τ i = si j ∧ τ n = si len ∧ I j τ) (len - 0) ⟨0, by omega, rfl, hi, hn, h0⟩ ?_
  rintro m τ ⟨j, hj, rfl, hτi, hτn, hI⟩
  simp only [awp_seq, awp_reg, aops, aop, arun, eff, valOf, ar, hτi, hτn, binF, binI, if_true, Option.map_some, wr, rin, kills, seqA_normal, awp_cond, upd_same]
  by_cases hlt : j < len
  · have hd : decide ((j : Int) < (len : Int)) = true := by simpa using hlt
    simp only [hd, if_true, awp_skip, seqA_normal, awp_seq]
    refine awp_mono ?_ (hround j τ hlt hτi hτn hI)
    rintro e σ' hq
    cases e with
    | normal =>
      obtain ⟨g1, g2, g3⟩ := hq
      have hw : IntKind.i64.wrap ((j : Int) + 1) = (j : Int) + 1 := by have := wrap_nat (n := j + 1) (by omega); simpa using this
      simp only [seqA_normal, awp_reg, aops, aop, arun, eff, valOf, ar, g1, binF, binI, if_true, Option.map_some, wr, rin, kills, upd_same, view, hw]
      refine ⟨len - (j + 1), by omega, j + 1, by omega, rfl, by simp, ?_, by simpa using g3⟩
      rw [upd_ne _ _ (Ne.symm n5), upd_ne _ _ (Ne.symm n3)]
      exact g2
    | _ => exact hq
  · obtain rfl : j = len := by omega
    have hd : decide ((j : Int) < (j : Int)) = false := by simp
    simp only [hd, Bool.false_eq_true, if_false, awp_exit, seqA_exit]
    exact hexit τ hτi hτn hI

def resIs (x : Option (List AV × Sg)) (res : AV) : Prop := match x with
  | some (vs, _) => one vs = res
  | none => False
theorem resIs_some (vs : List AV) (τ : Sg) (res : AV) : resIs (some (vs, τ)) res = (one vs = res) := (rfl)
theorem Ends_ret (G : Gi) (rs : List RV) (res : AV) (σ : Sg) : Ends G rs res .ret σ = resIs (takeRes G rs σ) res := by
  unfold Ends resIs
  cases takeRes G rs σ with
  | none => simp
  | some x => obtain ⟨vs, τ⟩ := x; simp
theorem Ends_normal (G : Gi) (rs : List RV) (res : AV) (σ : Sg) : Ends G rs res .normal σ = resIs (takeRes G rs σ) res := by
  unfold Ends resIs
  cases takeRes G rs σ with
  | none => simp
  | some x => obtain ⟨vs, τ⟩ := x; simp
theorem one_one (v : AV) : one [v] = v := (rfl)
theorem one_two (v u : AV) (l : List AV) : one (v :: u :: l) = .tup (v :: u :: l) := (rfl)
end Go.Abs
namespace Go.Abs
variable {P : Program} {G : Gi}

theorem kills_nil (d : Nat) (σ : Sg) : kills [] d σ = σ := (rfl)
theorem killS_at (G : Gi) (d : Nat) (σ : Sg) (s : Nat) : killS G d σ s = if s ∈ G.als d then killr d (σ s) else σ s := (rfl)
theorem start_at (args : List AV) (s : Nat) : start args s = args.getD s .un := (rfl)

def bK (x : Option Sg) (K : Sg → Prop) : Prop := match x with
  | some τ => K τ
  | none => False
theorem bK_some (τ : Sg) (K : Sg → Prop) : bK (some τ) K = K τ := (rfl)
theorem bK_none (K : Sg → Prop) : bK none K = False := (rfl)
theorem awp_gz (P : Program) (G : Gi) (r : Nat) (p : List Step) (a : IC) (Q : Exit → Sg → Prop) (σ : Sg) : awp P G (.gz r p a) Q σ = bK (gzS G r p σ) (awp P G a Q) := (rfl)
def condK (x : AV) (a b : Sg → Prop) (σ : Sg) : Prop := match x with
  | .sc (.bool x) => if x = true then a σ else b σ
  | _ => False
theorem condK_t (a b : Sg → Prop) (σ : Sg) : condK (.sc (.bool true)) a b σ = a σ := by simp [condK]
theorem condK_f (a b : Sg → Prop) (σ : Sg) : condK (.sc (.bool false)) a b σ = b σ := by simp [condK]
theorem awp_condK (P : Program) (G : Gi) (c : Ar) (a b : IC) (Q : Exit → Sg → Prop) (σ : Sg) : awp P G (.cond c a b) Q σ = condK (ar σ c) (awp P G a Q) (awp P G b Q) σ := (rfl)
def skipK (d : Option Dst) (K : Sg → Prop) (σ : Sg) : Prop := match d with
  | some d => K (upd (kills d.kl d.d σ) d.d .un)
  | none => K σ
theorem skipK_s (d : Dst) (K : Sg → Prop) (σ : Sg) : skipK (some d) K σ = K (upd (kills d.kl d.d σ) d.d .un) := (rfl)
theorem skipK_n (K : Sg → Prop) (σ : Sg) : skipK none K σ = K σ := (rfl)
def gK (x : AV) (want : Bool) (a b : Sg → Prop) (σ : Sg) : Prop := match x with
  | .sc (.bool x) => if x = want then a σ else b σ
  | .un => b σ
  | _ => False
theorem gK_tt (a b : Sg → Prop) (σ : Sg) : gK (.sc (.bool true)) true a b σ = a σ := by simp [gK]
theorem gK_tf (a b : Sg → Prop) (σ : Sg) : gK (.sc (.bool true)) false a b σ = b σ := by simp [gK]
theorem gK_ft (a b : Sg → Prop) (σ : Sg) : gK (.sc (.bool false)) true a b σ = b σ := by simp [gK]
theorem gK_ff (a b : Sg → Prop) (σ : Sg) : gK (.sc (.bool false)) false a b σ = a σ := by simp [gK]
theorem gK_un (want : Bool) (a b : Sg → Prop) (σ : Sg) : gK .un want a b σ = b σ := (rfl)
theorem aop_n (d : Option Dst) (op : IOp) (K : Sg → Prop) (σ : Sg) : aop P G ⟨d, op, none⟩ K σ = arun P G ⟨d, op, none⟩ K σ := (rfl)
theorem aop_g (d : Option Dst) (op : IOp) (g : Nat) (want : Bool) (K : Sg → Prop) (σ : Sg) : aop P G ⟨d, op, some (g, want)⟩ K σ = gK (σ g) want (arun P G ⟨d, op, some (g, want)⟩ K) (skipK d K) σ := (rfl)
theorem aops_nil (K : Sg → Prop) (σ : Sg) : aops P G [] K σ = K σ := (rfl)
theorem aops_cons (o : IOper) (os : List IOper) (K : Sg → Prop) (σ : Sg) : aops P G (o :: os) K σ = aop P G o (aops P G os K) σ := (rfl)
theorem toDst_s (d : Dst) (v : AV) (K : Sg → Prop) (τ : Sg) : toDst (some d) v K τ = bK (wr d v τ) K := (rfl)
theorem toDst_n (v : AV) (K : Sg → Prop) (τ : Sg) : toDst none v K τ = K τ := (rfl)
def resK (x : Option AV) (d : Option Dst) (K : Sg → Prop) (τ : Sg) : Prop := match x with
  | some v => toDst d v K τ
  | none => False
theorem resK_some (v : AV) (d : Option Dst) (K : Sg → Prop) (τ : Sg) : resK (some v) d K τ = toDst d v K τ := (rfl)
theorem resK_none (d : Option Dst) (K : Sg → Prop) (τ : Sg) : resK none d K τ = False := (rfl)
def callK (P : Program) (x : Option (List AV × Sg)) (f m : Nat) (d : Option Dst) (K : Sg → Prop) : Prop := match x with
  | some (avs, τ) => ∃ res, Says P f avs res ∧ resK (resV m res) d K τ
  | none => False
theorem callK_some (avs : List AV) (τ : Sg) (f m : Nat) (d : Option Dst) (K : Sg → Prop) : callK P (some (avs, τ)) f m d K = ∃ res, Says P f avs res ∧ resK (resV m res) d K τ := (rfl)
theorem arun_call (d : Option Dst) (f : Nat) (args : List Ar) (m : Nat) (g : Option (Nat × Bool)) (K : Sg → Prop) (σ : Sg) : arun P G ⟨d, .call f args m, g⟩ K σ = callK P (callArgs G m args σ) f m d K := (rfl)
theorem axs_nil (K : Sg → Prop) (σ : Sg) : axs P G [] K σ = K σ := (rfl)
theorem axs_o (o : IOper) (xs : List XOp) (K : Sg → Prop) (σ : Sg) : axs P G (.o o :: xs) K σ = aop P G o (axs P G xs K) σ := (rfl)
def nilK (x : Option (AV × Option (Nat × List Step))) (d : Dst) (neg : Bool) (K : Sg → Prop) (σ : Sg) : Prop := match x with
  | some (a, _) => (match rowsOf a with
    | some rows => ∀ b : Bool, (b = true → rows = []) → toDst (some d) (.sc (.bool (if neg = true then !b else b))) K σ
    | none => False)
  | none => False
theorem nilK_own (k : Nat) (rows : List (List AV)) (pl : Option (Nat × List Step)) (d : Dst) (neg : Bool) (K : Sg → Prop) (σ : Sg) : nilK (some (.own false k rows, pl)) d neg K σ = ∀ b : Bool, (b = true → rows = []) → toDst (some d) (.sc (.bool (if neg = true then !b else b))) K σ := (rfl)
theorem nilK_sl (e : Bool) (k : Nat) (rows : List (List AV)) (pl : Option (Nat × List Step)) (d : Dst) (neg : Bool) (K : Sg → Prop) (σ : Sg) : nilK (some (.sl e k rows, pl)) d neg K σ = ∀ b : Bool, (b = true → rows = []) → toDst (some d) (.sc (.bool (if neg = true then !b else b))) K σ := (rfl)
theorem axs_nilq (d : Dst) (neg : Bool) (x : Ar) (xs : List XOp) (K : Sg → Prop) (σ : Sg) : axs P G (.nilq d neg x :: xs) K σ = nilK (hd σ x) d neg (axs P G xs K) σ := (rfl)
def backK (t : Option AV) (v : Option AV) (d : Option Dst) (K : Sg → Prop) (r : Nat) (σ : Sg) : Prop := match t, v with
  | some t, some v => toDst d v K (upd σ r t)
  | _, _ => False
theorem backK_some (t v : AV) (d : Option Dst) (K : Sg → Prop) (r : Nat) (σ : Sg) : backK (some t) (some v) d K r σ = toDst d v K (upd σ r t) := (rfl)
def lendK (P : Program) (G : Gi) (x : Option (Nat × List Step)) (avs : Option (List AV)) (f : Nat) (d : Option Dst) (K : Sg → Prop) (σ : Sg) : Prop := match x, avs with
    | some (r, p), some avs => (match sub (σ r) p with
      | some (.own b k rows) => ∃ res out, SoundAt P f (.own b k rows :: avs) res (out :: avs.map fun _ => .dead) ∧ backOK out = true ∧ (match put (σ r) p out, resV 2 res with
        | some t, some v => toDst d v K (upd (killS G r σ) r t)
        | _, _ => False)
      | _ => False)
    | _, _ => False
theorem lendK_at {r : Nat} {p : List Step} {avs : List AV} {f : Nat} {d : Option Dst} {K : Sg → Prop} {σ : Sg} {b : Bool} {k : Nat} {rows : List (List AV)} (res out : AV) (hs : sub (σ r) p = some (.own b k rows)) (h : SoundAt P f (.own b k rows :: avs) res (out :: avs.map fun _ => .dead)) (hb : backOK out = true)
    (hk : backK (put (σ r) p out) (resV 2 res) d K r (killS G r σ)) : lendK P G (some (r, p)) (some avs) f d K σ := by
  unfold lendK
  simp only [hs]
  exact ⟨res, out, h, hb, hk⟩
theorem axs_lend (d : Option Dst) (f : Nat) (x : Ar) (rest : List Ar) (xs : List XOp) (K : Sg → Prop) (σ : Sg) : axs P G (.lend d f x rest :: xs) K σ = lendK P G (plc σ x) (rdSc σ rest) f d (axs P G xs K) σ := (rfl)
theorem arun_cp (d : Option Dst) (x : Ar) (g : Option (Nat × Bool)) (K : Sg → Prop) (σ : Sg) : arun P G ⟨d, .cp x, g⟩ K σ = bK (eff G (.cp x) d σ) K := (rfl)
theorem arun_mv (d : Option Dst) (x : Ar) (g : Option (Nat × Bool)) (K : Sg → Prop) (σ : Sg) : arun P G ⟨d, .mv x, g⟩ K σ = bK (eff G (.mv x) d σ) K := (rfl)
theorem arun_fz (d : Option Dst) (x : Ar) (g : Option (Nat × Bool)) (K : Sg → Prop) (σ : Sg) : arun P G ⟨d, .fz x, g⟩ K σ = bK (eff G (.fz x) d σ) K := (rfl)
theorem arun_pick (d : Option Dst) (c : Ar) (a : Ar) (b : Ar) (g : Option (Nat × Bool)) (K : Sg → Prop) (σ : Sg) : arun P G ⟨d, .pick c a b, g⟩ K σ = bK (eff G (.pick c a b) d σ) K := (rfl)
theorem arun_bx (d : Option Dst) (n : Nat) (x : Ar) (g : Option (Nat × Bool)) (K : Sg → Prop) (σ : Sg) : arun P G ⟨d, .bx n x, g⟩ K σ = bK (eff G (.bx n x) d σ) K := (rfl)
theorem arun_bld (d : Option Dst) (z : List AV) (ps : List (Nat × Nat × Ar)) (g : Option (Nat × Bool)) (K : Sg → Prop) (σ : Sg) : arun P G ⟨d, .bld z ps, g⟩ K σ = bK (eff G (.bld z ps) d σ) K := (rfl)
theorem arun_bsl (d : Option Dst) (n : Nat) (z : List (List AV)) (ps : List (Nat × Ar)) (g : Option (Nat × Bool)) (K : Sg → Prop) (σ : Sg) : arun P G ⟨d, .bsl n z ps, g⟩ K σ = bK (eff G (.bsl n z ps) d σ) K := (rfl)
theorem arun_ld (d : Option Dst) (ag : Bool) (n : Nat) (x : Ar) (g : Option (Nat × Bool)) (K : Sg → Prop) (σ : Sg) : arun P G ⟨d, .ld ag n x, g⟩ K σ = bK (eff G (.ld ag n x) d σ) K := (rfl)
theorem arun_st (d : Option Dst) (n : Nat) (x : Ar) (y : Ar) (g : Option (Nat × Bool)) (K : Sg → Prop) (σ : Sg) : arun P G ⟨d, .st n x y, g⟩ K σ = bK (eff G (.st n x y) d σ) K := (rfl)
theorem arun_fad (d : Option Dst) (n : Nat) (x : Ar) (g : Option (Nat × Bool)) (K : Sg → Prop) (σ : Sg) : arun P G ⟨d, .fad n x, g⟩ K σ = bK (eff G (.fad n x) d σ) K := (rfl)
theorem arun_fld (d : Option Dst) (ag : Bool) (n : Nat) (m : Nat) (x : Ar) (g : Option (Nat × Bool)) (K : Sg → Prop) (σ : Sg) : arun P G ⟨d, .fld ag n m x, g⟩ K σ = bK (eff G (.fld ag n m x) d σ) K := (rfl)
theorem arun_iad (d : Option Dst) (n : Nat) (x : Ar) (y : Ar) (g : Option (Nat × Bool)) (K : Sg → Prop) (σ : Sg) : arun P G ⟨d, .iad n x y, g⟩ K σ = bK (eff G (.iad n x y) d σ) K := (rfl)
theorem arun_aad (d : Option Dst) (n : Nat) (m : Nat) (x : Ar) (y : Ar) (g : Option (Nat × Bool)) (K : Sg → Prop) (σ : Sg) : arun P G ⟨d, .aad n m x y, g⟩ K σ = bK (eff G (.aad n m x y) d σ) K := (rfl)
theorem arun_idx (d : Option Dst) (ag : Bool) (n : Nat) (m : Nat) (x : Ar) (y : Ar) (g : Option (Nat × Bool)) (K : Sg → Prop) (σ : Sg) : arun P G ⟨d, .idx ag n m x y, g⟩ K σ = bK (eff G (.idx ag n m x y) d σ) K := (rfl)
theorem arun_bin (d : Option Dst) (bop : BinOp) (x : Ar) (y : Ar) (g : Option (Nat × Bool)) (K : Sg → Prop) (σ : Sg) : arun P G ⟨d, .bin bop x y, g⟩ K σ = bK (eff G (.bin bop x y) d σ) K := (rfl)
theorem arun_beq (d : Option Dst) (ag : Bool) (x : Ar) (y : Ar) (g : Option (Nat × Bool)) (K : Sg → Prop) (σ : Sg) : arun P G ⟨d, .beq ag x y, g⟩ K σ = bK (eff G (.beq ag x y) d σ) K := (rfl)
theorem arun_un (d : Option Dst) (uop : UnOp) (x : Ar) (g : Option (Nat × Bool)) (K : Sg → Prop) (σ : Sg) : arun P G ⟨d, .un uop x, g⟩ K σ = bK (eff G (.un uop x) d σ) K := (rfl)
theorem arun_cvt (d : Option Dst) (ik : IntKind) (x : Ar) (g : Option (Nat × Bool)) (K : Sg → Prop) (σ : Sg) : arun P G ⟨d, .cvt ik x, g⟩ K σ = bK (eff G (.cvt ik x) d σ) K := (rfl)
theorem arun_len (d : Option Dst) (x : Ar) (g : Option (Nat × Bool)) (K : Sg → Prop) (σ : Sg) : arun P G ⟨d, .len x, g⟩ K σ = bK (eff G (.len x) d σ) K := (rfl)
theorem arun_slen (d : Option Dst) (x : Ar) (g : Option (Nat × Bool)) (K : Sg → Prop) (σ : Sg) : arun P G ⟨d, .slen x, g⟩ K σ = bK (eff G (.slen x) d σ) K := (rfl)
theorem arun_app (d : Option Dst) (n : Nat) (m : Nat) (x : Ar) (y : Ar) (g : Option (Nat × Bool)) (K : Sg → Prop) (σ : Sg) : arun P G ⟨d, .app n m x y, g⟩ K σ = bK (eff G (.app n m x y) d σ) K := (rfl)
theorem arun_slc (d : Option Dst) (n : Nat) (ag : Bool) (x : Ar) (lo : Option Ar) (hi : Option Ar) (mx : Option Ar) (g : Option (Nat × Bool)) (K : Sg → Prop) (σ : Sg) : arun P G ⟨d, .slc n ag x lo hi mx, g⟩ K σ = bK (eff G (.slc n ag x lo hi mx) d σ) K := (rfl)
theorem arun_ext (d : Option Dst) (x : Ar) (n : Nat) (g : Option (Nat × Bool)) (K : Sg → Prop) (σ : Sg) : arun P G ⟨d, .ext x n, g⟩ K σ = bK (eff G (.ext x n) d σ) K := (rfl)
theorem arun_mk (d : Option Dst) (n : Nat) (m : Nat) (z : List AV) (l : Ar) (c : Ar) (g : Option (Nat × Bool)) (K : Sg → Prop) (σ : Sg) : arun P G ⟨d, .mk n m z l c, g⟩ K σ = bK (eff G (.mk n m z l c) d σ) K := (rfl)
theorem arun_nchk (d : Option Dst) (x : Ar) (g : Option (Nat × Bool)) (K : Sg → Prop) (σ : Sg) : arun P G ⟨d, .nchk x, g⟩ K σ = bK (eff G (.nchk x) d σ) K := (rfl)
theorem arun_bad (d : Option Dst) (g : Option (Nat × Bool)) (K : Sg → Prop) (σ : Sg) : arun P G ⟨d, .bad, g⟩ K σ = bK (eff G (.bad) d σ) K := (rfl)
end Go.Abs
namespace Go.Abs
variable {w w' : World} {S S' : Nat → Prop} {G : Gi} {δ : Nat → DV} {Fr : Nat → Nat → Prop} {P : Program}

def EndsF (G : Gi) (rs : List RV) (res : AV) (e : Exit) (σ : Sg) : Prop :=
  (match e with | .normal => True | .ret => True | _ => False) ∧ ∃ vs τ, takeRes G rs σ = some (vs, τ) ∧ one (vs.map fzn) = res
def resIsF (x : Option (List AV × Sg)) (res : AV) : Prop := match x with
  | some (vs, _) => one (vs.map fzn) = res
  | none => False
theorem resIsF_some (vs : List AV) (τ : Sg) (res : AV) : resIsF (some (vs, τ)) res = (one (vs.map fzn) = res) := (rfl)
theorem EndsF_ret (G : Gi) (rs : List RV) (res : AV) (σ : Sg) : EndsF G rs res .ret σ = resIsF (takeRes G rs σ) res := by
  unfold EndsF resIsF
  cases takeRes G rs σ with
  | none => simp
  | some x => obtain ⟨vs, τ⟩ := x; simp
theorem EndsF_normal (G : Gi) (rs : List RV) (res : AV) (σ : Sg) : EndsF G rs res .normal σ = resIsF (takeRes G rs σ) res := by
  unfold EndsF resIsF
  cases takeRes G rs σ with
  | none => simp
  | some x => obtain ⟨vs, τ⟩ := x; simp

theorem fzn_trees (ds : List DV) : ∀ {F : Nat → Prop}, OkL w S ds F → ∃ Ds : List DV, Ds.map DV.er = (ds.map DV.er).map fzn ∧ Ds.map DV.ann = ds.map DV.ann ∧ OkL w (fun x => S x ∨ F x) Ds (fun _ => False) := by
  induction ds with
  | nil => intro F h; exact ⟨[], rfl, rfl, fun _ h => h⟩
  | cons d ds ih =>
    rintro F ⟨F1, F2, h1, h2, h3, h4⟩
    obtain ⟨D, e1, e2, e3⟩ := fzn_tree h1
    obtain ⟨Ds, d1, d2, d3⟩ := ih h2
    refine ⟨D :: Ds, by simp [e1, d1], by simp [e2, d2], ⟨fun _ => False, fun _ => False, ?_, ?_, fun _ h => h.elim, fun x => by simp⟩⟩
    · exact e3.mono (fun _ _ => rfl) (fun _ h => h.elim) (fun b hb => hb.imp id fun h => (h4 b).2 (.inl h)) (fun _ h => h.elim)
    · exact d3.mono (fun _ _ => rfl) (fun _ h => h.elim) (fun b hb => hb.imp id fun h => (h4 b).2 (.inr h)) (fun _ h => h.elim)
theorem one'_ann (ds : List DV) : (one' ds).ann = oneV (ds.map DV.ann) := by
  match ds with
  | [] => simp [one', oneV]
  | [d] => simp [one', oneV]
  | _ :: _ :: _ => simp [one', oneV]

theorem says_frz {f : Nat} {fn : Func} {I : FI} {args : List AV} {res : AV} (hm : P.follows .mixedOrders = true) (hf : P.funcs[f]? = some fn) (hc : chkF P fn I = true) (hn : args.length ≤ fn.ntmps) (hargs : args.all argOK = true)
    (h : awp P I.g I.c (EndsF I.g I.r res) (start args)) : Says P f args res := by
  intro w S ds F hds hok hS
  simp only [chkF, Bool.and_eq_true] at hc
  obtain ⟨⟨hc1, hc2⟩, hc3⟩ := hc
  split at hc1
  · rename_i c hb
    obtain ⟨Fs, hr, hd, hval, hF⟩ : Parts w S ds F := by cases hok with | tup _ Fs _ hr hd hval hF => exact ⟨Fs, hr, hd, hval, hF⟩
    have hlen : ds.length = args.length := by rw [← hds]; simp
    have harg : ∀ (i : Nat) d, ds[i]? = some d → argOK d.er = true := fun i d hi => by
      simp only [List.all_eq_true] at hargs
      exact hargs _ (by rw [← hds]; exact List.mem_map_of_mem (List.mem_of_getElem? hi))
    refine calls_of_wp hf hb ?_
    let δ : Nat → DV := fun s => ds.getD s (.lf .un undef)
    have hδ : ∀ s, (∃ d, ds[s]? = some d ∧ δ s = d) ∨ (ds[s]? = none ∧ δ s = .lf .un undef) := by
      intro s
      cases hs : ds[s]? with
      | some d => exact .inl ⟨d, rfl, by simp [δ, hs]⟩
      | none => exact .inr ⟨rfl, by simp [δ, hs]⟩
    have hst : St I.g w S δ Fs := by
      refine ⟨fun s => ?_, fun s t x => hd s t x, fun s => ?_, fun s => ?_, self_of hc3⟩
      · rcases hδ s with ⟨d, hs, e⟩ | ⟨hs, e⟩
        · rw [e]; exact hr s d hs
        · rw [e]
          exact .lf _ _ _ rfl fun x hx => by obtain ⟨d, hd⟩ := hval s x hx; rw [hs] at hd; cases hd
      · rcases hδ s with ⟨d, hs, e⟩ | ⟨hs, e⟩
        · rw [e]; exact argOK_al (hr s d hs).lfy (harg s d hs)
        · rw [e]; exact .lf _ _ trivial
      · rcases hδ s with ⟨d, hs, e⟩ | ⟨hs, e⟩
        · rw [e]; exact argOK_rin (harg s d hs)
        · rw [e]; simp
    have hσ : (fun s => (δ s).er) = start args := by
      funext s
      unfold start
      rcases hδ s with ⟨d, hs, e⟩ | ⟨hs, e⟩
      · simp [e, ← hds, hs]
      · simp [e, ← hds, hs]
    have hrel : Rel I.g fn.ntmps w S F { tmps := (ds.map DV.ann).toArray ++ Array.replicate (fn.ntmps - (ds.map DV.ann).toArray.size) undef, defers := [] } w (start args) := by
      refine ⟨S, δ, Fs, by simp; omega, rfl, fun s => getD_ext ds fn.ntmps s, hσ, hst, Nx.less fun x ⟨s, hx⟩ => (hF x).2 ⟨s, hx⟩, hS⟩
    refine wp_mono (awp_sound hm c I.c _ _ w _ hc1 hrel h) ?_
    rintro e a' w1 ⟨σ, ⟨S1, δ1, F1, hn1, hdef, ha1, rfl, hst1, hnx, hlt⟩, hex, vs, τ, htk, hone⟩
    obtain ⟨Ds, FD, g1, g2, g3, g4⟩ := takeRes_sound fn.results.toList hst1 ha1 hc2 htk
    have hres : (results fn a'.tmps).run P w1 = .ok (one' Ds).ann w1 := by
      rw [run_results g2]
      match Ds with
      | [] => simp [one', oneV]
      | [d] => simp [one', oneV]
      | _ :: _ :: _ => simp [one', oneV]
    obtain ⟨Ds', k1, k2, k3⟩ := fzn_trees _ g3
    have hO : OkL w1 (fun x => S1 x ∨ FD x) (ds.map fun d => DV.lf .dead d.ann) (fun _ => False) := by
      refine OkL_empty fun d hd => ?_
      obtain ⟨x, _, rfl⟩ := List.mem_map.1 hd
      exact .lf _ _ _ trivial (fun _ h => h)
    have hfin : ∃ v, (results fn a'.tmps).run P w1 = .ok v w1 ∧ (∃ (r : DV) (os : List DV) (S' F' : Nat → Prop), Ending.returned v = .returned r.ann ∧ r.er = res ∧ os.map DV.er = (args.map fun _ => AV.dead) ∧ os.map DV.ann = ds.map DV.ann ∧
      Ok w1 S' (.tup (r :: os)) F' ∧ Ext w w1 F ∧ (∀ b, S b → S' b) ∧ (∀ b, S' b → S b ∨ F b ∨ w.heap.size ≤ b) ∧ (∀ b, S' b → b < w1.heap.size) ∧ (∀ x, F' x → F x ∨ w.heap.size ≤ x)) := by
      refine ⟨_, hres, one' Ds', ds.map fun d => DV.lf .dead d.ann, fun x => S1 x ∨ FD x, fun _ => False, by rw [one'_ann, one'_ann, k2], by rw [one'_er, k1, g1, hone], by simp [← hds], by simp, Ok_tup_iff.2 ⟨fun _ => False, fun _ => False, one'_ok k3, hO, fun _ h => h.elim, fun x => by simp⟩, ⟨hnx.os, hnx.tape, hnx.output, hnx.size, hnx.block⟩, fun b hb => .inl (hnx.sub b hb), ?_, ?_, fun x hx => hx.elim⟩
      · rintro b (hb | hb)
        · exact hnx.sup b hb
        · exact .inr (hnx.own b (g4 b hb))
      · rintro b (hb | hb)
        · exact hlt b hb
        · exact (one'_ok g3).lt b hb
    cases e with
    | normal => exact ⟨hdef, hfin⟩
    | ret => exact ⟨hdef, hfin⟩
    | _ => exact hex.elim
  · cases hc1
end Go.Abs
