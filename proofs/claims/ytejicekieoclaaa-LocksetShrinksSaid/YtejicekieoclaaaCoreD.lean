/- Operations on abstract states, in the world (3). -/
import Derived.Test.YtejicekieoclaaaCoreC
namespace Go.Abs
variable {w w' : World} {S S' : Nat → Prop} {G : Gi} {δ : Nat → DV} {Fr : Nat → Nat → Prop} {P : Program}

theorem putD_sub {t t' new : DV} (p : List Step) {v : Value} {bx : Bool} {k i j : Nat} {rows : List (List DV)} {row : List DV} {old : DV} (hs : subD t p = some (.own v bx k rows)) (h1 : rows[i]? = some row) (h2 : row[j]? = some old) (hp : putD t (p ++ [(i, j, k)]) new = some t') :
    subD t' p = some (.own v bx k (rows.set i (row.set j new))) := by
  induction p generalizing t t' with
  | nil =>
    simp only [subD, Option.some.injEq] at hs
    subst hs
    simp only [List.nil_append, putD, h1, h2, Option.some.injEq] at hp
    subst hp
    rfl
  | cons s p ih =>
    obtain ⟨i0, j0, k0⟩ := s
    cases t with
    | lf a v => simp [subD] at hs
    | own hh b k1 rows1 =>
      simp only [subD] at hs
      simp only [List.cons_append, putD] at hp
      cases hi : rows1[i0]? with
      | none => simp [hi] at hs
      | some row1 =>
        simp only [hi] at hs hp
        cases hj : row1[j0]? with
        | none => simp [hj] at hs
        | some c =>
          simp only [hj] at hs hp
          cases hc : putD c (p ++ [(i, j, k)]) new with
          | none => simp [hc] at hp
          | some c' =>
            simp only [hc, Option.some.injEq] at hp
            subst hp
            simp only [subD, List.getElem?_set_self (List.getElem?_eq_some_iff.1 hi).1, List.getElem?_set_self (List.getElem?_eq_some_iff.1 hj).1]
            exact ih hs hc
    | agg cs =>
      simp only [subD] at hs
      simp only [List.cons_append, putD] at hp
      cases hj : cs[j0]? with
      | none => simp [hj] at hs
      | some c =>
        simp only [hj] at hs hp
        cases hc : putD c (p ++ [(i, j, k)]) new with
        | none => simp [hc] at hp
        | some c' =>
          simp only [hc, Option.some.injEq] at hp
          subst hp
          simp only [subD, List.getElem?_set_self (List.getElem?_eq_some_iff.1 hj).1]
          exact ih hs hc
    | tup cs =>
      simp only [subD] at hs
      simp only [List.cons_append, putD] at hp
      cases hj : cs[j0]? with
      | none => simp [hj] at hs
      | some c =>
        simp only [hj] at hs hp
        cases hc : putD c (p ++ [(i, j, k)]) new with
        | none => simp [hc] at hp
        | some c' =>
          simp only [hc, Option.some.injEq] at hp
          subst hp
          simp only [subD, List.getElem?_set_self (List.getElem?_eq_some_iff.1 hj).1]
          exact ih hs hc

theorem run_store_cell {b off : Nat} {v u : Value} {arr : Array Value} {E : TypeId} (hb : w.heap[b]? = some (.cells arr E (0, 0))) (hu : arr[off]? = some u) (hp : plainV v = true) : (store ⟨b, off, none⟩ v).run P w = .ok () (w.setCell ⟨b, off, none⟩ v) := by
  have hc : w.cell? ⟨b, off, none⟩ = some u := by simp [World.cell?, hb, hu]
  have hf : w.frozen? ⟨b, off, none⟩ = false := by simp [World.frozen?, hb]
  cases v <;> first
    | simp [plainV] at hp; done
    | simp [store, Sem.run, hc, hf]

theorem node_blk {v : Value} {bx : Bool} {k : Nat} {rows : List (List DV)} {F : Nat → Prop} {b : Nat} (h : Ok w S (.own v bx k rows) F) (hb : hblk v = some b) : F b ∧ ∃ arr E, w.heap[b]? = some (.cells arr E (0, 0)) ∧ ∀ (i j : Nat) row d, rows[i]? = some row → row[j]? = some d → arr[i * k + j]? = some d.ann := by
  cases h with
  | nil => simp [hblk] at hb
  | own _ _ _ b' c arr E Fs _ hbb hk hcap hSb hv hr hd hval hbF hF =>
    simp only [hblk_hdr, Option.some.injEq] at hb
    subst hb
    exact ⟨(hF b').2 (.inl rfl), arr, E, hbb, hv⟩

theorem cell_rin {L : List Nat} {a : AV} (h : cellA a = true) : rin L a = true := by
  cases a <;> first | (simp; done) | (simp [cellA] at h; done)

theorem stC_sound (ds : List DV) : ∀ {w : World} {t : DV} {F Fd : Nat → Prop} {p : List Step} {v : Value} {bx : Bool} {k i j b : Nat} {rows : List (List DV)} {row : List DV} {t' : AV}, Ok w S t F → subD t p = some (.own v bx k rows) → hblk v = some b → rows[i]? = some row → j + ds.length ≤ row.length →
    OkL w S ds Fd → (∀ x, Fd x → ¬ F x) → (ds.map DV.er).all cellA = true → stC p i k j (ds.map DV.er) t.er = some t' → ∀ (m off : Nat), off + m = i * k + j →
    ∃ (w' : World) (td : DV) (F' : Nat → Prop), (storeCells ⟨b, off, none⟩ (ds.map DV.ann) m).run P w = .ok () w' ∧ Ok w' S td F' ∧ td.er = t' ∧ td.ann = t.ann ∧ (∀ x, F' x → F x ∨ Fd x) ∧ (∀ x, x ≠ b → w'.heap[x]? = w.heap[x]?) ∧ F b ∧
      w'.os = w.os ∧ w'.tape = w.tape ∧ w'.output = w.output ∧ w'.heap.size = w.heap.size ∧ (∀ δ, AlOK δ t → AlOK δ td) ∧ (∀ L, rin L t.er = true → rin L td.er = true) ∧
      ((((row.map DV.er).drop j).take ds.length).all leafy = true → ∀ q v bx k rows, subD t q = some (.own v bx k rows) → ∃ rows', subD td q = some (.own v bx k rows')) := by
  induction ds with
  | nil =>
    intro w t F Fd p v bx k i j b rows row t' h hs hb hi hj hok hdis hcell hst m off hm
    simp only [List.map_nil, stC, Option.some.injEq] at hst
    obtain ⟨F1, h1, h2⟩ := h.subD hs
    exact ⟨w, t, F, by simp [storeCells], h, hst, rfl, fun x hx => .inl hx, fun _ _ => rfl, h2 b (node_blk h1 hb).1, rfl, rfl, rfl, rfl, fun _ h => h, fun _ h => h, fun _ q v bx k rows hq => ⟨rows, hq⟩⟩
  | cons d ds ih =>
    intro w t F Fd p v bx k i j b rows row t' h hs hb hi hj hok hdis hcell hst m off hm
    obtain ⟨Fa, Fb, hd, hds, hab, hF⟩ := hok
    simp only [List.length_cons] at hj
    have hjr : j < row.length := by omega
    have hold : row[j]? = some row[j] := List.getElem?_eq_getElem hjr
    obtain ⟨Fn, hn1, hn2⟩ := h.subD hs
    obtain ⟨hFb, arr, E, hbb, harr⟩ := node_blk hn1 hb
    have hFb' := hn2 b hFb
    have hSb : ¬ S b := h.notS b hFb'
    have hne : ∀ x, Fd x → x ≠ b := by rintro x hx rfl; exact hdis x hx hFb'
    have hdmono : Ok (w.setCell ⟨b, i * k + j, none⟩ d.ann) S d Fa := by
      refine hd.mono (fun x hx => setCell_other _ _ _ _ _ ?_) (fun x hx => setCell_other _ _ _ _ _ (hne x ((hF x).2 (.inl hx)))) (fun _ h => h) hd.notS
      rintro rfl; exact hSb hx
    obtain ⟨t1, F1, hput, hok1, hsub1, hann1, _⟩ := h.store p hs hi hold hb hdmono (fun x hx => hdis x ((hF x).2 (.inl hx)))
    simp only [List.map_cons, stC] at hst
    split at hst
    · rename_i t'' hpt
      have hte : t1.er = t'' := by
        obtain ⟨t2, g1, g2⟩ := putD_of_put d h.lfy hpt
        rw [hput] at g1
        obtain rfl := Option.some.inj g1
        exact g2
      subst hte
      have hs1 := putD_sub p hs hi hold hput
      have hi1 : (rows.set i (row.set j d))[i]? = some (row.set j d) := List.getElem?_set_self (List.getElem?_eq_some_iff.1 hi).1
      simp only [List.map_cons, List.all_cons, Bool.and_eq_true] at hcell
      have hdsmono : OkL (w.setCell ⟨b, i * k + j, none⟩ d.ann) S ds Fb := by
        refine hds.mono (fun x hx => setCell_other _ _ _ _ _ ?_) (fun x hx => setCell_other _ _ _ _ _ (hne x ((hF x).2 (.inr hx)))) (fun _ h => h) (Ok_agg_iff.2 hds).notS
        rintro rfl; exact hSb hx
      obtain ⟨w', td, F', hrun, hok', her', hann', hsub', hoth', _, g1, g2, g3, g4, g5, g6, hheads⟩ := ih (off := off) (m := m + 1) (j := j + 1) hok1 hs1 hb hi1 (by simp; omega) hdsmono (by
        intro x hx hx1
        rcases hsub1 x hx1 with h1 | h1
        · exact hdis x ((hF x).2 (.inr hx)) h1
        · exact hab x h1 hx) hcell.2 hst (by omega)
      refine ⟨w', td, F', ?_, hok', her', hann'.trans hann1, ?_, ?_, hFb', g1, g2, g3, by rw [g4]; simp, ?_, ?_, ?_⟩
      · have hst1 := run_store_cell (P := P) (w := w) (off := i * k + j) (v := d.ann) hbb (harr i j row _ hi hold) (plain_of_cell hd hcell.1)
        simp only [List.map_cons, storeCells, Sem.run_bind, Addr.add_lit, hm, hst1, Result.andThen_ok, hrun]
      · intro x hx
        rcases hsub' x hx with h1 | h1
        · rcases hsub1 x h1 with h2 | h2
          · exact .inl h2
          · exact .inr ((hF x).2 (.inl h2))
        · exact .inr ((hF x).2 (.inr h1))
      · intro x hx
        rw [hoth' x hx, setCell_other _ _ _ _ _ hx]
      · intro δ hal
        refine g5 δ (putD_al _ hput hal ?_)
        exact AlOK_cells (ds := [d]) (by simpa using hcell.1) d (by simp)
      · intro L hL
        refine g6 L (putD_rin _ hput hL ?_)
        exact cell_rin hcell.1
      · intro hall q v' bx' k' rows' hq
        have hdrop : (row.map DV.er).drop j = (row[j]).er :: (row.map DV.er).drop (j + 1) := by
          rw [List.drop_eq_getElem_cons (by simpa using hjr)]; simp
        rw [hdrop] at hall
        simp only [List.length_cons, List.take_succ_cons, List.all_cons, Bool.and_eq_true] at hall
        have hleaf : ∃ a v, row[j] = .lf a v := by
          have hl := (h.lfy.subD hs)
          cases hl with
          | own _ _ _ _ hr =>
            have := hr i j row _ hi hold
            have h0 := hall.1
            cases hd' : row[j] with
            | lf a v => exact ⟨a, v, rfl⟩
            | own => rw [hd'] at h0; simp [leafy] at h0
            | agg => rw [hd'] at h0; simp [leafy] at h0
            | tup => rw [hd'] at h0; simp [leafy] at h0
        obtain ⟨a0, v0, hlf⟩ := hleaf
        have holdsub : subD t (p ++ [(i, j, k)]) = some (.lf a0 v0) := by rw [subD_append, hs]; simp [subD, hi, hold, hlf]
        obtain ⟨rows1, hq1⟩ := subD_putD_own _ hput holdsub (by simp) (by simp) (by simp) q v' bx' k' rows' hq
        refine hheads ?_ q v' bx' k' rows1 hq1
        rw [List.map_set, List.drop_set_of_lt (by omega)]
        exact hall.2
    · cases hst

theorem runs_st (h : St G w S δ Fr) {a : Act} (ha : Rd δ a) {o : Oper} {t : TypeId} {x u : Operand} {n : Nat} {y z : Ar} (hd : DstOK G a o none) (ho : o.op = .store t x u) (hn : szOf P t = some n) (hc : chkA x y = true) (hc2 : chkA u z = true) {σ' : Sg}
    (he : eff G (.st n y z) none (fun s => (δ s).er) = some σ') : Runs P G w S Fr a o σ' := by
  obtain ⟨hy, hev⟩ := chkA_sound hc ha
  obtain ⟨hz, hev2⟩ := chkA_sound hc2 ha
  simp only [eff] at he
  split at he
  · rename_i v τ ht
    obtain ⟨δ1, F1, D, Ff, hfl, her, hDe, hDa⟩ := h.tk hz ht
    subst her
    subst hDe
    split at he
    · rename_i r p i j k hadr
      cases y with
      | c c => simp [adrOf] at hadr
      | t s =>
        obtain ⟨vh, bx, rowsD, b, Fx, hsub, hb, hp, hok, _⟩ := hfl.st.adrOf hadr
        split at he
        · rename_i bx' k' rows hn'
          obtain ⟨D', hD', hDe'⟩ := subD_of_sub (hfl.st.ok r).lfy hn'
          rw [hsub] at hD'
          obtain rfl := Option.some.inj hD'
          simp only [er_own, AV.own.injEq] at hDe'
          obtain ⟨rfl, rfl, rfl⟩ := hDe'
          split at he
          · rename_i row hrow
            rw [List.getElem?_map, Option.map_eq_some_iff] at hrow
            obtain ⟨rowD, hrD, rfl⟩ := hrow
            split at he
            · rename_i hcond
              obtain ⟨hlen, hcell, hjn⟩ := hcond
              split at he
              · rename_i t' hst
                have hm := cellsD_er D hfl.ok.lfy
                have hl : (cellsD D).length = n := by rw [← hlen, ← hm]; simp
                have hcs := cellsD_ann hfl.ok hcell
                rw [← hm] at hst hcell
                obtain ⟨w', td, F', hrun, hok', her', hann', hsub', hoth', hFb, g1, g2, g3, g4, g5, g6, hheads⟩ := stC_sound (P := P) (cellsD D) (hfl.st.ok r) hsub hb hrD (by rw [hl]; simpa using hjn) (cellsD_ok hfl.ok) (fun x hx hx' => hfl.dis r x hx' hx) hcell hst 0 (i * k + j) rfl
                have hS : ∀ x, S x → w'.heap[x]? = w.heap[x]? := fun x hx => hoth' x (by rintro rfl; exact (hfl.st.ok r).notS _ hFb hx)
                have hF : ∀ s, s ≠ r → ∀ x, F1 s x → w'.heap[x]? = w.heap[x]? := fun s hs x hx => hoth' x (by rintro rfl; exact hs (hfl.st.dis s r _ hx hFb))
                have hdis : ∀ s, s ≠ r → ∀ x, F' x → ¬ F1 s x := by
                  intro s hs x hx hx'
                  rcases hsub' x hx with h1 | h1
                  · exact hs (hfl.st.dis s r x hx' h1)
                  · exact hfl.dis s x hx' h1
                have hexec : (execOp a.eval o).run P w = .ok .skip w' := by
                  have hsz : ¬ ((argv δ z).cells.size ≠ n) := by rw [← hDa, hcs]; simp [hl]
                  have hpt : argv δ (.t s) = .pointer (some ⟨b, i * k + j, none⟩) := by simp only [argv]; rw [← hfl.ann s]; exact hp
                  have hcl : (argv δ z).cells.toList = (cellsD D).map DV.ann := by rw [← hDa, hcs]
                  simp only [execOp, ho, hev, hev2, hpt, Instr.storeAt, Instr.sureAddr, storeVar, Sem.run_bind, Sem.run_pure, Result.andThen_ok, run_sizeOf hn, Sem.run_ite, hsz, if_false, hcl, hrun]
                have hrd : ∀ (δ' : Nat → DV), (∀ s, (δ' s).ann = (δ1 s).ann) → Rd δ' (a.put o.dst undef) := by
                  intro δ' hδ s
                  have h0 : o.dst = none := hd
                  rw [h0]
                  simp only [Act.put]
                  rw [hδ, hfl.ann]; exact ha s
                have hnx : ∀ F2 : Nat → Nat → Prop, (∀ x, Owned F2 x → Owned F1 x ∨ Ff x) → Nx w S (Owned Fr) w' S (Owned F2) := by
                  intro F2 hF2
                  refine ⟨g1, g2, g3, by omega, ?_, fun _ h => h, fun _ h => .inl h, fun hl b hb => by rw [g4]; exact hl b hb, fun x hx => .inl (hfl.own x (hF2 x hx))⟩
                  intro x _ hU
                  refine hoth' x ?_
                  rintro rfl
                  exact hU (hfl.own _ (.inl ⟨r, hFb⟩))
                have hF2 : ∀ x, Owned (upd F1 r F') x → Owned F1 x ∨ Ff x := by
                  rintro x ⟨s, hx⟩
                  by_cases e : s = r
                  · subst e; rw [upd_same] at hx; exact (hsub' x hx).imp (fun h => ⟨s, h⟩) id
                  · rw [upd_ne _ _ e] at hx; exact .inl ⟨s, hx⟩
                have halt : AlOK δ1 td := g5 δ1 (hfl.st.al r)
                have hrt : rin (G.rtOf r) td.er = true := g6 _ (hfl.st.rt r)
                split at he
                · rename_i hall
                  simp only [Option.some.injEq] at he
                  subst he
                  refine ⟨.skip, undef, w', S, upd δ1 r td, upd F1 r F', hexec, .inr ⟨rfl, rfl⟩, hrd _ ?_, ?_, hfl.st.poke r td F' hS hF hok' hdis hrt halt (hheads (by rw [hl]; exact hall)), hnx _ hF2⟩
                  · intro s'
                    by_cases e : s' = r
                    · subst e; rw [upd_same, hann']
                    · rw [upd_ne _ _ e]
                  · funext s'
                    by_cases e : s' = r
                    · subst e; simp only [upd_same, her']
                    · simp only [upd_ne _ _ e]
                · simp only [Option.some.injEq] at he
                  subst he
                  refine ⟨.skip, undef, w', S, upd (killδ G r δ1) r td, upd F1 r F', hexec, .inr ⟨rfl, rfl⟩, hrd _ ?_, ?_, hfl.st.set r td F' hS hF (fun _ h => h) (fun s _ x hx => (hfl.st.ok s).notS x hx) hok' hdis hrt halt, hnx _ hF2⟩
                  · intro s'
                    rw [ann_upd_kill hfl.st]
                    split
                    · rename_i e; rw [e, hann']
                    · rfl
                  · rw [er_upd_kill hfl.st, her']
              · cases he
            · cases he
          · cases he
        · cases he
    · cases he
  · cases he
end Go.Abs
namespace Go.Abs
variable {w w' : World} {S S' : Nat → Prop} {G : Gi} {δ : Nat → DV} {Fr : Nat → Nat → Prop} {P : Program}

def Reads (w : World) (v : Value) (n : Nat) (vs : List Value) : Prop := (∃ a c, v = .slice a 0 c ∧ n = 0 ∧ vs = []) ∨ ∃ b off c, v = .slice (some ⟨b, off, none⟩) n c ∧ ∀ (j : Nat) u, vs[j]? = some u → w.cell? ⟨b, off + j, none⟩ = some u

theorem run_first {size n : Nat} {v : Value} {vs : List Value} (h : Reads w v n vs) (hl : vs.length = n * size) : (Builtin.firstCells size n v).run P w = .ok vs.toArray w := by
  rcases h with ⟨a, c, rfl, rfl, rfl⟩ | ⟨b, off, c, rfl, hc⟩
  · cases a <;> simp [Builtin.firstCells, loadCells, loadCellsFrom]
  · exact run_firstCells_some (P := P) w size n ⟨b, off, none⟩ n c vs hl (fun j u hu => by rw [Addr.add_lit]; exact hc j u hu)

theorem Reads.drew {v : Value} {n : Nat} {vs : List Value} (h : Reads w v n vs) : Reads w.drew v n vs := h

theorem Reads.len {v : Value} {n : Nat} {vs : List Value} (h : Reads w v n vs) : ∃ ad c, v = .slice ad n c := by
  rcases h with ⟨a, c, rfl, rfl, rfl⟩ | ⟨b, off, c, rfl, hc⟩
  · exact ⟨a, c, rfl⟩
  · exact ⟨_, c, rfl⟩

theorem run_app_grow {t ty e : TypeId} {i : TypeInfo} {z : Value} (ht : P.underlying t = some (.slice e)) (hi : P.info? e = some i) (hz : i.zero = some z) {base : Option Addr} {n sCap m : Nat} {v : Value} {olds news : List Value}
    (hx : Reads w (.slice base n sCap) n olds) (ho : olds.length = n * i.size) (hy : Reads w v m news) (hn : news.length = m * i.size) (hg : sCap < n + m) (hfit : (n + m) * i.bytes ≤ 70368744177664) (h63 : n + m ≤ 9223372036854775807) :
    (Builtin.append_ #[t, t] ty #[.slice base n sCap, v]).run P w = .ok (.slice (some ⟨w.heap.size, 0, none⟩) (n + m) (grownCap w (n + m) sCap e)) (w.drew.alloc (.cells ((olds ++ news).toArray ++ Builtin.zeroCells z.cells (grownCap w (n + m) sCap e - (n + m))) e)) := by
  obtain ⟨ad, c, rfl⟩ := hy.len
  have hnn : ¬ (n + m ≤ sCap) := by omega
  have h63' : ¬ (9223372036854775807 < ((n : Int) + (m : Int))) := by omega
  have h48' : ¬ (281474976710656 < Builtin.nextslicecap (n + m) sCap * i.bytes) := by have := growslice_fits (bytes := i.bytes) hg (by omega); omega
  have hf := run_first (P := P) hy.drew hn
  have hfo := run_first (P := P) hx.drew ho
  simp [Builtin.append_, run_underlying ht, sizeOf, typeInfo, zeroValue, hi, hz, Builtin.lenOf, hnn, h63', h48', Question.forced, hf, hfo, newRow, grownCap]
  congr 2
  apply Array.ext'
  simp [List.append_assoc]

theorem run_app_room {t ty e E : TypeId} {i : TypeInfo} (ht : P.underlying t = some (.slice e)) (hi : P.info? e = some i) {g n sCap m : Nat} {v : Value} {news : List Value} {cur : Array Value} (hgb : w.heap[g]? = some (.cells cur E (0, 0)))
    (hy : Reads w v m news) (hn : news.length = m * i.size) (hp : ∀ u ∈ news, u.oneCell' = true) (hroom : n + m ≤ sCap) (hfit : n * i.size + news.length ≤ cur.size) :
    (Builtin.append_ #[t, t] ty #[.slice (some ⟨g, 0, none⟩) n sCap, v]).run P w = .ok (.slice (some ⟨g, 0, none⟩) (n + m) sCap) (w.setRow g (cur.toList.take (n * i.size) ++ news ++ cur.toList.drop (n * i.size + news.length)).toArray) := by
  obtain ⟨ad, c, rfl⟩ := hy.len
  have hf := run_first (P := P) hy hn
  have hst := run_storeCells_at P g (n * i.size) E news 0 cur w hgb (by simpa using hfit) hp
  simp only [Nat.add_zero] at hst
  simp [Builtin.append_, run_underlying ht, sizeOf, typeInfo, hi, Builtin.lenOf, hroom, hf, Addr.add_lit, hst]

theorem run_app_none {t ty e : TypeId} {i : TypeInfo} (ht : P.underlying t = some (.slice e)) (hi : P.info? e = some i) {c : Nat} {v : Value} (hy : Reads w v 0 []) :
    (Builtin.append_ #[t, t] ty #[.slice none 0 c, v]).run P w = .ok (.slice none 0 c) w := by
  obtain ⟨ad, c', rfl⟩ := hy.len
  have hf := run_first (P := P) (size := i.size) hy (by simp)
  simp [Builtin.append_, run_underlying ht, sizeOf, typeInfo, hi, Builtin.lenOf, hf]

theorem plain_one {v : Value} (h : plainV v = true) : v.oneCell' = true := by cases v <;> simp_all [plainV, Value.oneCell']

theorem frozenRows {x : Bool} {k : Nat} {rows : List (List AV)} {v : Value} (h : Fz w S (.sl x k rows) v) :
    ∃ ds : List (List DV), ds.map (·.map DV.er) = rows.map (·.map plainC) ∧ (∀ r ∈ ds, r.length = k) ∧ OkL w S ds.flatten (fun _ => False) ∧ Reads w v ds.length (ds.flatten.map DV.ann) ∧ ds.length = rows.length := by
  cases h with
  | nil x k a c hx =>
    exact ⟨[], by simp, by simp, fun _ h => h, .inl ⟨a, c, rfl, rfl, rfl⟩, rfl⟩
  | sl x k rows b off c vs hx hlc hS hk hc hr =>
    obtain ⟨ds, hl, hds⟩ := mkList rows (fun i row (drow : List DV) => drow.map DV.er = row.map plainC ∧ drow.length = k ∧ (∀ d ∈ drow, Ok w S d (fun _ => False)) ∧ ∀ (j : Nat) d, drow[j]? = some d → w.cell? ⟨b, off + (i * k + j), none⟩ = some d.ann) (by
      intro i row hi
      obtain ⟨dr, hl, hdr⟩ := mkList row (fun j a (d : DV) => d.er = plainC a ∧ Ok w S d (fun _ => False) ∧ w.cell? ⟨b, off + (i * k + j), none⟩ = some d.ann) (by
        intro j a hj
        obtain ⟨D, h1, h2, h3, _⟩ := frozenLeaf (δ := fun _ => default) (hr i j row a hi hj)
        exact ⟨D, h1, h3, by rw [h2]; exact hc i j row a hi hj⟩)
      refine ⟨dr, ?_, by rw [hl]; exact hk row (List.mem_of_getElem? hi), ?_, ?_⟩
      · exact map_mk hl hdr _ _ (by simp) fun j a d hΦ ha => by simp [ha, hΦ.1]
      · intro d hd; obtain ⟨j, hj⟩ := List.getElem?_of_mem hd; obtain ⟨a, _, hΦ⟩ := mem_mk hl hdr j d hj; exact hΦ.2.1
      · intro j d hd; obtain ⟨a, _, hΦ⟩ := mem_mk hl hdr j d hd; exact hΦ.2.2)
    have hkd : ∀ r ∈ ds, r.length = k := by
      intro r hr'
      obtain ⟨i, hi⟩ := List.getElem?_of_mem hr'
      obtain ⟨c, _, hΦ⟩ := mem_mk hl hds i r hi
      exact hΦ.2.1
    refine ⟨ds, ?_, hkd, OkL_empty ?_, .inr ⟨b, off, c, by rw [hl], ?_⟩, hl⟩
    · exact map_mk hl hds _ _ (by simp) fun i row dr hΦ hrow => by simp [hrow, hΦ.1]
    · intro d hd
      rw [List.mem_flatten] at hd
      obtain ⟨r, hr', hd⟩ := hd
      obtain ⟨i, hi⟩ := List.getElem?_of_mem hr'
      obtain ⟨c, _, hΦ⟩ := mem_mk hl hds i r hi
      exact hΦ.2.2.1 d hd
    · intro n u hu
      rw [List.getElem?_map, Option.map_eq_some_iff] at hu
      obtain ⟨d, hd, rfl⟩ := hu
      have hlt : n < ds.length * k := by rw [← flatten_length hkd]; exact (List.getElem?_eq_some_iff.1 hd).1
      have hk0 : 0 < k := by rcases Nat.eq_zero_or_pos k with h | h; · subst h; simp at hlt
                             · exact h
      have hi : n / k < ds.length := Nat.div_lt_of_lt_mul (by rw [Nat.mul_comm]; exact hlt)
      have hj : n % k < (ds[n / k]).length := by rw [hkd _ (List.getElem_mem hi)]; exact Nat.mod_lt _ hk0
      have h1 := flatten_get hkd (List.getElem?_eq_getElem hi) (List.getElem?_eq_getElem hj)
      rw [Nat.mul_comm, Nat.div_add_mod, hd] at h1
      obtain rfl := Option.some.inj h1
      obtain ⟨c, _, hΦ⟩ := mem_mk hl hds _ _ (List.getElem?_eq_getElem hi)
      have := hΦ.2.2.2 _ _ (List.getElem?_eq_getElem hj)
      rw [show n / k * k + n % k = n from by rw [Nat.mul_comm]; exact Nat.div_add_mod n k] at this
      exact this

theorem plainC_id {rows : List (List AV)} (h : rows.all (·.all plainA) = true) : rows.map (·.map plainC) = rows := by
  rw [List.all_eq_true] at h
  conv => rhs; rw [← List.map_id rows]
  apply List.map_congr_left
  intro r hr
  have h1 := h r hr
  rw [List.all_eq_true] at h1
  conv => rhs; rw [id, ← List.map_id r]
  apply List.map_congr_left
  intro a ha
  have := h1 a ha
  cases a <;> simp_all [plainA, plainC]

theorem plain_rows {ds : List (List DV)} {F : Nat → Prop} (h : OkL w S ds.flatten F) (hc : (ds.map (·.map DV.er)).all (·.all cellA) = true) : ∀ d ∈ ds.flatten, plainV d.ann = true := by
  intro d hd
  obtain ⟨Fs, h1, _, _, _⟩ := OkL_iff.1 h
  obtain ⟨n, hn⟩ := List.getElem?_of_mem hd
  refine plain_of_cell (h1 n d hn) ?_
  rw [List.mem_flatten] at hd
  obtain ⟨r, hr, hd⟩ := hd
  rw [List.all_eq_true] at hc
  have := hc (r.map DV.er) (List.mem_map_of_mem hr)
  rw [List.all_eq_true] at this
  exact this d.er (List.mem_map_of_mem hd)

theorem plainA_cellA {rows : List (List AV)} (h : rows.all (·.all plainA) = true) : rows.all (·.all cellA) = true := by
  rw [List.all_eq_true] at h ⊢
  intro r hr
  have := h r hr
  rw [List.all_eq_true] at this ⊢
  intro a ha
  have := this a ha
  cases a <;> simp_all [plainA, cellA]

theorem own_reads {v : Value} {k : Nat} {rows : List (List DV)} {F : Nat → Prop} (h : Ok w S (.own v false k rows) F) : Reads w v rows.length (rows.flatten.map DV.ann) ∧ (∀ r ∈ rows, r.length = k) ∧ ∃ Fc, OkL w S rows.flatten Fc ∧ ∀ x, Fc x → F x := by
  rcases own_parts h with ⟨rfl, _, rfl, hF⟩ | ⟨b, c, arr, E, Fc, rfl, hb, hk, hcap, hS, hok, hbF, hF, ha⟩
  · exact ⟨.inl ⟨none, 0, rfl, rfl, rfl⟩, by simp, fun _ => False, fun _ h => h, fun _ h => h.elim⟩
  · refine ⟨.inr ⟨b, 0, c, by simp [hdr], ?_⟩, hk, Fc, hok, fun x hx => (hF x).2 (.inr hx)⟩
    intro n u hu
    rw [List.getElem?_map, Option.map_eq_some_iff] at hu
    obtain ⟨d, hd, rfl⟩ := hu
    simp [World.cell?, hb, ha n d hd]

theorem St.appY (h : St G w S δ Fr) {y : Ar} {k : Nat} {ys : List (List AV)} {τ : Sg} (hy : ArOK y) (he : Abs.appY G k y (fun s => (δ s).er) = some (ys, τ)) :
    ∃ (S1 : Nat → Prop) (δ1 : Nat → DV) (F1 : Nat → Nat → Prop) (ysD : List (List DV)) (Fy : Nat → Prop), St G w S1 δ1 F1 ∧ (fun s => (δ1 s).er) = τ ∧ (∀ s, (δ1 s).ann = (δ s).ann) ∧ ysD.map (·.map DV.er) = ys ∧ (∀ r ∈ ysD, r.length = k) ∧
      OkL w S1 ysD.flatten Fy ∧ Reads w (argv δ y) ysD.length (ysD.flatten.map DV.ann) ∧ (∀ d ∈ ysD.flatten, plainV d.ann = true) ∧ (∀ s x, F1 s x → ¬ Fy x) ∧ Nx w S (Owned Fr) w S1 (fun x => Owned F1 x ∨ Fy x) := by
  cases y with
  | c c =>
    simp only [Abs.appY] at he
    split at he
    · rename_i kk
      simp only [Option.some.injEq, Prod.mk.injEq] at he
      obtain ⟨rfl, rfl⟩ := he
      exact ⟨S, δ, Fr, [], fun _ => False, h, rfl, fun _ => rfl, rfl, by simp, fun _ h => h, .inl ⟨none, 0, by simp [argv, cstD], rfl, rfl⟩, by simp, fun _ _ _ h => h, Nx.less fun x hx => hx.elim id False.elim⟩
    · cases he
  | t s =>
    simp only [Abs.appY] at he
    cases hs : (δ s).er with
    | own b k' rows =>
      cases b with
      | true => simp [hs] at he
      | false =>
        simp only [hs] at he
        split at he
        · rename_i hcond
          obtain ⟨rfl, hcell⟩ := hcond
          simp only [Option.some.injEq, Prod.mk.injEq] at he
          obtain ⟨rfl, rfl⟩ := he
          obtain ⟨rowsD, hd, hm⟩ := h.nodeS hs
          have hok := h.ok s
          rw [hd] at hok
          obtain ⟨hrd, hk, Fc, hokc, hsub⟩ := own_reads hok
          refine ⟨S, _, _, rowsD, Fc, h.empty s, by rw [er_upd_kill h]; simp, ?_, hm, hk, hokc, hrd, plain_rows hokc (by rw [hm]; exact hcell), ?_, Nx.less ?_⟩
          · intro t; rw [ann_upd_kill h]; split
            · rename_i e; rw [e]; simp
            · rfl
          · intro t x hx hf
            by_cases e : t = s
            · subst e; rw [upd_same] at hx; exact hx
            · rw [upd_ne _ _ e] at hx; exact e (h.dis t s x hx (hsub x hf))
          · rintro x (⟨t, hx⟩ | hx)
            · by_cases e : t = s
              · subst e; rw [upd_same] at hx; exact hx.elim
              · rw [upd_ne _ _ e] at hx; exact ⟨t, hx⟩
            · exact ⟨s, hsub x hx⟩
        · cases he
    | sl ee k' rows =>
      simp only [hs] at he
      split at he
      · rename_i hcond
        obtain ⟨rfl, hpl⟩ := hcond
        simp only [Option.some.injEq, Prod.mk.injEq] at he
        obtain ⟨rfl, rfl⟩ := he
        obtain ⟨ds, h1, h2, h3, h4, h5⟩ := frozenRows (h.leaf hs rfl).2.1
        rw [plainC_id hpl] at h1
        exact ⟨S, δ, Fr, ds, fun _ => False, h, rfl, fun _ => rfl, h1, h2, h3, h4, plain_rows h3 (by rw [h1]; exact plainA_cellA hpl), fun _ _ _ h => h, Nx.less fun x hx => hx.elim id False.elim⟩
      · cases he
    | al r p =>
      simp only [hs] at he
      split at he
      · rename_i ee k' rows τ' hfz
        split at he
        · rename_i hcond
          obtain ⟨rfl, hpl⟩ := hcond
          simp only [Option.some.injEq, Prod.mk.injEq] at he
          obtain ⟨rfl, rfl⟩ := he
          obtain ⟨δ1, F1, Fo, v, bx, kk, rowsD, hst, her, hann, hsub, hf, hfe, hdis, hown, _⟩ := h.fzAt hfz
          obtain ⟨_, _, hal⟩ := h.leaf hs rfl
          obtain ⟨bx', k2, rows', hl⟩ := hal
          rw [hsub] at hl
          simp only [Option.some.injEq, DV.own.injEq] at hl
          obtain ⟨ds, h1, h2, h3, h4, h5⟩ := frozenRows hf
          rw [plainC_id hpl] at h1
          refine ⟨_, δ1, F1, ds, fun _ => False, hst, her, hann, h1, h2, h3, by rw [hl.1] at h4; exact h4, plain_rows h3 (by rw [h1]; exact plainA_cellA hpl), fun _ _ _ h => h, Nx.frz ?_ ?_⟩
          · intro x hx; exact hown x (hx.imp (fun h => h.elim id False.elim) id)
          · intro x hx; obtain ⟨t, ht⟩ := hown x (.inr hx); exact (h.ok t).lt x ht
        · cases he
      · cases he
    | _ => simp [hs] at he

theorem St.appX (h : St G w S δ Fr) {x : Ar} {k : Nat} {n : AV} {τ : Sg} (hx : ArOK x) (he : Abs.appX G k x (fun s => (δ s).er) = some (n, τ)) :
    (∃ rows, n = .own false k rows ∧ ∃ (δ1 : Nat → DV) (F1 : Nat → Nat → Prop) (rowsD : List (List DV)) (Ff : Nat → Prop), St G w S δ1 F1 ∧ (fun s => (δ1 s).er) = τ ∧ (∀ s, (δ1 s).ann = (δ s).ann) ∧ rowsD.map (·.map DV.er) = rows ∧ Ok w S (.own (argv δ x) false k rowsD) Ff ∧
      (∀ s x, F1 s x → ¬ Ff x) ∧ (∀ x, Owned F1 x ∨ Ff x → Owned Fr x)) ∨
    (∃ rows, n = .sl true k rows ∧ τ = (fun s => (δ s).er) ∧ rows.all (·.all plainA) = true ∧ Fz w S (.sl true k rows) (argv δ x)) := by
  cases x with
  | c c =>
    simp only [Abs.appX] at he
    split at he
    · rename_i kk
      simp only [Option.some.injEq, Prod.mk.injEq] at he
      obtain ⟨rfl, rfl⟩ := he
      exact .inl ⟨[], rfl, δ, Fr, [], fun _ => False, h, rfl, fun _ => rfl, rfl, by simpa [argv, cstD] using Ok.nil k _ (fun _ h => h), fun _ _ _ h => h, fun x hx => hx.elim id False.elim⟩
    · cases he
  | t s =>
    simp only [Abs.appX] at he
    cases hs : (δ s).er with
    | own b k' rows =>
      cases b with
      | true => simp [hs] at he
      | false =>
        simp only [hs] at he
        split at he
        · rename_i hk
          subst hk
          simp only [Option.some.injEq, Prod.mk.injEq] at he
          obtain ⟨rfl, rfl⟩ := he
          obtain ⟨rowsD, hd, hm⟩ := h.nodeS hs
          have hok := h.ok s
          rw [hd] at hok
          refine .inl ⟨rows, rfl, _, _, rowsD, Fr s, h.empty s, by rw [er_upd_kill h]; simp, ?_, hm, by simpa [argv] using hok, ?_, ?_⟩
          · intro t; rw [ann_upd_kill h]; split
            · rename_i e; rw [e]; simp
            · rfl
          · intro t x hx hf
            by_cases e : t = s
            · subst e; rw [upd_same] at hx; exact hx
            · rw [upd_ne _ _ e] at hx; exact e (h.dis t s x hx hf)
          · rintro x (⟨t, hx⟩ | hx)
            · by_cases e : t = s
              · subst e; rw [upd_same] at hx; exact hx.elim
              · rw [upd_ne _ _ e] at hx; exact ⟨t, hx⟩
            · exact ⟨s, hx⟩
        · cases he
    | sl ee k' rows =>
      cases ee with
      | false => simp [hs] at he
      | true =>
        simp only [hs] at he
        split at he
        · rename_i hcond
          obtain ⟨rfl, hpl⟩ := hcond
          simp only [Option.some.injEq, Prod.mk.injEq] at he
          obtain ⟨rfl, rfl⟩ := he
          exact .inr ⟨rows, rfl, rfl, hpl, (h.leaf hs rfl).2.1⟩
        · cases he
    | al r p =>
      simp only [hs] at he
      split at he
      · rename_i k' rows τ' ht
        split at he
        · rename_i hk
          subst hk
          simp only [Option.some.injEq, Prod.mk.injEq] at he
          obtain ⟨rfl, rfl⟩ := he
          obtain ⟨δ1, F1, D, Ff, hst, her, hann, hD, hDe, ⟨v, bx, kk, rowsD, rfl⟩, hsub, hdis, hown, _, _⟩ := h.tk1 ht
          simp only [er_own, AV.own.injEq] at hDe
          obtain ⟨rfl, rfl, hm⟩ := hDe
          obtain ⟨_, _, hal⟩ := h.leaf hs rfl
          obtain ⟨bx', k2, rows', hl⟩ := hal
          rw [hsub] at hl
          simp only [Option.some.injEq, DV.own.injEq] at hl
          exact .inl ⟨rows, rfl, δ1, F1, rowsD, Ff, hst, her, hann, hm, by rw [show argv δ (.t s) = v from hl.1.symm]; exact hD, hdis, hown⟩
        · cases he
      · cases he
    | _ => simp [hs] at he
end Go.Abs
namespace Go.Abs
variable {w w' : World} {S S' : Nat → Prop} {G : Gi} {δ : Nat → DV} {Fr : Nat → Nat → Prop} {P : Program}

theorem runs_grown {S1 : Nat → Prop} {U1 : Nat → Prop} {δ1 : Nat → DV} {F1 : Nat → Nat → Prop} {a : Act} {o : Oper} {d : Dst} {σ' : Sg} {k c : Nat} {rows : List (List DV)} {Fd : Nat → Prop} {arr : Array Value} {E : TypeId} (h : St G w S1 δ1 F1) (hSlt : ∀ b, S1 b → b < w.heap.size) (ha : Rd δ1 a)
    (hd : DstOK G a o (some d)) (hr : (execOp a.eval o).run P w = .ok (.value (.slice (some ⟨w.heap.size, 0, none⟩) rows.length c)) w') (hheap : w'.heap = w.heap.push (.cells arr E)) (hos : w'.os = w.os) (htp : w'.tape = w.tape) (hou : w'.output = w.output)
    (hok : OkL w S1 rows.flatten Fd) (hdis : ∀ s x, F1 s x → ¬ Fd x) (hk : ∀ row ∈ rows, row.length = k)
    (hcap : c * k = arr.size ∧ rows.length ≤ c) (hv : ∀ (n : Nat) d, rows.flatten[n]? = some d → arr[n]? = some d.ann)
    (hwr : wr d (.own false k (rows.map (·.map DV.er))) (fun s => (δ1 s).er) = some σ') (hown : ∀ x, Owned F1 x ∨ Fd x → U1 x) (hnx0 : Nx w S (Owned Fr) w S1 U1) : Runs P G w S Fr a o σ' := by
  have hlt := (Ok_agg_iff.2 hok).lt
  have hnS := (Ok_agg_iff.2 hok).notS
  have hold : ∀ b, b < w.heap.size → w'.heap[b]? = w.heap[b]? := fun b hb => by rw [hheap, Array.getElem?_push, if_neg (by omega)]
  have hnew : w'.heap[w.heap.size]? = some (.cells arr E (0, 0)) := by rw [hheap]; simp
  have hnode : Ok w' S1 (.own (hdr false w.heap.size rows.length c) false k rows) (fun x => x = w.heap.size ∨ Fd x) := by
    refine own_mk hnew hk (by simpa using hcap) (fun hs => by have := hSlt _ hs; omega) ?_ (fun hs => by have := hlt _ hs; omega) hv
    exact hok.mono (fun b hb => hold b (hSlt b hb)) (fun b hb => hold b (hlt b hb)) (fun _ h => h) hnS
  refine runs_of (D := .own (hdr false w.heap.size rows.length c) false k rows) h ha hd (by simpa [hdr] using hr) (fun b hb => hold b (hSlt b hb)) (fun s x hx => hold x ((h.ok s).lt x hx)) (fun _ h => h) (fun s x hx => (h.ok s).notS x hx) hnode ?_ (.own _ _ _ _) (by simpa using hwr) ?_
  · rintro s x hx (rfl | hf)
    · have := (h.ok s).lt _ hx; omega
    · exact hdis s x hx hf
  · refine hnx0.trans ⟨hos, htp, hou, by rw [hheap]; simp, fun b hb _ => hold b hb, fun _ h => h, fun _ h => .inl h, fun hl b hb => by rw [hheap]; have := hl b hb; simp; omega, ?_⟩
    rintro x (hx | rfl | hx)
    · exact .inl (hown x (.inl hx))
    · exact .inr (Nat.le_refl _)
    · exact .inl (hown x (.inr hx))

theorem run_app_zero {t ty e : TypeId} {i : TypeInfo} (ht : P.underlying t = some (.slice e)) (hi : P.info? e = some i) {base : Option Addr} {n c : Nat} (hnc : n ≤ c) {v : Value} (hy : Reads w v 0 []) :
    (Builtin.append_ #[t, t] ty #[.slice base n c, v]).run P w = .ok (.slice base n c) w := by
  obtain ⟨ad, c', rfl⟩ := hy.len
  have hf := run_first (P := P) (size := i.size) hy (by simp)
  cases base <;> simp [Builtin.append_, run_underlying ht, sizeOf, typeInfo, hi, Builtin.lenOf, hf, hnc, storeCells]

theorem grown_size {z : Value} {k n m cap : Nat} {xs ys : List Value} (hz : z.cells.size = k) (hx : xs.length = n * k) (hy : ys.length = m * k) (hc : n + m ≤ cap) : cap * k = ((xs ++ ys).toArray ++ Builtin.zeroCells z.cells (cap - (n + m))).size := by
  simp only [Array.size_append, List.size_toArray, List.length_append, size_zeroCells, hx, hy, hz, ← Nat.add_mul]
  congr 1
  omega

theorem runs_app (h : St G w S δ Fr) (hSlt : ∀ b, S b → b < w.heap.size) {a : Act} (ha : Rd δ a) {o : Oper} {c : Call} {u v : Operand} {t e : TypeId} {i : TypeInfo} {z : Value} {k bytes : Nat} {x y : Ar} {d : Dst} (hd : DstOK G a o (some d)) (ho : o.op = .call c) (hcal : c.callee = .builtin .append) (hargs : c.args = #[u, v]) (hty : c.argTypes = #[t, t])
    (hu : P.underlying t = some (.slice e)) (hi : P.info? e = some i) (hsz : i.size = k) (hby : i.bytes = bytes) (hb0 : 0 < bytes) (hz : i.zero = some z) (hzk : z.cells.size = k) (hc : chkA u x = true) (hc2 : chkA v y = true) {σ' : Sg}
    (he : eff G (.app k bytes x y) (some d) (fun s => (δ s).er) = some σ') : Runs P G w S Fr a o σ' := by
  obtain ⟨hx, hev⟩ := chkA_sound hc ha
  obtain ⟨hy, hev2⟩ := chkA_sound hc2 ha
  subst hsz
  subst hby
  have hexec : ∀ r w', (Builtin.append_ #[t, t] o.type #[argv δ x, argv δ y]).run P w = .ok r w' → (execOp a.eval o).run P w = .ok (.value r) w' := by
    intro r w' hr
    simp only [execOp, ho, resolve, hcal, hargs, hty, invoke, builtin, Sem.run_bind, Sem.run_pure, Result.andThen_ok, List.map_toArray, List.map_cons, List.map_nil, hev, hev2, hr]
  simp only [eff] at he
  split at he
  · rename_i ys τ hY
    obtain ⟨S1, δ1, F1, ysD, Fy, hst1, her1, hann1, hysm, hyk, hyok, hyr, hypl, hydis, hnx1⟩ := h.appY hy hY
    subst her1
    have hSlt1 := hnx1.lt hSlt
    have hav : argv δ1 x = argv δ x := by cases x <;> simp [argv, hann1]
    have hylen : ysD.length = ys.length := by rw [← hysm]; simp
    split at he
    · -- a node
      rename_i b' k' rows τ' hX
      split at he
      · rename_i hroom
        rcases hst1.appX hx hX with ⟨rows0, hn, δ2, F2, rowsD, Ff, hst2, her2, hann2, hrm, hok, hdis2, hown2⟩ | ⟨_, hn, _⟩
        · simp only [AV.own.injEq] at hn
          obtain ⟨rfl, rfl, rfl⟩ := hn
          subst her2
          have hrl : rowsD.length = rows.length := by rw [← hrm]; simp
          have ha2 : Rd δ2 a := fun s => (ha s).trans ((hann2 s).trans (hann1 s)).symm
          simp only [roomOK, decide_eq_true_eq] at hroom
          rw [← hrl, ← hylen] at hroom
          have h63 : rowsD.length + ysD.length ≤ 9223372036854775807 := by
            have := Nat.le_mul_of_pos_right (rowsD.length + ysD.length) hb0
            omega
          rw [hav] at hok
          obtain ⟨hxr, hxk, Fc', hxok', hsub'⟩ := own_reads hok
          have hxl : (rowsD.flatten.map DV.ann).length = rowsD.length * i.size := by rw [List.length_map, flatten_length hxk]
          have hyl : (ysD.flatten.map DV.ann).length = ysD.length * i.size := by rw [List.length_map, flatten_length hyk]
          have hdy : ∀ x, Owned F2 x ∨ Ff x → ¬ Fy x := by
            intro x hx hfy
            obtain ⟨s, hs⟩ := hown2 x hx
            exact hydis s x hs hfy
          have hmapp : (rowsD ++ ysD).map (·.map DV.er) = rows ++ ys := by rw [List.map_append, hrm, hysm]
          have hkk : ∀ r ∈ rowsD ++ ysD, r.length = i.size := by
            intro r hr
            rcases List.mem_append.1 hr with h1 | h1
            · exact hxk r h1
            · exact hyk r h1
          have hU : Nx w S (Owned Fr) w S1 (fun x => Owned F1 x ∨ Fy x) := hnx1
          have hall : ∀ Fc, (∀ x, Fc x → Ff x) → OkL w S1 rowsD.flatten Fc → OkL w S1 (rowsD ++ ysD).flatten (fun x => Fc x ∨ Fy x) := by
            intro Fc hsub hokc
            rw [List.flatten_append]
            exact OkL_append hokc hyok (fun x hx => hdy x (.inr (hsub x hx)))
          have grow : ∀ (base : Option Addr) (n sCap : Nat), argv δ x = .slice base n sCap → n = rowsD.length → sCap < rowsD.length + ysD.length → Runs P G w S Fr a o σ' := by
            intro base n sCap hv hn hlt
            subst hn
            rw [hv] at hxr
            have hrun := run_app_grow (P := P) (ty := o.type) hu hi hz hxr hxl hyr hyl hlt hroom h63
            have hge := grownCap_ge w (rowsD.length + ysD.length) sCap e
            obtain ⟨W1, hW1⟩ : ∃ W1, W1 = w.drew.alloc (.cells ((rowsD.flatten.map DV.ann ++ ysD.flatten.map DV.ann).toArray ++ Builtin.zeroCells z.cells (grownCap w (rowsD.length + ysD.length) sCap e - (rowsD.length + ysD.length))) e) := ⟨_, rfl⟩
            rw [← hW1] at hrun
            refine runs_grown (w' := W1) (Fr := Fr) (U1 := fun x => Owned F1 x ∨ Fy x) (rows := rowsD ++ ysD) (Fd := fun x => Fc' x ∨ Fy x) (arr := (rowsD.flatten.map DV.ann ++ ysD.flatten.map DV.ann).toArray ++ Builtin.zeroCells z.cells (grownCap w (rowsD.length + ysD.length) sCap e - (rowsD.length + ysD.length))) (E := e) hst2 hSlt1 ha2 hd
              (by rw [List.length_append]; exact hexec _ _ (by rw [hv]; exact hrun)) (by rw [hW1]; rfl) (by rw [hW1]; rfl) (by rw [hW1]; rfl) (by rw [hW1]; rfl) (hall Fc' hsub' hxok') ?_ hkk ⟨grown_size hzk hxl hyl hge, by simpa using hge⟩ ?_ (by rw [hmapp]; exact he) ?_ hU
            · rintro s x hx (h1 | h1)
              · exact hdis2 s x hx (hsub' x h1)
              · exact hdy x (.inl ⟨s, hx⟩) h1
            · intro n d hn
              rw [List.flatten_append] at hn
              have hlt : n < (rowsD.flatten ++ ysD.flatten).length := (List.getElem?_eq_some_iff.1 hn).1
              rw [Array.getElem?_append_left (by rw [List.size_toArray, List.length_append, List.length_map, List.length_map, ← List.length_append]; exact hlt), List.getElem?_toArray, ← List.map_append, List.getElem?_map, hn]
              rfl
            · rintro x (hx | h1 | h1)
              · exact .inl (hown2 x (.inl hx))
              · exact .inl (hown2 x (.inr (hsub' x h1)))
              · exact .inr h1
          rcases own_parts hok with ⟨hv, _, hr0, hF0⟩ | ⟨b, cc, arr, E, Fc, hv, hb, hk, hcap, hS, hokc, hbF, hF, harr⟩
          · subst hr0
            by_cases hm : ysD.length = 0
            · have hy0 : ysD = [] := List.eq_nil_of_length_eq_zero hm
              subst hy0
              have hrun := run_app_zero (P := P) (w := w) (ty := o.type) hu hi (base := none) (n := 0) (c := 0) (Nat.le_refl 0) (by simpa using hyr)
              have hys : ys = [] := by rw [← hysm]; rfl
              have hrs : rows = [] := by rw [← hrm]; rfl
              subst hys
              subst hrs
              refine runs_of (D := .own (.slice none 0 0) false i.size []) (Ff := fun _ => False) hst2 ha2 hd (by simpa using hexec _ _ (by rw [hv]; exact hrun)) (fun _ _ => rfl) (fun _ _ _ => rfl) (fun _ h => h) (fun s x hx => (hst2.ok s).notS x hx) (.nil _ _ (fun _ h => h)) (fun _ _ _ h => h) (.own _ _ _ _) (by simpa using he) ?_
              exact hU.trans (Nx.less fun x hx => .inl (hown2 x (.inl (hx.elim id False.elim))))
            · exact grow none 0 0 hv rfl (by omega)
          · by_cases hfit : rowsD.length + ysD.length ≤ cc
            · -- room
              simp only [Bool.false_eq_true, if_false] at hcap
              have hsz2 : rowsD.length * i.size + (ysD.flatten.map DV.ann).length ≤ arr.size := by
                rw [hyl, ← hcap.1, ← Nat.add_mul]; exact Nat.mul_le_mul_right _ hfit
              have hrun := run_app_room (P := P) (ty := o.type) hu hi hb hyr hyl (by
                intro q hq
                obtain ⟨dd, hdd, rfl⟩ := List.mem_map.1 hq
                exact plain_one (hypl dd hdd)) hfit hsz2
              generalize hw' : w.setRow b (arr.toList.take (rowsD.length * i.size) ++ ysD.flatten.map DV.ann ++ arr.toList.drop (rowsD.length * i.size + (ysD.flatten.map DV.ann).length)).toArray = w1 at hrun
              have hheapb : w1.heap[b]? = some (.cells (arr.toList.take (rowsD.length * i.size) ++ ysD.flatten.map DV.ann ++ arr.toList.drop (rowsD.length * i.size + (ysD.flatten.map DV.ann).length)).toArray E (0, 0)) := by rw [← hw']; exact setRow_heap w b arr _ E _ hb
              have hoth : ∀ x, x ≠ b → w1.heap[x]? = w.heap[x]? := fun x hx => by rw [← hw']; exact setRow_other w b x _ hx
              have hFfb : Ff b := (hF b).2 (.inl rfl)
              have hFc : ∀ x, Fc x → Ff x := fun x hx => (hF x).2 (.inr hx)
              have hnb : ∀ x, Fc x ∨ Fy x → x ≠ b := by
                rintro x (h1 | h1) rfl
                · exact hbF h1
                · exact hdy x (.inr hFfb) h1
              have hcells := hall Fc hFc hokc
              have hnode : Ok w1 S1 (.own (hdr false b (rowsD ++ ysD).length cc) false i.size (rowsD ++ ysD)) (fun x => x = b ∨ (Fc x ∨ Fy x)) := by
                refine own_mk hheapb hkk ?_ hS (hcells.mono (fun x hx => hoth x (by rintro rfl; exact hS hx)) (fun x hx => hoth x (hnb x hx)) (fun _ h => h) (Ok_agg_iff.2 hcells).notS) (fun hx => hnb b hx rfl) ?_
                · simp only [Bool.false_eq_true, if_false, List.size_toArray, List.length_append, List.length_take, List.length_drop, Array.length_toList]
                  refine ⟨?_, by simpa using hfit⟩
                  rw [hcap.1]; omega
                · intro n d hn
                  rw [List.flatten_append] at hn
                  have hxl' : rowsD.flatten.length = rowsD.length * i.size := flatten_length hxk
                  rw [List.getElem?_toArray]
                  have hlt : n < (rowsD.flatten ++ ysD.flatten).length := (List.getElem?_eq_some_iff.1 hn).1
                  have htl : (arr.toList.take (rowsD.length * i.size)).length = rowsD.flatten.length := by
                    have e0 : arr.toList.length = arr.size := Array.length_toList
                    rw [hxl', List.length_take]
                    exact Nat.min_eq_left (by omega)
                  rw [List.getElem?_append_left (by rw [List.length_append, htl, List.length_map]; simpa using hlt)]
                  by_cases hnx : n < rowsD.flatten.length
                  · rw [List.getElem?_append_left (by omega)] at hn ⊢
                    rw [List.getElem?_take, if_pos (by omega)]
                    have := harr n d hn
                    simpa using this
                  · rw [List.getElem?_append_right (by omega)] at hn ⊢
                    rw [htl, List.getElem?_map, hn]; rfl
              refine runs_of (D := .own (hdr false b (rowsD ++ ysD).length cc) false i.size (rowsD ++ ysD)) (S1 := S1) (S' := S1) hst2 ha2 hd (by simpa [hdr] using hexec _ _ (by rw [hv]; simpa [hdr] using hrun)) (fun x hx => hoth x (by rintro rfl; exact hS hx))
                (fun s x hx => hoth x (by rintro rfl; exact hdis2 s x hx hFfb)) (fun _ h => h) (fun s x hx => (hst2.ok s).notS x hx) hnode ?_ (.own _ _ _ _) (by rw [er_own, hmapp]; exact he) ?_
              · rintro s x hx (rfl | h1 | h1)
                · exact hdis2 s x hx hFfb
                · exact hdis2 s x hx (hFc x h1)
                · exact hdy x (.inl ⟨s, hx⟩) h1
              · refine hU.trans ⟨by rw [← hw']; rfl, by rw [← hw']; rfl, by rw [← hw']; rfl, by rw [← hw']; simp [World.setRow], ?_, fun _ h => h, fun _ h => .inl h, fun hl q hq => by have := hl q hq; rw [← hw']; simpa [World.setRow] using this, ?_⟩
                · intro x _ hUx
                  refine hoth x ?_
                  rintro rfl
                  exact hUx (.inl (hown2 x (.inr hFfb)))
                · rintro x (hx | rfl | h1 | h1)
                  · exact .inl (.inl (hown2 x (.inl hx)))
                  · exact .inl (.inl (hown2 x (.inr hFfb)))
                  · exact .inl (.inl (hown2 x (.inr (hFc x h1))))
                  · exact .inl (.inr h1)
            · exact grow _ _ cc (by rw [hv]; rfl) rfl (by omega)
        · cases hn
      · cases he
    · -- a frozen slice without room
      rename_i e0 k0 rows τ' hX
      rcases hst1.appX hx hX with ⟨_, hn, _⟩ | ⟨rows0, hn, hτ, hpl, hfz⟩
      · cases hn
      · simp only [AV.sl.injEq] at hn
        obtain ⟨rfl, rfl, rfl⟩ := hn
        subst hτ
        rw [hav] at hfz
        have ha1 : Rd δ1 a := fun s => (ha s).trans (hann1 s).symm
        obtain ⟨ad, cap, hv⟩ := fz_slice hfz
        have hcapeq : cap = rows.length := by
          rw [hv] at hfz
          cases hfz with
          | nil _ _ _ _ hx => exact hx rfl
          | sl _ _ _ _ _ _ _ hx => exact hx rfl
        subst hcapeq
        split at he
        · -- nothing to append
          have hy0 : ysD = [] := List.eq_nil_of_length_eq_zero (by rw [hylen]; rfl)
          subst hy0
          have hrun := run_app_zero (P := P) (w := w) (ty := o.type) hu hi (base := ad) (n := rows.length) (c := rows.length) (Nat.le_refl _) (by simpa using hyr)
          refine runs_of (D := .lf (.sl true i.size rows) (.slice ad rows.length rows.length)) (Ff := fun _ => False) (S1 := S1) (S' := S1) hst1 ha1 hd (by simpa using hexec _ _ (by rw [hv]; exact hrun)) (fun _ _ => rfl) (fun _ _ _ => rfl) (fun _ h => h) (fun s x hx => (hst1.ok s).notS x hx) (.lf _ _ _ (by rw [← hv]; exact hfz) (fun _ h => h)) (fun _ _ _ h => h) (.lf _ _ trivial) (by rw [er_lf]; exact he) ?_
          exact hnx1.trans (Nx.less fun x hx => .inl (hx.elim id False.elim))
        · rename_i y0 ys0
          split at he
          · rename_i hroom
            simp only [roomOK, decide_eq_true_eq] at hroom
            obtain ⟨rowsD, h1, h2, h3, h4, h5⟩ := frozenRows hfz
            rw [plainC_id hpl] at h1
            have hyl1 : ysD.length = (y0 :: ys0).length := hylen
            rw [← h5, ← hyl1] at hroom
            have h63 : rowsD.length + ysD.length ≤ 9223372036854775807 := by
              have := Nat.le_mul_of_pos_right (rowsD.length + ysD.length) hb0
              omega
            have hxl : (rowsD.flatten.map DV.ann).length = rowsD.length * i.size := by rw [List.length_map, flatten_length h2]
            have hyl : (ysD.flatten.map DV.ann).length = ysD.length * i.size := by rw [List.length_map, flatten_length hyk]
            rw [hv, ← h5] at h4
            have hlt : rowsD.length < rowsD.length + ysD.length := by rw [hyl1]; simp
            have hrun := run_app_grow (P := P) (ty := o.type) hu hi hz h4 hxl hyr hyl hlt hroom h63
            have hge := grownCap_ge w (rowsD.length + ysD.length) rowsD.length e
            obtain ⟨W1, hW1⟩ : ∃ W1, W1 = w.drew.alloc (.cells ((rowsD.flatten.map DV.ann ++ ysD.flatten.map DV.ann).toArray ++ Builtin.zeroCells z.cells (grownCap w (rowsD.length + ysD.length) rowsD.length e - (rowsD.length + ysD.length))) e) := ⟨_, rfl⟩
            rw [← hW1] at hrun
            have hmapp : (rowsD ++ ysD).map (·.map DV.er) = rows ++ y0 :: ys0 := by rw [List.map_append, h1, hysm]
            refine runs_grown (w' := W1) (Fr := Fr) (U1 := fun x => Owned F1 x ∨ Fy x) (rows := rowsD ++ ysD) (Fd := fun x => False ∨ Fy x) (arr := (rowsD.flatten.map DV.ann ++ ysD.flatten.map DV.ann).toArray ++ Builtin.zeroCells z.cells (grownCap w (rowsD.length + ysD.length) rowsD.length e - (rowsD.length + ysD.length))) (E := e) hst1 hSlt1 ha1 hd
              (by rw [List.length_append]; exact hexec _ _ (by rw [hv, ← h5]; exact hrun)) (by rw [hW1]; rfl) (by rw [hW1]; rfl) (by rw [hW1]; rfl) (by rw [hW1]; rfl) (by rw [List.flatten_append]; exact OkL_append h3 hyok (fun _ h => h.elim)) ?_ ?_ ⟨grown_size hzk hxl hyl hge, by simpa using hge⟩ ?_ (by rw [hmapp]; exact he) ?_ hnx1
            · rintro s x hx (h1 | h1)
              · exact h1
              · exact hydis s x hx h1
            · intro r hr
              rcases List.mem_append.1 hr with h1 | h1
              · exact h2 r h1
              · exact hyk r h1
            · intro n d hn
              rw [List.flatten_append] at hn
              have hlt : n < (rowsD.flatten ++ ysD.flatten).length := (List.getElem?_eq_some_iff.1 hn).1
              rw [Array.getElem?_append_left (by rw [List.size_toArray, List.length_append, List.length_map, List.length_map, ← List.length_append]; exact hlt), List.getElem?_toArray, ← List.map_append, List.getElem?_map, hn]
              rfl
            · rintro x (hx | h1 | h1)
              · exact .inl hx
              · exact h1.elim
              · exact .inr h1
          · cases he
    · cases he
  · cases he
end Go.Abs
namespace Go.Abs
variable {w w' : World} {S S' : Nat → Prop} {G : Gi} {δ : Nat → DV} {Fr : Nat → Nat → Prop} {P : Program}

def placeOf (P : Program) (t : TypeId) : Nat → Option (Nat × Nat) := fun i => match P.underlying t with
  | some (.struct fs) => match fs[i]? with
    | some f => match szOf P f.type with
      | some n => some (f.offset, n)
      | none => none
    | none => none
  | some (.array _ e) => match szOf P e with
    | some k => some (i * k, k)
    | none => none
  | _ => none
def sizesOK (P : Program) (t : TypeId) : Bool := match P.underlying t with
  | some (.struct fs) => fs.toList.all fun f => (szOf P f.type).isSome
  | some (.array _ e) => (szOf P e).isSome
  | _ => false
def rowBase (zc : Array Value) (n : Nat) : List Value := ((Array.range n).map (zc[· % zc.size]!)).toList

def chkOp (P : Program) : Op → IOp → Bool
  | .move x, .cp y => chkA x y
  | .assign x, .mv y => chkA x y
  | .pick c a b, .pick c' a' b' => chkA c c' && chkA a a' && chkA b b'
  | .alloc t, .bx n (.c z) => szOf P t == some n && (match (P.info? t).bind (·.zero), cstD z with | some v, some D => sameV v D.ann | _, _ => false)
  | .box t x, .bx n y => szOf P t == some n && chkA x y
  | .build t parts, .bld z ps => (match (P.info? t).bind (·.zero), cstL z with
    | some v, some zd => sameL v.cells.toList (zd.map DV.ann) && z.all cellA && sizesOK P t && chkParts (placeOf P t) parts.toList ps
    | _, _ => false)
  | .buildSlice t len parts, .bsl k z ps => (match P.underlying t with
    | some (.slice e) => szOf P e == some k && decide (len * k ≤ 16777216) && (match (P.info? e).bind (·.zero), cstR z with
      | some v, some zd => sameL (rowBase (if len * k = 0 then #[] else v.cells) (len * k)) (zd.flatten.map DV.ann) && z.length == len && z.all (·.length == k) && chkRows k parts.toList ps
      | _, _ => false)
    | _ => false)
  | .load t a, .ld g n b => szOf P t == some n && isAggT P t == some g && (g || n == 1) && chkA a b
  | .store t a x, .st n b y => szOf P t == some n && chkA a b && chkA x y
  | .fieldAddr t x f, .fad off y => (match P.underlying t with
    | some (.struct fs) => match fs[f]? with
      | some fd => fd.offset == off && (match szOf P fd.type with | some n => n != 0 | none => false)
      | none => false
    | _ => false) && chkA x y
  | .indexAddr t x i, .iad k y j => (match P.underlying t with | some (.slice e) => szOf P e == some k | _ => false) && chkA x y && chkA i j
  | .indexAddr t x i, .aad len k y j => (match P.underlying t with | some (.array n e) => n == len && szOf P e == some k | _ => false) && chkA x y && chkA i j
  | .binOp op _ x y _, .bin op' x' y' => decide (op = op') && chkA x x' && chkA y y'
  | .binOp op t x y _, .beq neg x' y' => decide (op = if neg = true then .neq else .eql) && (match P.underlying t with | some .bool => true | _ => false) && chkA x x' && chkA y y'
  | .unOp op _ x, .un op' y => decide (op = op') && chkA x y
  | .convert s d x, .cvt k y => (match P.underlying s, P.underlying d with | some (.int _), some (.int k') => decide (k = k') | _, _ => false) && chkA x y
  | .call c, .len y => (match c.callee, c.args.toList, c.argTypes.toList with
    | .builtin .len, [x], [t] => (match P.underlying t with | some (.slice _) => true | _ => false) && chkA x y
    | _, _, _ => false)
  | .call c, .slen y => (match c.callee, c.args.toList, c.argTypes.toList with
    | .builtin .len, [x], [t] => (match P.underlying t with | some .string => true | _ => false) && chkA x y
    | _, _, _ => false)
  | .call c, .app k bytes x y => (match c.callee, c.args.toList, c.argTypes.toList with
    | .builtin .append, [u, v], [t, t'] => t == t' && (match P.underlying t with
      | some (.slice e) => match P.info? e with
        | some i => i.size == k && i.bytes == bytes && decide (0 < bytes) && (match i.zero with | some z => z.cells.size == k | none => false)
        | none => false
      | _ => false) && chkA u x && chkA v y
    | _, _, _ => false)
  | .slice t x lo hi mx, .slc k fr y lo' hi' mx' => fr && (match P.underlying t with | some (.slice e) => szOf P e == some k | _ => false) && (mx.isNone || hi.isSome) && chkA x y && chkO lo lo' && chkO hi hi' && chkO mx mx'
  | .extract x i, .ext y j => decide (i = j) && chkA x y
  | _, .bad => true
  | _, _ => false

theorem arr2 {α : Type} {a : Array α} {x y : α} (h : a.toList = [x, y]) : a = #[x, y] := by apply Array.ext'; simpa using h

theorem run_mapM {α β : Type} (l : List α) (f : α → Sem β) (g : α → β) (h : ∀ a ∈ l, (f a).run P w = .ok (g a) w) : (l.mapM f).run P w = .ok (l.map g) w := by
  induction l with
  | nil => simp
  | cons a l ih =>
    have h1 := h a (by simp)
    have h2 := ih (fun b hb => h b (by simp [hb]))
    simp [List.mapM_cons, h1, h2]

theorem run_build {t : TypeId} {v : Value} {parts : Array (Nat × Value)} {i : TypeInfo} (hi : P.info? t = some i) (hz : i.zero = some v) (hs : sizesOK P t = true) (cells : Array Value) (hf : Instr.fill (placeOf P t) v.cells parts.toList = some cells) :
    (Instr.build t parts).run P w = .ok (.agg cells) w := by
  unfold sizesOK at hs
  split at hs
  · rename_i fs hu
    have hm : (fs.mapM (m := Sem) fun (f : Field) => Prod.mk f.offset <$> sizeOf f.type).run P w = .ok (fs.map fun f => (f.offset, (szOf P f.type).getD 0)) w := by
      rw [Array.mapM_eq_mapM_toList]
      have := run_mapM (P := P) (w := w) fs.toList (fun (f : Field) => (Prod.mk f.offset <$> sizeOf f.type : Sem (Nat × Nat))) (fun f => (f.offset, (szOf P f.type).getD 0)) (by
        intro f hf'
        rw [List.all_eq_true] at hs
        have := hs f hf'
        obtain ⟨n, hn⟩ := Option.isSome_iff_exists.1 this
        simp [run_sizeOf hn, hn])
      simp only [Sem.run_map, this, Result.andThen_ok]
      congr 1
      apply Array.ext'
      simp
    have hp : (fun i => Option.map (fun (f : Field) => (f.offset, (szOf P f.type).getD 0)) fs[i]?) = placeOf P t := by
      funext i
      simp only [placeOf, hu]
      cases hf' : fs[i]? with
      | none => rfl
      | some f =>
        rw [List.all_eq_true] at hs
        have := hs f (by rw [Array.mem_toList_iff]; exact Array.mem_of_getElem? hf')
        obtain ⟨n, hn⟩ := Option.isSome_iff_exists.1 this
        simp [hn]
    simp only [Instr.build, zeroValue, typeInfo, Sem.run_bind, run_underlying hu]
    simp [program, Sem.run, hi, hz, hm]
    rw [hp, hf]
    simp
  · rename_i n e hu
    obtain ⟨k, hk⟩ := Option.isSome_iff_exists.1 hs
    have hp : (fun i => some (i * k, k)) = placeOf P t := by funext i; simp [placeOf, hu, hk]
    simp only [Instr.build, zeroValue, typeInfo, Sem.run_bind, run_underlying hu]
    simp [program, Sem.run, hi, hz, run_sizeOf hk]
    rw [hp, hf]
    simp
  · cases hs

theorem run_buildSlice {t e : TypeId} {v : Value} {len k : Nat} {parts : Array (Nat × Value)} {i : TypeInfo} (hu : P.underlying t = some (.slice e)) (hk : szOf P e = some k) (hle : len * k ≤ 16777216) (hi : P.info? e = some i) (hz : i.zero = some v) (cells : Array Value)
    (hf : Instr.fill (fun i => some (i * k, k)) (rowBase (if len * k = 0 then #[] else v.cells) (len * k)).toArray parts.toList = some cells) :
    (Instr.buildSlice t len parts).run P w = .ok (.slice (some ⟨w.heap.size, 0, none⟩) len len) (w.alloc (.cells cells e)) := by
  have h24 : ¬ (16777216 < len * k) := by omega
  simp only [rowBase, Array.toArray_toList] at hf
  by_cases h0 : len * k = 0
  · simp only [h0, if_true] at hf
    simp [Instr.buildSlice, run_underlying hu, run_sizeOf hk, h0]
    simp at hf
    rw [hf]
    simp [newRow]
  · simp only [h0, if_false] at hf
    simp [Instr.buildSlice, run_underlying hu, run_sizeOf hk, h0, h24, zeroValue, typeInfo, hi, hz]
    rw [hf]
    simp [newRow]

theorem opt_eq {α : Type} [BEq α] [LawfulBEq α] {a : Option α} {b : α} (h : (a == some b) = true) : a = some b := by simpa using h

theorem op_sound (h : St G w S δ Fr) (hSlt : ∀ b, S b → b < w.heap.size) {a : Act} (ha : Rd δ a) {o : Oper} {io : IOp} {d : Option Dst} (hd : DstOK G a o d) (hc : chkOp P o.op io = true) {σ' : Sg} (he : eff G io d (fun s => (δ s).er) = some σ') : Runs P G w S Fr a o σ' := by
  have val : ∀ {v : AV}, (∀ {d}, eff G io (some d) (fun s => (δ s).er) = (match valOf io (fun s => (δ s).er) with | some v => wr d v (fun s => (δ s).er) | none => none)) → (eff G io none (fun s => (δ s).er) = none) →
      (∀ v, valOf io (fun s => (δ s).er) = some v → Gives P w S δ a o v) → Runs P G w S Fr a o σ' := by
    intro _ h1 h2 h3
    cases d with
    | none => rw [h2] at he; cases he
    | some d =>
      rw [h1] at he
      split at he
      · rename_i v hv; exact runs_of_gives h ha hd (h3 v hv) he
      · cases he
  have some_dst : ∀ {io : IOp}, (eff G io none (fun s => (δ s).er) = none) → eff G io d (fun s => (δ s).er) = some σ' → ∃ d', d = some d' := by
    intro io h1 h2
    cases d with
    | none => rw [h1] at h2; cases h2
    | some d => exact ⟨d, rfl⟩
  unfold chkOp at hc
  split at hc
  · rename_i x y ho; exact val (v := .dead) rfl rfl fun v hv => gives_cp h ha ho hc hv
  · rename_i x y ho
    obtain ⟨d', rfl⟩ := some_dst rfl he
    exact runs_mv h ha hd ho hc he
  · rename_i c x y c' x' y' ho
    simp only [Bool.and_eq_true] at hc
    exact val (v := .dead) rfl rfl fun v hv => gives_pick h ha ho hc.1.1 hc.1.2 hc.2 hv
  · rename_i t n z ho
    simp only [Bool.and_eq_true] at hc
    obtain ⟨h1, h2⟩ := hc
    split at h2
    · rename_i v D hv hD
      obtain ⟨i, hi, hz⟩ := Option.bind_eq_some_iff.1 hv
      obtain ⟨d', rfl⟩ := some_dst rfl he
      refine runs_bx (t := t) (y := .c z) h hSlt ha hd ⟨D, hD⟩ ?_ he
      have := run_alloc (P := P) t i v hi hz w
      simp only [execOp, ho, Sem.run_bind, this, Result.andThen_ok, Sem.run_pure, argv, hD, sameV_eq h2]
    · cases h2
  · rename_i t x n y ho
    simp only [Bool.and_eq_true] at hc
    obtain ⟨hy, hev⟩ := chkA_sound hc.2 ha
    obtain ⟨d', rfl⟩ := some_dst rfl he
    refine runs_bx (t := t) h hSlt ha hd hy ?_ he
    simp only [execOp, ho, Sem.run_bind, run_box, Result.andThen_ok, Sem.run_pure, hev]
  · rename_i t parts z ps ho
    split at hc
    · rename_i v zd hv hz
      simp only [Bool.and_eq_true] at hc
      obtain ⟨⟨⟨h1, h2⟩, h3⟩, h4⟩ := hc
      obtain ⟨i, hi, hz0⟩ := Option.bind_eq_some_iff.1 hv
      obtain ⟨d', rfl⟩ := some_dst rfl he
      refine runs_bld h ha hd ho hz h2 h4 (fun cells hf => ?_) he
      refine run_build hi hz0 h3 cells ?_
      have := sameL_eq h1
      have e : v.cells = (zd.map DV.ann).toArray := by apply Array.ext'; simpa using this
      rw [e]
      simpa using hf
    · cases hc
  · rename_i t len parts k z ps ho
    split at hc
    · rename_i e hu
      simp only [Bool.and_eq_true, decide_eq_true_eq] at hc
      obtain ⟨⟨h1, h2⟩, h3⟩ := hc
      split at h3
      · rename_i v zd hv hz
        simp only [Bool.and_eq_true, beq_iff_eq] at h3
        obtain ⟨⟨⟨g1, g2⟩, g3⟩, g4⟩ := h3
        obtain ⟨i, hi, hz0⟩ := Option.bind_eq_some_iff.1 hv
        obtain ⟨d', rfl⟩ := some_dst rfl he
        refine runs_bsl (e := e) h hSlt ha hd ho hz (fun r hr => by rw [List.all_eq_true] at g3; simpa using g3 r hr) g2 g4 (fun cells hf => ?_) he
        refine run_buildSlice hu (opt_eq h1) h2 hi hz0 cells ?_
        rw [sameL_eq g1]
        simpa using hf
      · cases h3
    · cases hc
  · rename_i t x g n y ho
    simp only [Bool.and_eq_true, Bool.or_eq_true, beq_iff_eq] at hc
    exact val (v := .dead) rfl rfl fun v hv => gives_ld h ha ho hc.1.1.1 hc.1.1.2 hc.1.2 hc.2 hv
  · rename_i t x u n y z ho
    simp only [Bool.and_eq_true, beq_iff_eq] at hc
    cases d with
    | some d => simp [eff, valOf] at he
    | none => exact runs_st h ha hd ho hc.1.1 hc.1.2 hc.2 he
  · rename_i t x f off y ho
    simp only [Bool.and_eq_true] at hc
    obtain ⟨h1, h2⟩ := hc
    split at h1
    · rename_i fs hu
      split at h1
      · rename_i fd hf
        simp only [Bool.and_eq_true, beq_iff_eq] at h1
        obtain ⟨g1, g2⟩ := h1
        split at g2
        · rename_i n hn
          simp only [bne_iff_ne] at g2
          exact val (v := .dead) rfl rfl fun v hv => gives_fad h ha ho hu hf g1 hn g2 h2 hv
        · cases g2
      · cases h1
    · cases h1
  · rename_i t x i k y j ho
    simp only [Bool.and_eq_true] at hc
    obtain ⟨⟨h1, h2⟩, h3⟩ := hc
    split at h1
    · rename_i e hu
      exact val (v := .dead) rfl rfl fun v hv => gives_iad h ha ho hu (opt_eq h1) h2 h3 hv
    · cases h1
  · rename_i t x i len k y j ho
    simp only [Bool.and_eq_true] at hc
    obtain ⟨⟨h1, h2⟩, h3⟩ := hc
    split at h1
    · rename_i n e hu
      simp only [Bool.and_eq_true, beq_iff_eq] at h1
      obtain ⟨rfl, g2⟩ := h1
      exact val (v := .dead) rfl rfl fun v hv => gives_aad h ha ho hu g2 h2 h3 hv
    · cases h1
  · rename_i op t x y u op' x' y' ho
    simp only [Bool.and_eq_true, decide_eq_true_eq] at hc
    obtain ⟨⟨rfl, h2⟩, h3⟩ := hc
    exact val (v := .dead) rfl rfl fun v hv => gives_bin h ha ho h2 h3 hv
  · rename_i op t x y u neg x' y' ho
    simp only [Bool.and_eq_true, decide_eq_true_eq] at hc
    obtain ⟨⟨⟨h1, h2⟩, h3⟩, h4⟩ := hc
    split at h2
    · rename_i hu
      exact val (v := .dead) rfl rfl fun v hv => gives_beq h ha ho h1 hu h3 h4 hv
    · cases h2
  · rename_i op t x op' y ho
    simp only [Bool.and_eq_true, decide_eq_true_eq] at hc
    obtain ⟨rfl, h2⟩ := hc
    exact val (v := .dead) rfl rfl fun v hv => gives_un h ha ho h2 hv
  · rename_i s t x k y ho
    simp only [Bool.and_eq_true] at hc
    obtain ⟨h1, h2⟩ := hc
    split at h1
    · rename_i k0 k' hs ht
      simp only [decide_eq_true_eq] at h1
      subst h1
      exact val (v := .dead) rfl rfl fun v hv => gives_cvt h ha ho hs ht h2 hv
    · cases h1
  · rename_i c y ho
    split at hc
    · rename_i x t g1 g2 g3
      simp only [Bool.and_eq_true] at hc
      obtain ⟨h1, h2⟩ := hc
      split at h1
      · rename_i e hu
        exact val (v := .dead) rfl rfl fun v hv => gives_len h ha ho g1 g2 g3 ⟨e, hu⟩ h2 hv
      · cases h1
    · cases hc
  · rename_i c y ho
    split at hc
    · rename_i x t g1 g2 g3
      simp only [Bool.and_eq_true] at hc
      obtain ⟨h1, h2⟩ := hc
      split at h1
      · rename_i hu
        exact val (v := .dead) rfl rfl fun v hv => gives_slen h ha ho g1 g2 g3 hu h2 hv
      · cases h1
    · cases hc
  · rename_i c k bytes x y ho
    split at hc
    · rename_i u v t t' g1 g2 g3
      simp only [Bool.and_eq_true, beq_iff_eq] at hc
      obtain ⟨⟨⟨rfl, h1⟩, h2⟩, h3⟩ := hc
      split at h1
      · rename_i e hu
        split at h1
        · rename_i i hi
          simp only [Bool.and_eq_true, beq_iff_eq, decide_eq_true_eq] at h1
          obtain ⟨⟨⟨k1, k2⟩, k3⟩, k4⟩ := h1
          split at k4
          · rename_i z hz
            simp only [beq_iff_eq] at k4
            obtain ⟨d', rfl⟩ := some_dst rfl he
            exact runs_app h hSlt ha hd ho g1 (arr2 g2) (arr2 g3) hu hi k1 k2 k3 hz k4 h2 h3 he
          · cases k4
        · cases h1
      · cases h1
    · cases hc
  · rename_i t x lo hi mx k fr y lo' hi' mx' ho
    simp only [Bool.and_eq_true, Bool.or_eq_true, Option.isNone_iff_eq_none] at hc
    obtain ⟨⟨⟨⟨⟨⟨rfl, h1⟩, h2⟩, h3⟩, h4⟩, h5⟩, h6⟩ := hc
    split at h1
    · rename_i e hu
      obtain ⟨d', rfl⟩ := some_dst rfl he
      exact runs_slc h ha hd ho hu (opt_eq h1) h3 h4 h5 h6 (h2.imp id (by intro q hq; simp [hq] at q)) he
    · cases h1
  · rename_i x i y j ho
    simp only [Bool.and_eq_true, decide_eq_true_eq] at hc
    obtain ⟨rfl, h2⟩ := hc
    exact val (v := .dead) rfl rfl fun v hv => gives_ext h ha ho h2 hv
  · cases d <;> simp [eff, valOf] at he
  · cases hc
end Go.Abs
