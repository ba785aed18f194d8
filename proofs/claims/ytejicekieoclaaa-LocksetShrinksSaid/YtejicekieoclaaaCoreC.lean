/- Operations on abstract states, in the world (2). -/
import Derived.Test.YtejicekieoclaaaCoreB
namespace Go.Abs
variable {w w' : World} {S S' : Nat → Prop} {G : Gi} {δ : Nat → DV} {Fr : Nat → Nat → Prop} {P : Program}

theorem run_fieldAt {t : TypeId} {fs : Array Field} {f : Nat} {fd : Field} {n : Nat} (hu : P.underlying t = some (.struct fs)) (hf : fs[f]? = some fd) (hn : szOf P fd.type = some n) (h0 : n ≠ 0) (b off : Nat) (w : World) :
    (Instr.fieldAt t (.pointer (some ⟨b, off, none⟩)) f).run P w = .ok (.pointer (some ⟨b, off + fd.offset, none⟩)) w := by
  simp [Instr.fieldAt, underlying, hu, hf, Instr.sureAddr, fieldPlace, run_sizeOf hn, h0, Addr.add_lit]

theorem gives_fad (h : St G w S δ Fr) {a : Act} (ha : Rd δ a) {o : Oper} {t : TypeId} {x : Operand} {f off : Nat} {y : Ar} (ho : o.op = .fieldAddr t x f) {fs : Array Field} {fd : Field} {n : Nat} (hu : P.underlying t = some (.struct fs)) (hf : fs[f]? = some fd) (hoff : fd.offset = off)
    (hn : szOf P fd.type = some n) (h0 : n ≠ 0) (hc : chkA x y = true) {v : AV} (hv : valOf (.fad off y) (fun s => (δ s).er) = some v) : Gives P w S δ a o v := by
  obtain ⟨hy, he⟩ := chkA_sound hc ha
  subst hoff
  cases y with
  | c c => simp [valOf] at hv
  | t s =>
    simp only [valOf] at hv
    cases hs : (δ s).er with
    | fp cs =>
      simp only [hs, Option.some.injEq] at hv
      subst hv
      obtain ⟨_, h2, _⟩ := h.leaf hs rfl
      obtain ⟨b, off, hp, hS, hcell⟩ := h2
      refine ⟨.pointer (some ⟨b, off + fd.offset, none⟩), ?_, Lf.fp hS fun j a hj => ?_⟩
      · simp only [execOp, ho, he, argv, hp, Sem.run_bind, run_fieldAt hu hf hn h0, Result.andThen_ok, Sem.run_pure]
      · rw [List.getElem?_drop] at hj
        rw [show off + fd.offset + j = off + (fd.offset + j) from by omega]
        exact hcell _ a hj
    | _ =>
      simp only [hs] at hv
      split at hv
      · rename_i r p i j k hadr
        simp only [Option.some.injEq] at hv
        subst hv
        obtain ⟨vh, bx, rowsD, b, F, hsub, hb, hp, hok, _⟩ := h.adrOf hadr
        refine ⟨.pointer (some ⟨b, i * k + (j + fd.offset), none⟩), ?_, Lf.adr hsub hb⟩
        simp only [execOp, ho, he, argv, hp, Sem.run_bind, run_fieldAt hu hf hn h0, Result.andThen_ok, Sem.run_pure, Nat.add_assoc]
      · cases hv

theorem run_indexAt_slice {t e : TypeId} {k : Nat} (hu : P.underlying t = some (.slice e)) (hk : szOf P e = some k) {b off len c : Nat} {kk : IntKind} {n : Int} (h0 : 0 ≤ n) (h1 : n < len) (w : World) :
    (Instr.indexAt t (.slice (some ⟨b, off, none⟩) len c) (.int kk n)).run P w = .ok (.pointer (some ⟨b, off + n.toNat * k, none⟩)) w := by
  simp [Instr.indexAt, asIntOf, underlying, hu, h0, h1, run_sizeOf hk, Addr.add_lit]

theorem St.hdD (h : St G w S δ Fr) {x : Ar} (hx : ArOK x) {n : AV} {pl : Option (Nat × List Step)} (hh : hd (fun s => (δ s).er) x = some (n, pl)) :
    (∀ b k rows, n = .own b k rows → ∃ rowsD F, rowsD.map (·.map DV.er) = rows ∧ Ok w S (.own (argv δ x) b k rowsD) F ∧ ∀ r p, pl = some (r, p) → subD (δ r) p = some (.own (argv δ x) b k rowsD)) ∧
    (∀ e k rows, n = .sl e k rows → (∃ s, x = .t s ∧ (δ s).er = .sl e k rows) → Fz w S (.sl e k rows) (argv δ x)) := by
  cases x with
  | c c =>
    obtain ⟨D, hD⟩ := hx
    obtain ⟨h1, h2, h3, _⟩ := cst_facts (w := w) (S := S) (δ := δ) c D hD
    constructor
    · rintro b k rows rfl
      simp only [hd] at hh
      split at hh
      · simp only [Option.some.injEq, Prod.mk.injEq, AV.own.injEq] at hh
        obtain ⟨⟨rfl, rfl, rfl⟩, rfl⟩ := hh
        cases D with
        | own v b' k'' rowsD =>
          simp only [er_own, AV.own.injEq] at h1
          obtain ⟨rfl, rfl, h3'⟩ := h1
          exact ⟨rowsD, _, h3', by simpa [argv, hD] using h2, by simp⟩
        | lf a v => simp only [er_lf] at h1; subst h1; cases h2 with | lf _ _ _ ha _ => exact ha.elim
        | agg => simp at h1
        | tup => simp at h1
      · cases hh
    · rintro e k rows rfl ⟨s, hs, _⟩; cases hs
  | t s =>
    simp only [hd] at hh
    constructor
    · rintro b k rows rfl
      cases hs : (δ s).er with
      | al r p =>
        simp only [hs] at hh
        split at hh
        · rename_i n' hn
          simp only [Option.some.injEq, Prod.mk.injEq] at hh
          obtain ⟨rfl, rfl⟩ := hh
          obtain ⟨rowsD, F, h1, h2, h3⟩ := h.node hs hn
          exact ⟨rowsD, F, h2, h3, by rintro r' p' ⟨⟩; exact h1⟩
        · cases hh
      | own b' k' rows' =>
        simp only [hs, Option.some.injEq, Prod.mk.injEq] at hh
        obtain ⟨h1, rfl⟩ := hh
        obtain ⟨rowsD, hd', hm⟩ := h.nodeS (hs.trans h1)
        refine ⟨rowsD, Fr s, hm, ?_, ?_⟩
        · have := h.ok s; rw [hd'] at this; simpa [argv] using this
        · rintro r p ⟨⟩; simpa [subD, argv] using hd'
      | sl e' k' rows' => simp only [hs, Option.some.injEq, Prod.mk.injEq] at hh; exact absurd hh.1 (by simp)
      | _ => simp [hs] at hh
    · rintro e k rows rfl ⟨s', hs', he⟩
      cases hs'
      exact (h.leaf he rfl).2.1

theorem gives_iad (h : St G w S δ Fr) {a : Act} (ha : Rd δ a) {o : Oper} {t e : TypeId} {x i : Operand} {k : Nat} {y j : Ar} (ho : o.op = .indexAddr t x i) (hu : P.underlying t = some (.slice e)) (hk : szOf P e = some k) (hc : chkA x y = true) (hc2 : chkA i j = true) {v : AV}
    (hv : valOf (.iad k y j) (fun s => (δ s).er) = some v) : Gives P w S δ a o v := by
  obtain ⟨hy, he⟩ := chkA_sound hc ha
  obtain ⟨hj, hei⟩ := chkA_sound hc2 ha
  simp only [valOf] at hv
  split at hv
  · rename_i k' rows r p n hh hn
    split at hv
    · rename_i hcond
      obtain ⟨rfl, h0, h1⟩ := hcond
      simp only [Option.some.injEq] at hv
      subst hv
      obtain ⟨kk, hn⟩ := asI_sc hn
      obtain ⟨ei, _⟩ := h.argSc hj hn
      obtain ⟨rowsD, F, hm, hok, hpl⟩ := (h.hdD hy hh).1 _ _ _ rfl
      have hsub := hpl r p rfl
      generalize argv δ y = vh at *
      have hlen : rowsD.length = rows.length := by rw [← hm]; simp
      cases hok with
      | nil => simp at hlen; rw [← hlen] at h1; simp at h1; omega
      | own _ _ _ b c arr E Fs _ hb hk' hcap hSb hv' hr hdd hval hbF hF =>
        refine ⟨.pointer (some ⟨b, n.toNat * k' + 0, none⟩), ?_, Lf.adr hsub (by simp)⟩
        simp only [execOp, ho, he, hei, ei, hdr, Sem.run_bind, Bool.false_eq_true, if_false, run_indexAt_slice hu hk h0 (show n < (rowsD.length : Nat) by rw [hlen]; exact h1), Result.andThen_ok, Sem.run_pure]
        simp
    · cases hv
  · rename_i ee k' rows pl n hh hn
    split at hv
    · rename_i hcond
      obtain ⟨rfl, h0⟩ := hcond
      obtain ⟨kk, hn⟩ := asI_sc hn
      obtain ⟨ei, _⟩ := h.argSc hj hn
      rw [Option.map_eq_some_iff] at hv
      obtain ⟨row, hrow, rfl⟩ := hv
      have hsl : ∃ s, y = .t s ∧ (δ s).er = .sl ee k' rows := by
        cases y with
        | c c =>
          obtain ⟨D, hD⟩ := hy
          simp only [hd] at hh
          split at hh
          · simp at hh
          · cases hh
        | t s =>
          refine ⟨s, rfl, ?_⟩
          simp only [hd] at hh
          cases hs : (δ s).er with
          | sl e2 k2 rows2 => simp only [hs, Option.some.injEq, Prod.mk.injEq] at hh; exact hh.1
          | al r p =>
            simp only [hs] at hh
            split at hh
            · rename_i n' hn'
              simp only [Option.some.injEq, Prod.mk.injEq] at hh
              obtain ⟨rfl, _⟩ := hh
              -- an alias names a node
              obtain ⟨_, _, hal⟩ := h.leaf hs rfl
              obtain ⟨bx', k2, rows', hl⟩ := hal
              obtain ⟨D, hD, hDe⟩ := subD_of_sub (h.ok r).lfy hn'
              rw [hl] at hD
              obtain rfl := Option.some.inj hD
              simp at hDe
            · cases hh
          | own => simp [hs] at hh
          | _ => simp [hs] at hh
      have hfz := (h.hdD hy hh).2 _ _ _ rfl hsl
      have hlt : n.toNat < rows.length := (List.getElem?_eq_some_iff.1 hrow).1
      generalize argv δ y = vh at *
      cases hfz with
      | nil => simp at hrow
      | sl _ _ _ b off c vs hx hlc hS hk' hcell hr =>
        refine ⟨.pointer (some ⟨b, off + n.toNat * k', none⟩), ?_, Lf.fp hS fun m a hm => ?_⟩
        · simp only [execOp, ho, he, hei, ei, Sem.run_bind, run_indexAt_slice hu hk h0 (show n < (rows.length : Nat) by omega), Result.andThen_ok, Sem.run_pure]
        · refine ⟨vs n.toNat m, ?_, hr _ _ _ _ hrow hm⟩
          have := hcell _ _ _ _ hrow hm
          rw [show off + n.toNat * k' + m = off + (n.toNat * k' + m) from by omega]
          exact this
    · cases hv
  · cases hv

theorem gives_bin (h : St G w S δ Fr) {a : Act} (ha : Rd δ a) {o : Oper} {op : BinOp} {t u : TypeId} {x y : Operand} {x' y' : Ar} (ho : o.op = .binOp op t x y u) (hc : chkA x x' = true) (hc2 : chkA y y' = true) {v : AV}
    (hv : valOf (.bin op x' y') (fun s => (δ s).er) = some v) : Gives P w S δ a o v := by
  obtain ⟨hx, ex⟩ := chkA_sound hc ha
  obtain ⟨hy, ey⟩ := chkA_sound hc2 ha
  simp only [valOf] at hv
  unfold binF at hv
  split at hv
  · rename_i k n k' m h1 h2
    obtain ⟨e1, _⟩ := h.argSc hx h1
    obtain ⟨e2, _⟩ := h.argSc hy h2
    split at hv
    · rename_i hk
      subst hk
      rw [Option.map_eq_some_iff] at hv
      obtain ⟨u', hu', rfl⟩ := hv
      have hg : (eqGuard op t x y (.int k n) (.int k m)).run P w = .ok () w := by cases op <;> simp [eqGuard]
      have hr : (binOp op t (.int k n) (.int k m)).run P w = .ok u' w := by
        cases op <;> simp [binI] at hu' <;> first
          | (subst hu'; simp [binOp, Op.intArith, Op.intCmp]; done)
          | (obtain ⟨h0, rfl⟩ := hu'; simp [binOp, Op.intDiv, h0]; done)
      refine ⟨u', ?_, Lf.sc u' ?_⟩
      · simp only [execOp, ho, ex, ey, e1, e2, Sem.run_bind, hg, hr, Result.andThen_ok, Sem.run_pure]
      · cases op <;> simp [binI] at hu' <;> first
          | (subst hu'; rfl)
          | (obtain ⟨h0, rfl⟩ := hu'; rfl)
    · cases hv
  · rename_i n m h1 h2
    obtain ⟨e1, _⟩ := h.argSc hx h1
    obtain ⟨e2, _⟩ := h.argSc hy h2
    have hg : ∀ op, (eqGuard op t x y (.string n) (.string m)).run P w = .ok () w := by intro op; cases op <;> simp [eqGuard]
    split at hv
    · simp only [Option.some.injEq] at hv
      subst hv
      refine ⟨_, ?_, Lf.sc _ rfl⟩
      simp only [execOp, ho, ex, ey, e1, e2, Sem.run_bind, hg, Result.andThen_ok]
      simp [binOp, Op.stringOp]
    · simp only [Option.some.injEq] at hv
      subst hv
      refine ⟨_, ?_, Lf.sc _ rfl⟩
      simp only [execOp, ho, ex, ey, e1, e2, Sem.run_bind, hg, Result.andThen_ok]
      simp [binOp, Op.stringOp]
    · cases hv
  · cases hv

theorem gives_beq (h : St G w S δ Fr) {a : Act} (ha : Rd δ a) {o : Oper} {op : BinOp} {t u : TypeId} {x y : Operand} {x' y' : Ar} {neg : Bool} (ho : o.op = .binOp op t x y u) (hop : op = if neg = true then .neq else .eql) (ht : P.underlying t = some .bool) (hc : chkA x x' = true) (hc2 : chkA y y' = true) {v : AV}
    (hv : valOf (.beq neg x' y') (fun s => (δ s).er) = some v) : Gives P w S δ a o v := by
  obtain ⟨hx, ex⟩ := chkA_sound hc ha
  obtain ⟨hy, ey⟩ := chkA_sound hc2 ha
  simp only [valOf] at hv
  split at hv
  · rename_i n m h1 h2
    obtain ⟨e1, _⟩ := h.argSc hx h1
    obtain ⟨e2, _⟩ := h.argSc hy h2
    simp only [Option.some.injEq] at hv
    subst hv
    refine ⟨_, ?_, Lf.sc _ rfl⟩
    have hg : ∀ op, (eqGuard op t x y (.bool n) (.bool m)).run P w = .ok () w := by intro op; cases op <;> simp [eqGuard]
    cases neg with
    | true =>
      simp only [if_true] at hop
      subst hop
      simp only [execOp, ho, ex, ey, e1, e2, Sem.run_bind, hg, Result.andThen_ok, run_neq_bool w t n m ht, Sem.run_pure, if_true]
    | false =>
      simp only [Bool.false_eq_true, if_false] at hop
      subst hop
      simp only [execOp, ho, ex, ey, e1, e2, Sem.run_bind, hg, Result.andThen_ok, run_eql_bool w t n m ht, Sem.run_pure, Bool.false_eq_true, if_false]
  · cases hv

theorem gives_un (h : St G w S δ Fr) {a : Act} (ha : Rd δ a) {o : Oper} {op : UnOp} {t : TypeId} {x : Operand} {x' : Ar} (ho : o.op = .unOp op t x) (hc : chkA x x' = true) {v : AV} (hv : valOf (.un op x') (fun s => (δ s).er) = some v) : Gives P w S δ a o v := by
  obtain ⟨hx, ex⟩ := chkA_sound hc ha
  simp only [valOf] at hv
  unfold unF at hv
  split at hv
  · rename_i n h1
    obtain ⟨e1, _⟩ := h.argSc hx h1
    split at hv
    · simp only [Option.some.injEq] at hv
      subst hv
      exact ⟨_, by simp [execOp, ho, ex, e1, Op.unary], Lf.sc _ rfl⟩
    · cases hv
  · rename_i k n h1
    obtain ⟨e1, _⟩ := h.argSc hx h1
    split at hv
    · simp only [Option.some.injEq] at hv
      subst hv
      exact ⟨.int k (k.wrap (0 - n)), by simp [execOp, ho, ex, e1, Op.unary, Op.intArith], Lf.sc _ rfl⟩
    · cases hv
  · cases hv

theorem gives_cvt (h : St G w S δ Fr) {a : Act} (ha : Rd δ a) {o : Oper} {s d : TypeId} {k k0 : IntKind} {x : Operand} {x' : Ar} (ho : o.op = .convert s d x) (hs : P.underlying s = some (.int k0)) (hd : P.underlying d = some (.int k)) (hc : chkA x x' = true) {v : AV} (hv : valOf (.cvt k x') (fun s => (δ s).er) = some v) : Gives P w S δ a o v := by
  obtain ⟨hx, ex⟩ := chkA_sound hc ha
  simp only [valOf] at hv
  split at hv
  · rename_i k1 n h1
    obtain ⟨e1, _⟩ := h.argSc hx h1
    simp only [Option.some.injEq] at hv
    subst hv
    exact ⟨.int k (k.wrap n), by simp [execOp, ho, ex, e1, convert, underlying, hs, hd, Conv.intToInt], Lf.sc _ rfl⟩
  · cases hv
end Go.Abs
namespace Go.Abs
variable {w w' : World} {S S' : Nat → Prop} {G : Gi} {δ : Nat → DV} {Fr : Nat → Nat → Prop} {P : Program}

theorem own_slice {v : Value} {k : Nat} {rows : List (List DV)} {F : Nat → Prop} (h : Ok w S (.own v false k rows) F) : ∃ a c, v = .slice a rows.length c := by
  cases h with
  | nil => exact ⟨none, 0, rfl⟩
  | own _ _ _ b c => exact ⟨some ⟨b, 0, none⟩, c, by simp [hdr]⟩
theorem fz_slice {v : Value} {e : Bool} {k : Nat} {rows : List (List AV)} (h : Fz w S (.sl e k rows) v) : ∃ a c, v = .slice a rows.length c := by
  cases h with
  | nil _ _ a c => exact ⟨a, c, rfl⟩
  | sl _ _ _ b off c => exact ⟨_, c, rfl⟩

theorem St.hdSl (h : St G w S δ Fr) {x : Ar} (hx : ArOK x) {e : Bool} {k : Nat} {rows : List (List AV)} {pl : Option (Nat × List Step)} (hh : hd (fun s => (δ s).er) x = some (.sl e k rows, pl)) :
    ∃ s, x = .t s ∧ (δ s).er = .sl e k rows := by
  cases x with
  | c c =>
    obtain ⟨D, hD⟩ := hx
    simp only [hd] at hh
    split at hh
    · simp at hh
    · cases hh
  | t s =>
    refine ⟨s, rfl, ?_⟩
    simp only [hd] at hh
    cases hs : (δ s).er with
    | sl e2 k2 rows2 => simp only [hs, Option.some.injEq, Prod.mk.injEq] at hh; exact hh.1
    | al r p =>
      simp only [hs] at hh
      split at hh
      · rename_i n' hn'
        simp only [Option.some.injEq, Prod.mk.injEq] at hh
        obtain ⟨rfl, _⟩ := hh
        obtain ⟨_, _, hal⟩ := h.leaf hs rfl
        obtain ⟨bx', k2, rows', hl⟩ := hal
        obtain ⟨D, hD, hDe⟩ := subD_of_sub (h.ok r).lfy hn'
        rw [hl] at hD
        obtain rfl := Option.some.inj hD
        simp at hDe
      · cases hh
    | own => simp [hs] at hh
    | _ => simp [hs] at hh

theorem run_len_slice {t : TypeId} (a : Option Addr) (n c : Nat) (hs : ∃ e, P.underlying t = some (.slice e)) (ty : TypeId) (w : World) :
    (Builtin.len_ #[t] ty #[.slice a n c]).run P w = .ok (.int .i64 n) w := by
  obtain ⟨e, he⟩ := hs
  simp [Builtin.len_, underlying, he, goInt]

theorem gives_len (h : St G w S δ Fr) {a : Act} (ha : Rd δ a) {o : Oper} {c : Call} {x : Operand} {t : TypeId} {x' : Ar} (ho : o.op = .call c) (hcal : c.callee = .builtin .len) (hargs : c.args.toList = [x]) (hty : c.argTypes.toList = [t])
    (ht : (∃ e, P.underlying t = some (.slice e))) (hc : chkA x x' = true) {v : AV} (hv : valOf (.len x') (fun s => (δ s).er) = some v) : Gives P w S δ a o v := by
  obtain ⟨hx, ex⟩ := chkA_sound hc ha
  have e1 : c.args = #[x] := by apply Array.ext'; simpa using hargs
  have e2 : c.argTypes = #[t] := by apply Array.ext'; simpa using hty
  have key : ∀ (ad : Option Addr) (n cc : Nat), argv δ x' = .slice ad n cc → v = .sc (.int .i64 n) → Gives P w S δ a o v := by
    rintro ad n cc hav rfl
    refine ⟨.int .i64 n, ?_, Lf.sc _ rfl⟩
    have := run_len_slice (P := P) ad n cc ht o.type w
    simp only [execOp, ho, resolve, hcal, e1, e2, invoke, builtin, Sem.run_bind, Sem.run_pure, Result.andThen_ok, List.map_toArray, List.map_cons, List.map_nil, ex, hav, this]
  simp only [valOf] at hv
  split at hv
  · rename_i k rows pl hh
    simp only [Option.some.injEq] at hv
    obtain ⟨rowsD, F, hm, hok, _⟩ := (h.hdD hx hh).1 _ _ _ rfl
    obtain ⟨ad, cc, hs⟩ := own_slice hok
    refine key ad rowsD.length cc hs ?_
    rw [← hv, ← hm]; simp
  · rename_i e k rows pl hh
    simp only [Option.some.injEq] at hv
    have hfz := (h.hdD hx hh).2 _ _ _ rfl (h.hdSl hx hh)
    obtain ⟨ad, cc, hs⟩ := fz_slice hfz
    exact key ad rows.length cc hs hv.symm
  · cases hv

theorem gives_slen (h : St G w S δ Fr) {a : Act} (ha : Rd δ a) {o : Oper} {c : Call} {x : Operand} {t : TypeId} {x' : Ar} (ho : o.op = .call c) (hcal : c.callee = .builtin .len) (hargs : c.args.toList = [x]) (hty : c.argTypes.toList = [t])
    (ht : P.underlying t = some .string) (hc : chkA x x' = true) {v : AV} (hv : valOf (.slen x') (fun s => (δ s).er) = some v) : Gives P w S δ a o v := by
  obtain ⟨hx, ex⟩ := chkA_sound hc ha
  have e1 : c.args = #[x] := by apply Array.ext'; simpa using hargs
  have e2 : c.argTypes = #[t] := by apply Array.ext'; simpa using hty
  simp only [valOf] at hv
  split at hv
  · rename_i s hs
    simp only [Option.some.injEq] at hv
    subst hv
    obtain ⟨e3, _⟩ := h.argSc hx hs
    refine ⟨.int .i64 s.size, ?_, Lf.sc _ rfl⟩
    simp only [execOp, ho, resolve, hcal, e1, e2, invoke, builtin, Sem.run_bind, Sem.run_pure, Result.andThen_ok, List.map_toArray, List.map_cons, List.map_nil, ex, e3]
    simp [Builtin.len_, underlying, ht, goInt]
  · cases hv

theorem gives_ext (h : St G w S δ Fr) {a : Act} (ha : Rd δ a) {o : Oper} {x : Operand} {i : Nat} {x' : Ar} (ho : o.op = .extract x i) (hc : chkA x x' = true) {v : AV} (hv : valOf (.ext x' i) (fun s => (δ s).er) = some v) : Gives P w S δ a o v := by
  obtain ⟨hx, ex⟩ := chkA_sound hc ha
  cases x' with
  | c c => simp [valOf] at hv
  | t s =>
    simp only [valOf] at hv
    split at hv
    · rename_i cs hs
      split at hv
      · rename_i c hcs
        simp only [Option.some.injEq] at hv
        subst hv
        obtain ⟨ds, hds, hm⟩ : ∃ ds, δ s = .tup ds ∧ ds.map DV.er = cs := by
          have := (h.ok s).lfy
          cases hd : δ s with
          | tup ds => rw [hd] at hs; simp at hs; exact ⟨ds, rfl, hs⟩
          | lf c v => rw [hd] at hs this; cases this with | lf _ _ hl => simp at hs; subst hs; simp [leafy] at hl
          | own => rw [hd] at hs; simp at hs
          | agg => rw [hd] at hs; simp at hs
        rw [← hm, List.getElem?_map, Option.map_eq_some_iff] at hcs
        obtain ⟨d, hd, rfl⟩ := hcs
        have hok := h.ok s
        have hal := h.al s
        rw [hds] at hok hal
        cases hok with
        | tup _ Fs _ hr hdd hval hF =>
          cases hal with
          | tup _ hal =>
            obtain ⟨D, h1, h2, h3, h4⟩ := viewD (δ := δ) s (hr i d hd) [(0, i, 0)] (by simp [subD, hds, hd]) (hal i d hd)
            refine ⟨d.ann, ?_, D, h1, h2, h3, h4⟩
            have : (ds.map DV.ann).toArray[i]? = some d.ann := by simp [hd]
            simp only [execOp, ho, ex, argv, hds, ann_tup, Instr.extract, Sem.run_bind, this, Sem.run_pure, Result.andThen_ok]
      · cases hv
    · cases hv

theorem run_indexAt_array {t e : TypeId} {len k : Nat} (hu : P.underlying t = some (.array len e)) (hk : szOf P e = some k) {b off : Nat} {kk : IntKind} {n : Int} (h0 : 0 ≤ n) (h1 : n < len) (w : World) :
    (Instr.indexAt t (.pointer (some ⟨b, off, none⟩)) (.int kk n)).run P w = .ok (.pointer (some ⟨b, off + n.toNat * k, none⟩)) w := by
  simp [Instr.indexAt, asIntOf, underlying, hu, h0, h1, run_sizeOf hk, Addr.add_lit, Instr.sureAddr]

theorem gives_aad (h : St G w S δ Fr) {a : Act} (ha : Rd δ a) {o : Oper} {t e : TypeId} {x i : Operand} {len k : Nat} {y j : Ar} (ho : o.op = .indexAddr t x i) (hu : P.underlying t = some (.array len e)) (hk : szOf P e = some k) (hc : chkA x y = true) (hc2 : chkA i j = true) {v : AV}
    (hv : valOf (.aad len k y j) (fun s => (δ s).er) = some v) : Gives P w S δ a o v := by
  obtain ⟨hy, he⟩ := chkA_sound hc ha
  obtain ⟨hj, hei⟩ := chkA_sound hc2 ha
  cases y with
  | c c => simp [valOf] at hv
  | t s =>
    simp only [valOf] at hv
    split at hv
    · rename_i s' n heq hn
      simp only [Ar.t.injEq] at heq
      subst heq
      split at hv
      · rename_i hcond
        obtain ⟨h0, h1⟩ := hcond
        obtain ⟨kk, hn⟩ := asI_sc hn
        obtain ⟨ei, _⟩ := h.argSc hj hn
        rw [ei] at hei
        cases hs : (δ s).er with
        | fp cs =>
          simp only [hs, Option.some.injEq] at hv
          subst hv
          obtain ⟨_, h2, _⟩ := h.leaf hs rfl
          obtain ⟨b, off, hp, hS, hcell⟩ := h2
          refine ⟨.pointer (some ⟨b, off + n.toNat * k, none⟩), ?_, Lf.fp hS fun m a hm => ?_⟩
          · simp only [execOp, ho, he, hei, argv, hp, Sem.run_bind, run_indexAt_array hu hk h0 h1, Result.andThen_ok, Sem.run_pure]
          · rw [List.getElem?_drop] at hm
            rw [show off + n.toNat * k + m = off + (n.toNat * k + m) from by omega]
            exact hcell _ a hm
        | _ =>
          simp only [hs] at hv
          split at hv
          · rename_i r p i j k' hadr
            simp only [Option.some.injEq] at hv
            subst hv
            obtain ⟨vh, bx, rowsD, b, F, hsub, hb, hp, hok, _⟩ := h.adrOf hadr
            refine ⟨.pointer (some ⟨b, i * k' + (j + n.toNat * k), none⟩), ?_, Lf.adr hsub hb⟩
            simp only [execOp, ho, he, hei, argv, hp, Sem.run_bind, run_indexAt_array hu hk h0 h1, Result.andThen_ok, Sem.run_pure, Nat.add_assoc]
          · cases hv
      · cases hv
    · cases hv
end Go.Abs
namespace Go.Abs
variable {w w' : World} {S S' : Nat → Prop} {G : Gi} {δ : Nat → DV} {Fr : Nat → Nat → Prop} {P : Program}

theorem flatten_get {α : Type} {rows : List (List α)} {k i j : Nat} {row : List α} {x : α} (hk : ∀ row ∈ rows, row.length = k) (h1 : rows[i]? = some row) (h2 : row[j]? = some x) : rows.flatten[i * k + j]? = some x := by
  induction rows generalizing i with
  | nil => simp at h1
  | cons r rs ih =>
    have hr := hk r (by simp)
    have hjk := row_lt hk h1 h2
    cases i with
    | zero =>
      simp only [List.getElem?_cons_zero, Option.some.injEq] at h1
      subst h1
      simp only [List.flatten_cons, Nat.zero_mul, Nat.zero_add]
      rw [List.getElem?_append_left (by omega)]
      exact h2
    | succ i =>
      simp only [List.getElem?_cons_succ] at h1
      simp only [List.flatten_cons]
      rw [List.getElem?_append_right (by rw [hr, Nat.succ_mul]; omega), hr, show (i + 1) * k + j - k = i * k + j from by rw [Nat.succ_mul]; omega]
      exact ih (fun row hrow => hk row (by simp [hrow])) h1
theorem flatten_length {α : Type} {rows : List (List α)} {k : Nat} (hk : ∀ row ∈ rows, row.length = k) : rows.flatten.length = rows.length * k := by
  induction rows with
  | nil => simp
  | cons r rs ih => simp only [List.flatten_cons, List.length_append, List.length_cons, hk r (by simp), ih (fun row hrow => hk row (by simp [hrow])), Nat.succ_mul]; omega

theorem OkL_append {l1 l2 : List DV} {F1 F2 : Nat → Prop} (h1 : OkL w S l1 F1) (h2 : OkL w S l2 F2) (hd : ∀ x, F1 x → ¬ F2 x) : OkL w S (l1 ++ l2) (fun x => F1 x ∨ F2 x) := by
  induction l1 generalizing F1 with
  | nil =>
    have : (fun x => F1 x ∨ F2 x) = F2 := funext fun x => propext ⟨fun h => h.elim (fun h => absurd h (h1 x)) id, .inr⟩
    rw [this]; exact h2
  | cons d l ih =>
    obtain ⟨Fa, Fb, ha, hb, hab, hF⟩ := h1
    refine ⟨Fa, fun x => Fb x ∨ F2 x, ha, ih hb (fun x hx => hd x ((hF x).2 (.inr hx))), ?_, fun x => ?_⟩
    · rintro x hx (h | h)
      · exact hab x hx h
      · exact hd x ((hF x).2 (.inl hx)) h
    · show F1 x ∨ F2 x ↔ Fa x ∨ Fb x ∨ F2 x
      rw [hF x]; exact or_assoc

theorem OkL.congr {l : List DV} {F F' : Nat → Prop} (h : OkL w S l F) (hF : ∀ x, F' x ↔ F x) : OkL w S l F' := by
  have : F' = F := funext fun x => propext (hF x)
  exact this ▸ h

theorem own_mk {bx : Bool} {k : Nat} {rows : List (List DV)} {b c : Nat} {arr : Array Value} {E : TypeId} {F : Nat → Prop} (hb : w.heap[b]? = some (.cells arr E (0, 0))) (hk : ∀ row ∈ rows, row.length = k)
    (hcap : if bx then rows.length = 1 ∧ arr.size = k else c * k = arr.size ∧ rows.length ≤ c) (hS : ¬ S b) (hok : OkL w S rows.flatten F) (hbF : ¬ F b) (ha : ∀ (n : Nat) d, rows.flatten[n]? = some d → arr[n]? = some d.ann) :
    Ok w S (.own (hdr bx b rows.length c) bx k rows) (fun x => x = b ∨ F x) := by
  obtain ⟨Fs, h1, h2, h3, h4⟩ := OkL_iff.1 hok
  refine .own bx k rows b c arr E (fun i j x => (∃ row d, rows[i]? = some row ∧ row[j]? = some d) ∧ Fs (i * k + j) x) _ hb hk hcap hS ?_ ?_ ?_ ?_ ?_ ?_
  · intro i j row d hi hj; exact ha _ d (flatten_get hk hi hj)
  · intro i j row d hi hj
    refine (h1 _ d (flatten_get hk hi hj)).congr fun x => ⟨fun h => h.2, fun h => ⟨⟨row, d, hi, hj⟩, h⟩⟩
  · rintro i j i' j' x ⟨⟨row, d, hi, hj⟩, hx⟩ ⟨⟨row', d', hi', hj'⟩, hx'⟩
    exact idx_inj (row_lt hk hi hj) (row_lt hk hi' hj') (h2 _ _ x hx hx')
  · rintro i j x ⟨h, _⟩; exact h
  · rintro i j ⟨_, h⟩; exact hbF ((h4 b).2 ⟨_, h⟩)
  · intro x
    constructor
    · rintro (h | h)
      · exact .inl h
      · obtain ⟨n, hn⟩ := (h4 x).1 h
        obtain ⟨d, hd⟩ := h3 n x hn
        have hlt : n < rows.length * k := by rw [← flatten_length hk]; exact (List.getElem?_eq_some_iff.1 hd).1
        have hk0 : 0 < k := by rcases Nat.eq_zero_or_pos k with h | h; · subst h; simp at hlt
                               · exact h
        have hi : n / k < rows.length := Nat.div_lt_of_lt_mul (by rw [Nat.mul_comm]; exact hlt)
        have hj : n % k < (rows[n / k]).length := by rw [hk _ (List.getElem_mem hi)]; exact Nat.mod_lt _ hk0
        refine .inr ⟨n / k, n % k, ⟨_, _, List.getElem?_eq_getElem hi, List.getElem?_eq_getElem hj⟩, ?_⟩
        rw [Nat.mul_comm, Nat.div_add_mod]; exact hn
    · rintro (h | ⟨i, j, _, h⟩)
      · exact .inl h
      · exact .inr ((h4 x).2 ⟨_, h⟩)

theorem own_parts {v : Value} {bx : Bool} {k : Nat} {rows : List (List DV)} {F : Nat → Prop} (h : Ok w S (.own v bx k rows) F) :
    (v = .slice none 0 0 ∧ bx = false ∧ rows = [] ∧ ∀ x, ¬ F x) ∨
    ∃ b c arr E Fc, v = hdr bx b rows.length c ∧ w.heap[b]? = some (.cells arr E (0, 0)) ∧ (∀ row ∈ rows, row.length = k) ∧ (if bx then rows.length = 1 ∧ arr.size = k else c * k = arr.size ∧ rows.length ≤ c) ∧ ¬ S b ∧ OkL w S rows.flatten Fc ∧ ¬ Fc b ∧
      (∀ x, F x ↔ x = b ∨ Fc x) ∧ (∀ (n : Nat) d, rows.flatten[n]? = some d → arr[n]? = some d.ann) := by
  cases h with
  | nil k _ hF => exact .inl ⟨rfl, rfl, rfl, hF⟩
  | own _ _ _ b c arr E Fs _ hb hk hcap hSb hv hr hd hval hbF hF =>
    refine .inr ⟨b, c, arr, E, fun x => ∃ i j, Fs i j x, rfl, hb, hk, hcap, hSb, ?_, fun ⟨i, j, h⟩ => hbF i j h, hF, ?_⟩
    · refine OkL_iff.2 ⟨fun n x => n < rows.length * k ∧ Fs (n / k) (n % k) x, ?_, ?_, ?_, ?_⟩
      · intro n d hd'
        have hlt : n < rows.length * k := by rw [← flatten_length hk]; exact (List.getElem?_eq_some_iff.1 hd').1
        have hk0 : 0 < k := by rcases Nat.eq_zero_or_pos k with h | h; · subst h; simp at hlt
                               · exact h
        have hi : n / k < rows.length := Nat.div_lt_of_lt_mul (by rw [Nat.mul_comm]; exact hlt)
        have hj : n % k < (rows[n / k]).length := by rw [hk _ (List.getElem_mem hi)]; exact Nat.mod_lt _ hk0
        have h1 := flatten_get hk (List.getElem?_eq_getElem hi) (List.getElem?_eq_getElem hj)
        rw [Nat.mul_comm, Nat.div_add_mod, hd'] at h1
        obtain rfl := Option.some.inj h1
        exact (hr _ _ _ _ (List.getElem?_eq_getElem hi) (List.getElem?_eq_getElem hj)).congr fun x => ⟨fun h => h.2, fun h => ⟨hlt, h⟩⟩
      · rintro n n' x ⟨h1, h2⟩ ⟨h3, h4⟩
        have := hd _ _ _ _ x h2 h4
        rw [← Nat.div_add_mod n k, ← Nat.div_add_mod n' k, this.1, this.2]
      · rintro n x ⟨h1, _⟩
        exact ⟨_, List.getElem?_eq_getElem (by rw [flatten_length hk]; exact h1)⟩
      · intro x
        constructor
        · rintro ⟨i, j, h⟩
          obtain ⟨row, d, h1, h2⟩ := hval i j x h
          have hjk := row_lt hk h1 h2
          have hi := (List.getElem?_eq_some_iff.1 h1).1
          have hk0 : 0 < k := by omega
          refine ⟨i * k + j, ?_, ?_⟩
          · calc i * k + j < i * k + k := by omega
              _ = (i + 1) * k := by rw [Nat.succ_mul]
              _ ≤ rows.length * k := Nat.mul_le_mul_right _ hi
          · have e1 : (i * k + j) / k = i := by rw [Nat.mul_comm, Nat.mul_add_div hk0, Nat.div_eq_of_lt hjk]; rfl
            have e2 : (i * k + j) % k = j := by rw [Nat.mul_comm, Nat.mul_add_mod]; exact Nat.mod_eq_of_lt hjk
            rw [e1, e2]; exact h
        · rintro ⟨n, _, h⟩; exact ⟨_, _, h⟩
    · intro n d hd'
      have hlt : n < rows.length * k := by rw [← flatten_length hk]; exact (List.getElem?_eq_some_iff.1 hd').1
      have hk0 : 0 < k := by rcases Nat.eq_zero_or_pos k with h | h; · subst h; simp at hlt
                             · exact h
      have hi : n / k < rows.length := Nat.div_lt_of_lt_mul (by rw [Nat.mul_comm]; exact hlt)
      have hj : n % k < (rows[n / k]).length := by rw [hk _ (List.getElem_mem hi)]; exact Nat.mod_lt _ hk0
      have h1 := flatten_get hk (List.getElem?_eq_getElem hi) (List.getElem?_eq_getElem hj)
      rw [Nat.mul_comm, Nat.div_add_mod, hd'] at h1
      obtain rfl := Option.some.inj h1
      have := hv _ _ _ _ (List.getElem?_eq_getElem hi) (List.getElem?_eq_getElem hj)
      rw [Nat.mul_comm, Nat.div_add_mod] at this
      exact this

theorem plain_of_cell {d : DV} {F : Nat → Prop} (h : Ok w S d F) (hc : cellA d.er = true) : plainV d.ann = true := by
  cases h with
  | lf a v _ ha _ =>
    cases a with
    | sc u => rw [ann_lf, ha.1]; exact ha.2
    | sl e k rows => obtain ⟨ad, c, hv⟩ := fz_slice (w := w) (S := S) ha; rw [ann_lf, hv]; rfl
    | own => exact ha.elim
    | _ => simp [cellA] at hc
  | nil => rfl
  | own bx k rows b c => cases bx <;> simp [hdr, plainV]
  | agg => simp [cellA] at hc
  | tup => simp [cellA] at hc

def cellsD : DV → List DV
  | .agg cs => cs
  | d => [d]
theorem cellsD_er (d : DV) (hl : Lfy d) : (cellsD d).map DV.er = cellsOf d.er := by
  cases d with
  | agg cs => simp [cellsD, cellsOf]
  | lf a v => cases hl with | lf _ _ h => cases a <;> simp_all [cellsD, cellsOf, leafy]
  | own => simp [cellsD, cellsOf]
  | tup => simp [cellsD, cellsOf]
theorem cells_plain {v : Value} (h : plainV v = true) : v.cells = #[v] := by cases v <;> simp_all [plainV, Value.cells]
theorem cellsD_ann {d : DV} {F : Nat → Prop} (h : Ok w S d F) (hc : (cellsOf d.er).all cellA = true) : d.ann.cells = ((cellsD d).map DV.ann).toArray := by
  cases hd : d with
  | agg cs => simp [cellsD, Value.cells]
  | lf a v =>
    subst hd
    have hl := h.lfy
    rw [← cellsD_er _ hl] at hc
    simp only [cellsD, List.map_cons, List.map_nil, List.all_cons, List.all_nil, Bool.and_true] at hc
    have := plain_of_cell h hc
    simp only [cellsD, List.map_cons, List.map_nil]
    exact cells_plain this
  | own hh b k rows =>
    subst hd
    have := plain_of_cell h (by simp [cellA])
    simp only [cellsD, List.map_cons, List.map_nil]
    exact cells_plain this
  | tup cs => subst hd; simp [cellsOf, cellA] at hc
theorem cellsD_ok {d : DV} {F : Nat → Prop} (h : Ok w S d F) : OkL w S (cellsD d) F := by
  have single : OkL w S [d] F := ⟨F, fun _ => False, h, fun _ h => h, fun _ _ h => h, fun x => by simp⟩
  cases d with
  | agg cs => exact Ok_agg_iff.1 h
  | lf a v => exact single
  | own => exact single
  | tup => exact single

theorem put_get (a : Act) (d : Nat) (v : Value) (h : d < a.tmps.size) (s : Nat) : (a.put (some d) v).tmps.getD s undef = if s = d then v else a.tmps.getD s undef := by
  simp only [Act.put, Array.getD_eq_getD_getElem?, Array.getElem?_setIfInBounds]
  by_cases hs : d = s
  · subst hs; simp [h]
  · have : ¬ s = d := fun e => hs e.symm
    simp [hs, this]

def Runs (P : Program) (G : Gi) (w : World) (S : Nat → Prop) (Fr : Nat → Nat → Prop) (a : Act) (o : Oper) (σ' : Sg) : Prop :=
  ∃ (n : Next) (v : Value) (w' : World) (S' : Nat → Prop) (δ' : Nat → DV) (F' : Nat → Nat → Prop), (execOp a.eval o).run P w = .ok n w' ∧ (n = .value v ∨ n = .skip ∧ v = undef) ∧ Rd δ' (a.put o.dst v) ∧ (fun s => (δ' s).er) = σ' ∧
    St G w' S' δ' F' ∧ Nx w S (Owned Fr) w' S' (Owned F')

def DstOK (G : Gi) (a : Act) (o : Oper) (d : Option Dst) : Prop :=
  match d with
  | none => o.dst = none
  | some d => o.dst = some d.d ∧ d.kl = G.als d.d ∧ d.rs = G.rtOf d.d ∧ d.d < a.tmps.size

theorem runs_of {S1 : Nat → Prop} {D : DV} {Ff : Nat → Prop} {δ1 : Nat → DV} {F1 : Nat → Nat → Prop} {a : Act} {o : Oper} {d : Dst} {σ' : Sg} (h : St G w S1 δ1 F1) (ha : Rd δ1 a) (hd : DstOK G a o (some d)) (hr : (execOp a.eval o).run P w = .ok (.value D.ann) w')
    (hw : ∀ b, S1 b → w'.heap[b]? = w.heap[b]?) (hf : ∀ s x, F1 s x → w'.heap[x]? = w.heap[x]?) (hSS : ∀ b, S1 b → S' b) (hfS : ∀ s x, F1 s x → ¬ S' x)
    (hD : Ok w' S' D Ff) (hdis : ∀ s x, F1 s x → ¬ Ff x) (hal : AlOK δ1 D) (hwr : wr d D.er (fun s => (δ1 s).er) = some σ') (hnx : Nx w S (Owned Fr) w' S' (fun x => Owned F1 x ∨ Ff x)) : Runs P G w S Fr a o σ' := by
  obtain ⟨h1, h2, h3, h4⟩ := hd
  obtain ⟨δ', F', hst, her, hann, hown⟩ := h.wr h2 h3 hw hf hSS hfS hD hdis hal hwr
  refine ⟨_, D.ann, w', S', δ', F', hr, .inl rfl, ?_, her, hst, hnx.trans (Nx.less hown)⟩
  intro s
  rw [h1, put_get a d.d D.ann h4 s, hann s]
  split
  · rfl
  · exact ha s

theorem runs_of_gives {a : Act} {o : Oper} {d : Dst} {σ' : Sg} {v : AV} (h : St G w S δ Fr) (ha : Rd δ a) (hd : DstOK G a o (some d)) (hg : Gives P w S δ a o v) (hwr : wr d v (fun s => (δ s).er) = some σ') : Runs P G w S Fr a o σ' := by
  obtain ⟨u, hr, D, rfl, rfl, hok, hal⟩ := hg
  exact runs_of h ha hd hr (fun _ _ => rfl) (fun _ _ _ => rfl) (fun _ h => h) (fun s x hx => (h.ok s).notS x hx) hok (fun _ _ _ h => h) hal hwr (Nx.less fun x hx => hx.elim id False.elim)
end Go.Abs
namespace Go.Abs
variable {w w' : World} {S S' : Nat → Prop} {G : Gi} {δ : Nat → DV} {Fr : Nat → Nat → Prop} {P : Program}

theorem alloc_old (w : World) (o : Obj) (b : Nat) (h : b < w.heap.size) : (w.alloc o).heap[b]? = w.heap[b]? := by
  show (w.heap.push o)[b]? = _
  rw [Array.getElem?_push, if_neg (by omega)]
theorem alloc_new (w : World) (o : Obj) : (w.alloc o).heap[w.heap.size]? = some o := by
  show (w.heap.push o)[w.heap.size]? = _
  simp

theorem Nx.alloc (w : World) (S U U' : Nat → Prop) (o : Obj) (h : ∀ x, U' x → U x ∨ x = w.heap.size) : Nx w S U (w.alloc o) S U' :=
  ⟨rfl, rfl, rfl, by simp, fun b hb _ => alloc_old w o b hb, fun _ h => h, fun _ h => .inl h, fun hl b hb => by have := hl b hb; simp; omega, fun x hx => (h x hx).imp id (fun e => by omega)⟩

theorem Nx.frz {w : World} {S U U' Fo : Nat → Prop} (h : ∀ x, U' x ∨ Fo x → U x) (hlt : ∀ x, Fo x → x < w.heap.size) : Nx w S U w (fun x => S x ∨ Fo x) U' :=
  ⟨rfl, rfl, rfl, Nat.le_refl _, fun _ _ _ => rfl, fun _ h => .inl h, fun x hx => hx.imp id fun hf => .inl (h x (.inr hf)), fun hl b hb => hb.elim (hl b) (hlt b), fun x hx => .inl (h x (.inl hx))⟩

theorem runs_mv (h : St G w S δ Fr) {a : Act} (ha : Rd δ a) {o : Oper} {x : Operand} {y : Ar} {d : Dst} (hd : DstOK G a o (some d)) (ho : o.op = .assign x) (hc : chkA x y = true) {σ' : Sg} (he : eff G (.mv y) (some d) (fun s => (δ s).er) = some σ') : Runs P G w S Fr a o σ' := by
  obtain ⟨hy, hev⟩ := chkA_sound hc ha
  simp only [eff] at he
  split at he
  · rename_i v τ ht
    obtain ⟨δ1, F1, D, Ff, hfl, her, hDe, hDa⟩ := h.tk hy ht
    subst her
    subst hDe
    exact runs_of hfl.st (fun s => (ha s).trans (hfl.ann s).symm) hd (by simp [execOp, ho, hev, hDa]) (fun _ _ => rfl) (fun _ _ _ => rfl) (fun _ h => h) (fun s x hx => (hfl.st.ok s).notS x hx) hfl.ok hfl.dis hfl.al he (Nx.less hfl.own)
  · cases he

theorem runs_new {δ1 : Nat → DV} {F1 : Nat → Nat → Prop} {a : Act} {o : Oper} {d : Dst} {σ' : Sg} {bx : Bool} {k c : Nat} {rows : List (List DV)} {Fd : Nat → Prop} {arr : Array Value} {E : TypeId} (h : St G w S δ1 F1) (hSlt : ∀ b, S b → b < w.heap.size) (ha : Rd δ1 a)
    (hd : DstOK G a o (some d)) (hr : (execOp a.eval o).run P w = .ok (.value (hdr bx w.heap.size rows.length c)) (w.alloc (.cells arr E))) (hok : OkL w S rows.flatten Fd) (hdis : ∀ s x, F1 s x → ¬ Fd x) (hk : ∀ row ∈ rows, row.length = k)
    (hcap : if bx then rows.length = 1 ∧ arr.size = k else c * k = arr.size ∧ rows.length ≤ c) (hv : ∀ (n : Nat) d, rows.flatten[n]? = some d → arr[n]? = some d.ann)
    (hwr : wr d (.own bx k (rows.map (·.map DV.er))) (fun s => (δ1 s).er) = some σ') (hown : ∀ x, Owned F1 x ∨ Fd x → Owned Fr x) : Runs P G w S Fr a o σ' := by
  have hlt := (Ok_agg_iff.2 hok).lt
  have hnS := (Ok_agg_iff.2 hok).notS
  have hold : ∀ b, b < w.heap.size → (w.alloc (.cells arr E)).heap[b]? = w.heap[b]? := fun b hb => alloc_old _ _ _ hb
  have hnode : Ok (w.alloc (.cells arr E)) S (.own (hdr bx w.heap.size rows.length c) bx k rows) (fun x => x = w.heap.size ∨ Fd x) := by
    refine own_mk (alloc_new w _) hk hcap (fun hs => by have := hSlt _ hs; omega) ?_ (fun hs => by have := hlt _ hs; omega) hv
    exact hok.mono (fun b hb => hold b (hSlt b hb)) (fun b hb => hold b (hlt b hb)) (fun _ h => h) hnS
  refine runs_of (D := .own (hdr bx w.heap.size rows.length c) bx k rows) h ha hd (by simpa using hr) (fun b hb => hold b (hSlt b hb)) (fun s x hx => hold x ((h.ok s).lt x hx)) (fun _ h => h) (fun s x hx => (h.ok s).notS x hx) hnode ?_ (.own _ _ _ _) (by simpa using hwr) ?_
  · rintro s x hx (rfl | hf)
    · have := (h.ok s).lt _ hx; omega
    · exact hdis s x hx hf
  · refine Nx.alloc _ _ _ _ _ ?_
    rintro x (hx | rfl | hx)
    · exact .inl (hown x (.inl hx))
    · exact .inr rfl
    · exact .inl (hown x (.inr hx))

theorem runs_bx (h : St G w S δ Fr) (hSlt : ∀ b, S b → b < w.heap.size) {a : Act} (ha : Rd δ a) {o : Oper} {y : Ar} {n : Nat} {d : Dst} (hd : DstOK G a o (some d)) (hy : ArOK y) {t : TypeId}
    (hr : (execOp a.eval o).run P w = .ok (.value (.pointer (some ⟨w.heap.size, 0, none⟩))) (w.alloc (.cells (argv δ y).cells t))) {σ' : Sg} (he : eff G (.bx n y) (some d) (fun s => (δ s).er) = some σ') : Runs P G w S Fr a o σ' := by
  simp only [eff] at he
  split at he
  · rename_i v τ ht
    split at he
    · rename_i hcond
      obtain ⟨hn, hcell⟩ := hcond
      obtain ⟨δ1, F1, D, Ff, hfl, her, hDe, hDa⟩ := h.tk hy ht
      subst her
      subst hDe
      have hm := cellsD_er D hfl.ok.lfy
      have hl : (cellsD D).length = n := by rw [← hn, ← hm]; simp
      have hcs := cellsD_ann hfl.ok hcell
      rw [hDa] at hcs
      refine runs_new (bx := true) (k := n) (c := 0) (rows := [cellsD D]) (Fd := Ff) (arr := (argv δ y).cells) (E := t) hfl.st hSlt (fun s => (ha s).trans (hfl.ann s).symm) hd (by rw [hr]; simp [hdr]) (by simpa using cellsD_ok hfl.ok) hfl.dis (by simpa using hl) ?_ ?_ ?_ hfl.own
      · simp [hcs, hl]
      · intro m e hme
        simp only [List.flatten_cons, List.flatten_nil, List.append_nil] at hme
        simp [hcs, hme]
      · simp only [List.map_cons, List.map_nil, hm]; exact he
    · cases he
  · cases he

theorem run_box {P : Program} (t : TypeId) (v : Value) (w : World) : (Instr.box t v).run P w = .ok (.pointer (some ⟨w.heap.size, 0, none⟩)) (w.alloc (.cells v.cells t)) := by
  simp [Instr.box, newVar, newRow]
theorem run_alloc {P : Program} (t : TypeId) (i : TypeInfo) (z : Value) (hi : P.info? t = some i) (hz : i.zero = some z) (w : World) : (Instr.alloc t true (.tuple #[])).run P w = .ok (.pointer (some ⟨w.heap.size, 0, none⟩)) (w.alloc (.cells z.cells t)) := by
  simp [Instr.alloc, zeroValue, typeInfo, hi, hz, newVar, newRow]

theorem OkL_splice {l r : List DV} {F1 F2 : Nat → Prop} (off : Nat) (h1 : OkL w S l F1) (h2 : OkL w S r F2) (hd : ∀ x, F1 x → ¬ F2 x) (hoff : off + r.length ≤ l.length) :
    ∃ F, OkL w S (l.take off ++ r ++ l.drop (off + r.length)) F ∧ ∀ x, F x → F1 x ∨ F2 x := by
  obtain ⟨Fs, g1, g2, g3, g4⟩ := OkL_iff.1 h1
  obtain ⟨Fr, k1, k2, k3, k4⟩ := OkL_iff.1 h2
  have hget : ∀ i, (l.take off ++ r ++ l.drop (off + r.length))[i]? = if i < off then l[i]? else if i < off + r.length then r[i - off]? else l[i]? := by
    intro i
    have hlen : (l.take off).length = off := by simp; omega
    by_cases c1 : i < off
    · rw [List.append_assoc, List.getElem?_append_left (by omega), List.getElem?_take, if_pos c1, if_pos c1]
    · by_cases c2 : i < off + r.length
      · rw [List.getElem?_append_left (by simp; omega), List.getElem?_append_right (by omega), hlen, if_neg c1, if_pos c2]
      · rw [List.getElem?_append_right (by simp; omega), List.getElem?_drop, if_neg c1, if_neg c2]
        congr 1
        simp
        omega
  refine ⟨fun x => ∃ i, (if i < off then Fs i x else if i < off + r.length then Fr (i - off) x else Fs i x), OkL_iff.2 ⟨fun i x => if i < off then Fs i x else if i < off + r.length then Fr (i - off) x else Fs i x, ?_, ?_, ?_, fun x => Iff.rfl⟩, ?_⟩
  · intro i e he
    rw [hget] at he
    by_cases c1 : i < off
    · simp only [c1, if_true] at he ⊢; exact g1 i e he
    · by_cases c2 : i < off + r.length
      · simp only [c1, c2, if_true, if_false] at he ⊢; exact k1 _ e he
      · simp only [c1, c2, if_false] at he ⊢; exact g1 i e he
  · intro i i' x hx hy
    have out : ∀ i, Fs i x → F1 x := fun i h => (g4 x).2 ⟨i, h⟩
    have inn : ∀ i, Fr i x → F2 x := fun i h => (k4 x).2 ⟨i, h⟩
    by_cases c1 : i < off <;> by_cases c2 : i' < off <;> by_cases c3 : i < off + r.length <;> by_cases c4 : i' < off + r.length <;> simp only [c1, c2, c3, c4, if_true, if_false] at hx hy <;>
      first
        | exact g2 _ _ x hx hy
        | exact absurd (inn _ hy) (hd x (out _ hx))
        | exact absurd (inn _ hx) (hd x (out _ hy))
        | (have := k2 _ _ x hx hy; omega)
        | omega
  · intro i x hx
    rw [hget]
    by_cases c1 : i < off
    · simp only [c1, if_true] at hx ⊢; exact g3 i x hx
    · by_cases c2 : i < off + r.length
      · simp only [c1, c2, if_true, if_false] at hx ⊢; exact k3 _ x hx
      · simp only [c1, c2, if_false] at hx ⊢; exact g3 i x hx
  · rintro x ⟨i, hx⟩
    by_cases c1 : i < off
    · simp only [c1, if_true] at hx; exact .inl ((g4 x).2 ⟨i, hx⟩)
    · by_cases c2 : i < off + r.length
      · simp only [c1, c2, if_true, if_false] at hx; exact .inr ((k4 x).2 ⟨_, hx⟩)
      · simp only [c1, c2, if_false] at hx; exact .inl ((g4 x).2 ⟨i, hx⟩)

theorem splice_map (ds r : List DV) (off : Nat) : (ds.take off ++ r ++ ds.drop (off + r.length)).map DV.er = splice (ds.map DV.er) off (r.map DV.er) := by
  simp [splice, List.map_take, List.map_drop]

theorem fold_set (vs : List Value) (off : Nat) (cells : Array Value) (h : off + vs.length ≤ cells.size) (m : Nat) :
    ((vs.zipIdx m).foldl (fun cs (x : Value × Nat) => cs.setIfInBounds (off + x.2) x.1) cells).toList = cells.toList.take (off + m) ++ vs ++ cells.toList.drop (off + m + vs.length) ∨ off + m + vs.length > cells.size := by
  induction vs generalizing cells m with
  | nil => left; simp
  | cons v vs ih =>
    by_cases hb : off + m + (v :: vs).length > cells.size
    · exact .inr hb
    · left
      simp only [List.zipIdx_cons, List.foldl_cons]
      have h1 := ih (cells.setIfInBounds (off + m) v) (by simp at h ⊢; omega) (m + 1)
      simp only [Array.size_setIfInBounds] at h1
      rcases h1 with h1 | h1
      · rw [h1]
        have hlt : off + m < cells.toList.length := by simp at hb ⊢; omega
        simp only [Array.toList_setIfInBounds]
        rw [List.take_set, List.drop_set_of_lt (by omega)]
        rw [show off + (m + 1) = off + m + 1 from by omega, List.take_succ_eq_append_getElem hlt, List.set_append_right _ _ (by simp; omega)]
        simp only [List.length_take, Nat.min_eq_left (Nat.le_of_lt hlt), Nat.sub_self, List.set_cons_zero, List.append_assoc, List.cons_append, List.length_cons, List.nil_append]
        rw [show off + m + 1 + vs.length = off + m + (vs.length + 1) from by omega]
      · simp at h1 hb; omega
end Go.Abs
namespace Go.Abs
variable {w w' : World} {S S' : Nat → Prop} {G : Gi} {δ : Nat → DV} {Fr : Nat → Nat → Prop} {P : Program}

theorem fill_cons (place : Nat → Option (Nat × Nat)) (cells : List Value) (i off n : Nat) (v : Value) (rest : List (Nat × Value)) (vs : List Value) (hp : place i = some (off, n)) (hv : v.cells = vs.toArray) (hn : vs.length = n) (hb : off + n ≤ cells.length) :
    Instr.fill place cells.toArray ((i, v) :: rest) = Instr.fill place (cells.take off ++ vs ++ cells.drop (off + vs.length)).toArray rest := by
  have hc : (decide (v.cells.size ≠ n) || decide (off + v.cells.size > cells.toArray.size)) = false := by
    simp [hv, hn]; omega
  have hf := fold_set vs off cells.toArray (by simp; omega) 0
  simp only [Nat.add_zero] at hf
  rcases hf with hf | hf
  · have : (v.cells.zipIdx.foldl (fun cs (x : Value × Nat) => cs.setIfInBounds (off + x.2) x.1) cells.toArray) = (cells.take off ++ vs ++ cells.drop (off + vs.length)).toArray := by
      apply Array.ext'
      rw [hv, ← hf]
      have e : vs.toArray.zipIdx = vs.zipIdx.toArray := by simp
      rw [e]
      simp
    simp only [Instr.fill, hp, hc]
    simp only [Bool.false_eq_true, if_false]
    exact congrArg (fun z => Instr.fill place z rest) this
  · simp at hf; omega

def chkParts (place : Nat → Option (Nat × Nat)) : List (Nat × Operand) → List (Nat × Nat × Ar) → Bool
  | [], [] => true
  | (i, x) :: qs, (off, n, y) :: ps => (match place i with | some (o', n') => o' == off && n' == n | none => false) && chkA x y && chkParts place qs ps
  | _, _ => false

theorem St.bldL {a : Act} {place : Nat → Option (Nat × Nat)} (ps : List (Nat × Nat × Ar)) : ∀ (qs : List (Nat × Operand)) {δ : Nat → DV} {Fr : Nat → Nat → Prop} {ds : List DV} {Fd : Nat → Prop} {cs' : List AV} {τ : Sg}, St G w S δ Fr → Rd δ a →
    chkParts place qs ps = true → OkL w S ds Fd → (∀ s x, Fr s x → ¬ Fd x) → (ds.map DV.er).all cellA = true → Abs.bldL G ps (ds.map DV.er) (fun s => (δ s).er) = some (cs', τ) →
    ∃ δ' F' ds' Fd', St G w S δ' F' ∧ (fun s => (δ' s).er) = τ ∧ (∀ s, (δ' s).ann = (δ s).ann) ∧ OkL w S ds' Fd' ∧ ds'.map DV.er = cs' ∧ Instr.fill place (ds.map DV.ann).toArray (qs.map fun (i, x) => (i, a.eval x)) = some (ds'.map DV.ann).toArray ∧
      (∀ s x, F' s x → ¬ Fd' x) ∧ (∀ x, Owned F' x ∨ Fd' x → Owned Fr x ∨ Fd x) ∧ cs'.all cellA = true := by
  induction ps with
  | nil =>
    intro qs δ Fr ds Fd cs' τ h ha hc hok hdis hcell hb
    cases qs with
    | cons q qs => simp [chkParts] at hc
    | nil =>
      simp only [Abs.bldL, Option.some.injEq, Prod.mk.injEq] at hb
      obtain ⟨rfl, rfl⟩ := hb
      exact ⟨δ, Fr, ds, Fd, h, rfl, fun _ => rfl, hok, rfl, by simp [Instr.fill], hdis, fun x hx => hx, hcell⟩
  | cons p ps ih =>
    obtain ⟨off, n, y⟩ := p
    intro qs δ Fr ds Fd cs' τ h ha hc hok hdis hcell hb
    cases qs with
    | nil => simp [chkParts] at hc
    | cons q qs =>
      obtain ⟨i, x⟩ := q
      simp only [chkParts, Bool.and_eq_true] at hc
      obtain ⟨⟨hp, hcx⟩, hcr⟩ := hc
      have hp' : place i = some (off, n) := by
        split at hp
        · rename_i o' n' hpl; simp only [Bool.and_eq_true, beq_iff_eq] at hp; rw [hpl, hp.1, hp.2]
        · cases hp
      obtain ⟨hy, hev⟩ := chkA_sound hcx ha
      simp only [Abs.bldL] at hb
      split at hb
      · rename_i v τ1 ht
        split at hb
        · rename_i hcond
          obtain ⟨hn, hoff, hall⟩ := hcond
          obtain ⟨δ1, F1, D, Ff, hfl, her, hDe, hDa⟩ := h.tk hy ht
          subst her
          subst hDe
          have hm := cellsD_er D hfl.ok.lfy
          have hl : (cellsD D).length = n := by rw [← hn, ← hm]; simp
          have hcs := cellsD_ann hfl.ok hall
          have hdF : ∀ x, Fd x → ¬ Ff x := by
            intro x hx hf
            obtain ⟨t, ht⟩ := hfl.own x (.inr hf)
            exact hdis t x ht hx
          have hoff' : off + (cellsD D).length ≤ ds.length := by rw [hl]; simpa using hoff
          obtain ⟨F2, hok2, hsub2⟩ := OkL_splice off hok (cellsD_ok hfl.ok) hdF hoff'
          have hdis2 : ∀ s x, F1 s x → ¬ F2 x := by
            intro s x hx h2
            rcases hsub2 x h2 with h3 | h3
            · obtain ⟨t, ht⟩ := hfl.own x (.inl ⟨s, hx⟩)
              exact hdis t x ht h3
            · exact hfl.dis s x hx h3
          have hsp := splice_map ds (cellsD D) off
          have hcell2 : ((ds.take off ++ cellsD D ++ ds.drop (off + (cellsD D).length)).map DV.er).all cellA = true := by
            rw [List.all_eq_true] at hcell hall ⊢
            intro c hc
            simp only [List.map_append, List.mem_append] at hc
            rcases hc with (hc | hc) | hc
            · exact hcell c (by rw [List.map_take] at hc; exact List.mem_of_mem_take hc)
            · rw [hm] at hc; exact hall c hc
            · exact hcell c (by rw [List.map_drop] at hc; exact List.mem_of_mem_drop hc)
          rw [← hm] at hb
          rw [← hsp] at hb
          obtain ⟨δ2, F2', ds', Fd', hst2, her2, hann2, hokk, hmap, hfill, hdis3, hown3, hcell3⟩ := ih qs hfl.st (fun s => (ha s).trans (hfl.ann s).symm) hcr hok2 hdis2 hcell2 hb
          refine ⟨δ2, F2', ds', Fd', hst2, her2, fun s => (hann2 s).trans (hfl.ann s), hokk, hmap, ?_, hdis3, ?_, hcell3⟩
          · simp only [List.map_cons]
            rw [fill_cons place (ds.map DV.ann) i off n (a.eval x) _ ((cellsD D).map DV.ann) hp' (by rw [hev, ← hDa]; exact hcs) (by simpa using hl) (by simpa using hoff)]
            rw [← hfill]
            congr 2
            simp [List.map_take, List.map_drop]
          · intro x hx
            rcases hown3 x hx with h3 | h3
            · exact .inl (hfl.own x (.inl h3))
            · rcases hsub2 x h3 with h4 | h4
              · exact .inr h4
              · exact .inl (hfl.own x (.inr h4))
        · cases hb
      · cases hb

theorem runs_bld (h : St G w S δ Fr) {a : Act} (ha : Rd δ a) {o : Oper} {t : TypeId} {parts : Array (Nat × Operand)} {place : Nat → Option (Nat × Nat)} {z : List AV} {zd : List DV} {ps : List (Nat × Nat × Ar)} {d : Dst} (hd : DstOK G a o (some d)) (ho : o.op = .build t parts)
    (hz : cstL z = some zd) (hzc : z.all cellA = true) (hch : chkParts place parts.toList ps = true)
    (hr : ∀ cells : Array Value, Instr.fill place (zd.map DV.ann).toArray (parts.toList.map fun (i, x) => (i, a.eval x)) = some cells → (Instr.build t (parts.map fun (i, x) => (i, a.eval x))).run P w = .ok (.agg cells) w) {σ' : Sg}
    (he : eff G (.bld z ps) (some d) (fun s => (δ s).er) = some σ') : Runs P G w S Fr a o σ' := by
  have hcst : zd.map DV.er = z ∧ OkL w S zd (fun _ => False) := by
    have := cst_facts (w := w) (S := S) (δ := δ) (.agg z) (.agg zd) (by simp [cstD, hz])
    exact ⟨by simpa using this.1, Ok_agg_iff.1 this.2.1⟩
  simp only [eff] at he
  split at he
  · rename_i cs τ hb
    rw [← hcst.1] at hb hzc
    obtain ⟨δ', F', ds', Fd', hst, her, hann, hok, hmap, hfill, hdis, hown, hcell⟩ := h.bldL (a := a) ps parts.toList ha hch hcst.2 (fun _ _ _ h => h) hzc hb
    subst her
    subst hmap
    refine runs_of (D := .agg ds') (Ff := Fd') hst (fun s => (ha s).trans (hann s).symm) hd ?_ (fun _ _ => rfl) (fun _ _ _ => rfl) (fun _ h => h) (fun s x hx => (hst.ok s).notS x hx) (Ok_agg_iff.2 hok) hdis (.agg _ fun i e hi => ?_) (by simpa using he) (Nx.less ?_)
    · have := hr _ hfill
      simp only [execOp, ho, Sem.run_bind, this, Result.andThen_ok, Sem.run_pure, ann_agg]
    · exact AlOK_cells (fun a ha => by rw [List.all_eq_true] at hcell; exact hcell a ha) e (List.mem_of_getElem? hi)
    · intro x hx
      rcases hown x hx with h1 | h1
      · exact h1
      · exact h1.elim
  · cases he

theorem flatten_set {α : Type} {rows : List (List α)} {k i : Nat} {r : List α} (hk : ∀ row ∈ rows, row.length = k) (hi : i < rows.length) (hr : r.length = k) : (rows.set i r).flatten = rows.flatten.take (i * k) ++ r ++ rows.flatten.drop (i * k + r.length) := by
  induction rows generalizing i with
  | nil => simp at hi
  | cons x xs ih =>
    have hx := hk x (by simp)
    cases i with
    | zero => simp [hr, ← hx]
    | succ i =>
      simp only [List.set_cons_succ, List.flatten_cons]
      rw [ih (fun row hrow => hk row (by simp [hrow])) (by simpa using hi)]
      have e1 : (x ++ xs.flatten).take ((i + 1) * k) = x ++ xs.flatten.take (i * k) := by
        rw [show (i + 1) * k = x.length + i * k from by rw [Nat.succ_mul, hx]; omega, List.take_length_add_append]
      have e2 : (x ++ xs.flatten).drop ((i + 1) * k + r.length) = xs.flatten.drop (i * k + r.length) := by
        rw [show (i + 1) * k + r.length = x.length + (i * k + r.length) from by rw [Nat.succ_mul, hx]; omega, List.drop_length_add_append]
      rw [e1, e2]
      simp [List.append_assoc]

def chkRows (k : Nat) : List (Nat × Operand) → List (Nat × Ar) → Bool
  | [], [] => true
  | (i, x) :: qs, (j, y) :: ps => i == j && chkA x y && chkRows k qs ps
  | _, _ => false

theorem St.bslL {a : Act} {k : Nat} (ps : List (Nat × Ar)) : ∀ (qs : List (Nat × Operand)) {δ : Nat → DV} {Fr : Nat → Nat → Prop} {ds : List (List DV)} {Fd : Nat → Prop} {rs : List (List AV)} {τ : Sg}, St G w S δ Fr → Rd δ a →
    chkRows k qs ps = true → OkL w S ds.flatten Fd → (∀ r ∈ ds, r.length = k) → (∀ s x, Fr s x → ¬ Fd x) → Abs.bslL G k ps (ds.map (·.map DV.er)) (fun s => (δ s).er) = some (rs, τ) →
    ∃ (δ' : Nat → DV) (F' : Nat → Nat → Prop) (ds' : List (List DV)) (Fd' : Nat → Prop), St G w S δ' F' ∧ (fun s => (δ' s).er) = τ ∧ (∀ s, (δ' s).ann = (δ s).ann) ∧ OkL w S ds'.flatten Fd' ∧ (∀ r ∈ ds', r.length = k) ∧ ds'.length = ds.length ∧ ds'.map (·.map DV.er) = rs ∧
      Instr.fill (fun i => some (i * k, k)) (ds.flatten.map DV.ann).toArray (qs.map fun (i, x) => (i, a.eval x)) = some (ds'.flatten.map DV.ann).toArray ∧ (∀ s x, F' s x → ¬ Fd' x) ∧ (∀ x, Owned F' x ∨ Fd' x → Owned Fr x ∨ Fd x) := by
  induction ps with
  | nil =>
    intro qs δ Fr ds Fd rs τ h ha hc hok hk hdis hb
    cases qs with
    | cons q qs => simp [chkRows] at hc
    | nil =>
      simp only [Abs.bslL, Option.some.injEq, Prod.mk.injEq] at hb
      obtain ⟨rfl, rfl⟩ := hb
      exact ⟨δ, Fr, ds, Fd, h, rfl, fun _ => rfl, hok, hk, rfl, rfl, by simp [Instr.fill], hdis, fun x hx => hx⟩
  | cons p ps ih =>
    obtain ⟨j, y⟩ := p
    intro qs δ Fr ds Fd rs τ h ha hc hok hk hdis hb
    cases qs with
    | nil => simp [chkRows] at hc
    | cons q qs =>
      obtain ⟨i, x⟩ := q
      simp only [chkRows, Bool.and_eq_true, beq_iff_eq] at hc
      obtain ⟨⟨rfl, hcx⟩, hcr⟩ := hc
      obtain ⟨hy, hev⟩ := chkA_sound hcx ha
      simp only [Abs.bslL] at hb
      split at hb
      · rename_i v τ1 ht
        split at hb
        · rename_i hcond
          obtain ⟨hn, hi, hall⟩ := hcond
          obtain ⟨δ1, F1, D, Ff, hfl, her, hDe, hDa⟩ := h.tk hy ht
          subst her
          subst hDe
          have hm := cellsD_er D hfl.ok.lfy
          have hl : (cellsD D).length = k := by rw [← hn, ← hm]; simp
          have hcs := cellsD_ann hfl.ok hall
          have hi' : i < ds.length := by simpa using hi
          have hdF : ∀ x, Fd x → ¬ Ff x := by
            intro x hx hf
            obtain ⟨t, ht⟩ := hfl.own x (.inr hf)
            exact hdis t x ht hx
          have hb2 : i * k + (cellsD D).length ≤ ds.flatten.length := by
            rw [flatten_length hk, hl, ← Nat.succ_mul]; exact Nat.mul_le_mul_right _ hi'
          obtain ⟨F2, hok2, hsub2⟩ := OkL_splice (i * k) hok (cellsD_ok hfl.ok) hdF hb2
          rw [← flatten_set hk hi' hl] at hok2
          have hdis2 : ∀ s x, F1 s x → ¬ F2 x := by
            intro s x hx h2
            rcases hsub2 x h2 with h3 | h3
            · obtain ⟨t, ht⟩ := hfl.own x (.inl ⟨s, hx⟩)
              exact hdis t x ht h3
            · exact hfl.dis s x hx h3
          have hk2 : ∀ r ∈ ds.set i (cellsD D), r.length = k := by
            intro r hr
            rcases List.mem_or_eq_of_mem_set hr with h | rfl
            · exact hk r h
            · exact hl
          rw [← hm] at hb
          rw [← List.map_set (f := fun x : List DV => x.map DV.er)] at hb
          obtain ⟨δ2, F2', ds', Fd', hst2, her2, hann2, hokk, hk3, hlen, hmap, hfill, hdis3, hown3⟩ := ih qs hfl.st (fun s => (ha s).trans (hfl.ann s).symm) hcr hok2 hk2 hdis2 hb
          refine ⟨δ2, F2', ds', Fd', hst2, her2, fun s => (hann2 s).trans (hfl.ann s), hokk, hk3, by simpa using hlen, hmap, ?_, hdis3, ?_⟩
          · simp only [List.map_cons]
            rw [fill_cons _ (ds.flatten.map DV.ann) i (i * k) k (a.eval x) _ ((cellsD D).map DV.ann) rfl (by rw [hev, ← hDa]; exact hcs) (by simpa using hl) (by rw [List.length_map]; rw [hl] at hb2; exact hb2)]
            rw [← hfill, flatten_set hk hi' hl]
            congr 2
            simp [List.map_take, List.map_drop]
          · intro x hx
            rcases hown3 x hx with h3 | h3
            · exact .inl (hfl.own x (.inl h3))
            · rcases hsub2 x h3 with h4 | h4
              · exact .inr h4
              · exact .inl (hfl.own x (.inr h4))
        · cases hb
      · cases hb

def cstR : List (List AV) → Option (List (List DV))
  | [] => some []
  | r :: rs => match cstL r, cstR rs with
    | some d, some ds => some (d :: ds)
    | _, _ => none
theorem cstR_facts (rs : List (List AV)) (ds : List (List DV)) (h : cstR rs = some ds) : ds.map (·.map DV.er) = rs ∧ OkL w S ds.flatten (fun _ => False) := by
  induction rs generalizing ds with
  | nil => simp only [cstR, Option.some.injEq] at h; subst h; exact ⟨rfl, fun _ h => h⟩
  | cons r rs ih =>
    simp only [cstR] at h
    split at h
    · rename_i d ds' h1 h2
      obtain rfl := Option.some.inj h
      obtain ⟨g1, g2⟩ := ih ds' h2
      have := cst_facts (w := w) (S := S) (δ := fun _ => default) (.agg r) (.agg d) (by simp [cstD, h1])
      refine ⟨by simp [g1]; simpa using this.1, ?_⟩
      simp only [List.flatten_cons]
      exact (OkL_append (Ok_agg_iff.1 this.2.1) g2 (fun _ h => h.elim)).congr fun x => by simp
    · cases h

theorem runs_bsl (h : St G w S δ Fr) (hSlt : ∀ b, S b → b < w.heap.size) {a : Act} (ha : Rd δ a) {o : Oper} {t e : TypeId} {len k : Nat} {parts : Array (Nat × Operand)} {z : List (List AV)} {zd : List (List DV)} {ps : List (Nat × Ar)} {d : Dst} (hd : DstOK G a o (some d)) (ho : o.op = .buildSlice t len parts)
    (hz : cstR z = some zd) (hzk : ∀ r ∈ z, r.length = k) (hzl : z.length = len) (hch : chkRows k parts.toList ps = true)
    (hr : ∀ cells : Array Value, Instr.fill (fun i => some (i * k, k)) (zd.flatten.map DV.ann).toArray (parts.toList.map fun (i, x) => (i, a.eval x)) = some cells →
      (Instr.buildSlice t len (parts.map fun (i, x) => (i, a.eval x))).run P w = .ok (.slice (some ⟨w.heap.size, 0, none⟩) len len) (w.alloc (.cells cells e))) {σ' : Sg}
    (he : eff G (.bsl k z ps) (some d) (fun s => (δ s).er) = some σ') : Runs P G w S Fr a o σ' := by
  obtain ⟨hzm, hzok⟩ := cstR_facts (w := w) (S := S) z zd hz
  have hzdk : ∀ r ∈ zd, r.length = k := by
    intro r hr
    have := hzk (r.map DV.er) (by rw [← hzm]; exact List.mem_map_of_mem hr)
    simpa using this
  have hzdl : zd.length = len := by rw [← hzl, ← hzm]; simp
  simp only [eff] at he
  split at he
  · rename_i rs τ hb
    rw [← hzm] at hb
    obtain ⟨δ', F', ds', Fd', hst, her, hann, hok, hk, hlen, hmap, hfill, hdis, hown⟩ := h.bslL (a := a) ps parts.toList ha hch hzok hzdk (fun _ _ _ h => h) hb
    subst her
    subst hmap
    refine runs_new (bx := false) (k := k) (c := len) (rows := ds') (Fd := Fd') (arr := (ds'.flatten.map DV.ann).toArray) (E := e) hst hSlt (fun s => (ha s).trans (hann s).symm) hd ?_ hok hdis hk ?_ ?_ he ?_
    · have := hr _ hfill
      simp only [execOp, ho, Sem.run_bind, this, Result.andThen_ok, Sem.run_pure, hdr, Bool.false_eq_true, if_false, hlen, hzdl]
    · simp only [Bool.false_eq_true, if_false, List.size_toArray, List.length_map, flatten_length hk, hlen, hzdl]
      exact ⟨trivial, Nat.le_refl _⟩
    · intro n d hn; rw [List.getElem?_toArray, List.getElem?_map, hn]; rfl
    · intro x hx
      rcases hown x hx with h1 | h1
      · exact h1
      · exact h1.elim
  · cases he
end Go.Abs
namespace Go.Abs
variable {w w' : World} {S S' : Nat → Prop} {G : Gi} {δ : Nat → DV} {Fr : Nat → Nat → Prop} {P : Program}

def Bd (v : Option Value) (dflt n : Nat) : Prop := (v = none ∧ n = dflt) ∨ ∃ kk i, v = some (.int kk i) ∧ 0 ≤ i ∧ i.toNat = n

theorem St.bd (h : St G w S δ Fr) {a : Act} (ha : Rd δ a) {x : Option Operand} {y : Option Ar} (hc : chkO x y = true) {dflt n : Nat} (ho : optI (fun s => (δ s).er) y dflt = some n) : Bd (x.map a.eval) dflt n ∧ (x = none ↔ y = none) := by
  unfold chkO at hc
  split at hc
  · simp only [optI, Option.some.injEq] at ho; exact ⟨.inl ⟨rfl, ho.symm⟩, by simp⟩
  · rename_i x y
    obtain ⟨hy, he⟩ := chkA_sound hc ha
    simp only [optI] at ho
    split at ho
    · rename_i i hi
      split at ho
      · rename_i h0
        simp only [Option.some.injEq] at ho
        obtain ⟨kk, hi⟩ := asI_sc hi
        obtain ⟨e1, _⟩ := h.argSc hy hi
        exact ⟨.inr ⟨kk, i, by simp [he, e1], h0, ho⟩, by simp⟩
      · cases ho
    · cases ho
  · cases hc

theorem run_bound {kk : IntKind} {i : Int} {y n : Nat} {code : BoundsCode} (h0 : 0 ≤ i) (hn : i.toNat = n) (hy : n ≤ y) (w : World) : (Instr.sliceBound (.int kk i) y code).run P w = .ok n w := by
  have : i ≤ y := by omega
  simp [Instr.sliceBound, asIntOf, h0, this, hn]

theorem run_cut {t e : TypeId} {k len cap l h m : Nat} (hu : P.underlying t = some (.slice e)) (hk : szOf P e = some k) {lo hi mx : Option Value} (hl : Bd lo 0 l) (hh : Bd hi len h) (hm : Bd mx cap m) (hmh : mx ≠ none → hi ≠ none) (h1 : l ≤ h) (h2 : h ≤ m) (h3 : m ≤ cap) (ad : Option Addr) (w : World) :
    (Instr.sliceAt t (.slice ad len cap) lo hi mx).run P w = .ok (.slice (if m = l then ad else ad.map (·.add (l * k))) (h - l) (m - l)) w := by
  have hb : (Instr.sliceBounds true len cap lo hi mx).run P w = .ok (l, h, m) w := by
    rcases hm with ⟨rfl, rfl⟩ | ⟨km, im, rfl, hm0, hmn⟩ <;> rcases hh with ⟨rfl, rfl⟩ | ⟨kh, ih, rfl, hh0, hhn⟩ <;> rcases hl with ⟨rfl, rfl⟩ | ⟨kl, il, rfl, hl0, hln⟩ <;>
      first
        | (simp [Instr.sliceBounds, run_bound hm0 hmn h3, run_bound hh0 hhn h2, run_bound hl0 hln h1]; done)
        | (simp [Instr.sliceBounds, run_bound hm0 hmn h3, run_bound hh0 hhn h2]; done)
        | (simp [Instr.sliceBounds, run_bound hh0 hhn h2, run_bound hl0 hln h1]; done)
        | (simp [Instr.sliceBounds, run_bound hh0 hhn h2]; done)
        | (simp [Instr.sliceBounds, run_bound hl0 hln h1]; done)
        | (simp [Instr.sliceBounds]; done)
        | exact absurd rfl (hmh (by simp))
  have : (Instr.sliceAt t (.slice ad len cap) lo hi mx) = (do match ← underlying t with
      | .array n elem =>
        let a ← Instr.sureAddr (.slice ad len cap)
        let (l, h, m) ← Instr.sliceBounds false n n lo hi mx
        let size ← sizeOf elem
        pure (.slice (some (if m = l then a else a.add (l * size))) (h - l) (m - l))
      | _ => Instr.slice t (.slice ad len cap) lo hi mx) := rfl
  rw [this]
  simp only [Sem.run_bind, run_underlying hu, Result.andThen_ok]
  have h4 : (Instr.slice t (.slice ad len cap) lo hi mx) = (do
      match ← underlying t, (Value.slice ad len cap) with
      | .string, .string s =>
        if mx.isSome then stuck "Slice: full slice of a string"
        let (l, h, _) ← Instr.sliceBounds false s.size s.size lo hi none
        pure (.string (s.extract l h))
      | .slice elem, .slice a len cap =>
        let (l, h, m) ← Instr.sliceBounds true len cap lo hi mx
        let size ← sizeOf elem
        pure (.slice (if m = l then a else a.map (·.add (l * size))) (h - l) (m - l))
      | .pointer arr, x =>
        let a ← asAddr x
        let .array n elem ← underlying arr | stuck "Slice: array type expected"
        let (l, h, m) ← Instr.sliceBounds false n n lo hi mx
        let size ← sizeOf elem
        pure (.slice (some (if m = l then a else a.add (l * size))) (h - l) (m - l))
      | _, _ => stuck "Slice: string, slice or pointer to array expected") := rfl
  rw [h4]
  simp only [Sem.run_bind, run_underlying hu, Result.andThen_ok, hb, run_sizeOf hk, Sem.run_pure]

theorem Fz.cut {e : Bool} {k : Nat} {rows : List (List AV)} {ad : Option Addr} {n cap l h m : Nat} {x : Bool} (hf : Fz w S (.sl e k rows) (.slice ad n cap)) (h1 : l ≤ h) (h2 : h ≤ rows.length) (h3 : h ≤ m) (hx : x = true → m = h) :
    Fz w S (.sl x k ((rows.drop l).take (h - l))) (.slice (if m = l then ad else ad.map (·.add (l * k))) (h - l) (m - l)) := by
  have hlen : ((rows.drop l).take (h - l)).length = h - l := by simp; omega
  by_cases heq : h = l
  · subst heq
    simp only [Nat.sub_self, List.take_zero]
    exact .nil x k _ _ (fun hh => by have := hx hh; omega)
  · have hm : m ≠ l := by omega
    cases hf with
    | nil => simp at h2; omega
    | sl _ _ _ b off c vs hxe hlc hS hk hc hr =>
      simp only [hm, if_false, Option.map_some, Addr.add_lit]
      have hget : ∀ i row, ((rows.drop l).take (h - l))[i]? = some row → rows[l + i]? = some row := by
        intro i row hi
        rw [List.getElem?_take] at hi
        split at hi
        · simpa using hi
        · cases hi
      have key : Fz w S (.sl x k ((rows.drop l).take (h - l))) (.slice (some ⟨b, off + l * k, none⟩) ((rows.drop l).take (h - l)).length (m - l)) := by
        refine .sl x k _ b (off + l * k) (m - l) (fun i j => vs (l + i) j) (fun hh => by have := hx hh; rw [hlen]; omega) (by rw [hlen]; omega) hS (fun row hrow => hk row (List.mem_of_mem_drop (List.mem_of_mem_take hrow))) ?_ ?_
        · intro i j row a hi hj
          have := hc (l + i) j row a (hget i row hi) hj
          rw [show off + l * k + (i * k + j) = off + ((l + i) * k + j) from by rw [Nat.add_mul]; omega]
          exact this
        · intro i j row a hi hj
          exact hr (l + i) j row a (hget i row hi) hj
      rw [hlen] at key
      exact key

theorem cutRows_spec {rows rs : List (List AV)} {l h : Nat} (hc : cutRows rows l h = some rs) : l ≤ h ∧ h ≤ rows.length ∧ rs = (rows.drop l).take (h - l) := by
  unfold cutRows at hc
  split at hc
  · rename_i hh; exact ⟨hh.1, hh.2, (Option.some.inj hc).symm⟩
  · cases hc

theorem St.bdM (h : St G w S δ Fr) {a : Act} (ha : Rd δ a) {x : Option Operand} {y : Option Ar} (hc : chkO x y = true) {hh m cap : Nat} (hm : mxI (fun s => (δ s).er) y hh = some m) (hmh : m = hh) (hcap : hh ≤ cap) :
    ∃ m', Bd (x.map a.eval) cap m' ∧ hh ≤ m' ∧ m' ≤ cap ∧ (y.isSome = true → m' = hh) := by
  cases y with
  | none =>
    cases x with
    | none => exact ⟨cap, .inl ⟨rfl, rfl⟩, hcap, Nat.le_refl _, by simp⟩
    | some x => simp [chkO] at hc
  | some y =>
    obtain ⟨h1, _⟩ := h.bd ha hc (dflt := 0) (by simpa only [mxI] using hm)
    subst hmh
    cases x with
    | none => simp [chkO] at hc
    | some x =>
      rcases h1 with ⟨h1, _⟩ | ⟨kk, i, h1, h2, h3⟩
      · simp at h1
      · exact ⟨m, .inr ⟨kk, i, h1, h2, h3⟩, Nat.le_refl _, hcap, fun _ => rfl⟩

theorem runs_slc (h : St G w S δ Fr) {a : Act} (ha : Rd δ a) {o : Oper} {t e : TypeId} {x : Operand} {lo hi mx : Option Operand} {k : Nat} {y : Ar} {lo' hi' mx' : Option Ar} {d : Dst} (hd : DstOK G a o (some d)) (ho : o.op = .slice t x lo hi mx)
    (hu : P.underlying t = some (.slice e)) (hk : szOf P e = some k) (hc : chkA x y = true) (hc1 : chkO lo lo' = true) (hc2 : chkO hi hi' = true) (hc3 : chkO mx mx' = true) (hmh : mx = none ∨ hi ≠ none) {σ' : Sg}
    (he : eff G (.slc k true y lo' hi' mx') (some d) (fun s => (δ s).er) = some σ') : Runs P G w S Fr a o σ' := by
  obtain ⟨hy, hev⟩ := chkA_sound hc ha
  have hmh' : mx.map a.eval ≠ none → hi.map a.eval ≠ none := by
    intro h1 h2
    rcases hmh with h3 | h3
    · simp [h3] at h1
    · simp at h2; exact h3 h2
  simp only [eff] at he
  split at he
  · -- frozen already
    rename_i ee k' rows pl hh
    split at he
    · rename_i l hi0 hlo hhi
      split at he
      · rename_i rs m hcut hm
        split at he
        · rename_i hcond
          obtain ⟨rfl, hmeq⟩ := hcond
          obtain ⟨h1, h2, rfl⟩ := cutRows_spec hcut
          have hfz := (h.hdD hy hh).2 _ _ _ rfl (h.hdSl hy hh)
          obtain ⟨ad, cap, hav⟩ := fz_slice hfz
          rw [hav] at hfz hev
          have hlc : rows.length ≤ cap := by
            cases hfz with
            | nil => simp
            | sl _ _ _ b off c vs hxe hlc => exact hlc
          obtain ⟨b1, _⟩ := h.bd ha hc1 hlo
          obtain ⟨b2, _⟩ := h.bd ha hc2 hhi
          obtain ⟨m', b3, g1, g2, g3⟩ := h.bdM ha hc3 hm hmeq (cap := cap) (by omega)
          have hrun := run_cut (P := P) hu hk b1 b2 b3 hmh' h1 g1 g2 ad w
          have hres := hfz.cut (m := m') (x := mx'.isSome) h1 h2 g1 g3
          have hdd : (DV.lf (.sl mx'.isSome k' ((rows.drop l).take (hi0 - l))) (.slice (if m' = l then ad else ad.map (·.add (l * k'))) (hi0 - l) (m' - l))).er = .sl mx'.isSome k' ((rows.drop l).take (hi0 - l)) := by simp
          refine runs_of (D := .lf (.sl mx'.isSome k' ((rows.drop l).take (hi0 - l))) (.slice (if m' = l then ad else ad.map (·.add (l * k'))) (hi0 - l) (m' - l))) (Ff := fun _ => False) h ha hd ?_ (fun _ _ => rfl) (fun _ _ _ => rfl) (fun _ h => h) (fun s x hx => (h.ok s).notS x hx)
            (.lf _ _ _ hres (fun _ h => h)) (fun _ _ _ h => h) (.lf _ _ trivial) (by rw [hdd]; exact he) (Nx.less fun x hx => hx.elim id False.elim)
          simp only [execOp, ho, hev, Sem.run_bind, hrun, Result.andThen_ok, Sem.run_pure, ann_lf]
        · cases he
      · cases he
    · cases he
  · -- frozen now
    rename_i k' rows r p hh
    split at he
    · rename_i l hi0 hlo hhi
      split at he
      · rename_i rs m hcut hm
        split at he
        · rename_i hcond
          obtain ⟨rfl, hmeq⟩ := hcond
          obtain ⟨h1, h2, rfl⟩ := cutRows_spec hcut
          simp only [if_true] at he
          split at he
          · rename_i fr τ hfz
            obtain ⟨δ1, F1, Fo, v, bx, kk, rowsD, hst, her, hann, hsub, hf, hfe, hdis, hown, _⟩ := h.fzAt hfz
            subst her
            obtain ⟨rowsD', F, hm', hok, hpl⟩ := (h.hdD hy hh).1 _ _ _ rfl
            have hsub' := hpl r p rfl
            rw [hsub] at hsub'
            simp only [Option.some.injEq, DV.own.injEq] at hsub'
            obtain ⟨rfl, rfl, rfl, rfl⟩ := hsub'
            have hfe' : fr = .sl false kk (rows.map (·.map frz)) := by rw [hfe]; simp only [er_own, frz_vec, hm']
            rw [hfe'] at hf
            obtain ⟨ad, cap, hav⟩ := fz_slice hf
            rw [hav] at hf hev
            have hrl : (rows.map (·.map frz)).length = rows.length := by simp
            have hlc : rows.length ≤ cap := by
              rw [← hrl]
              generalize rows.map (·.map frz) = rr at *
              cases hf with
              | nil => simp
              | sl _ _ _ b off c vs hxe hlc => exact hlc
            obtain ⟨b1, _⟩ := h.bd ha hc1 hlo
            obtain ⟨b2, _⟩ := h.bd ha hc2 hhi
            rw [hrl] at hev
            obtain ⟨m', b3, g1, g2, g3⟩ := h.bdM ha hc3 hm hmeq (cap := cap) (by omega)
            have hrun := run_cut (P := P) hu hk b1 b2 b3 hmh' h1 g1 g2 ad w
            have hres := hf.cut (m := m') (x := mx'.isSome) h1 (by rw [hrl]; exact h2) g1 g3
            rw [← List.map_drop, ← List.map_take] at hres
            have hdd : (DV.lf (.sl mx'.isSome kk (((rows.drop l).take (hi0 - l)).map (·.map frz))) (.slice (if m' = l then ad else ad.map (·.add (l * kk))) (hi0 - l) (m' - l))).er = .sl mx'.isSome kk (((rows.drop l).take (hi0 - l)).map (·.map frz)) := by simp
            refine runs_of (S := S) (S' := fun x => S x ∨ Fo x) (D := .lf (.sl mx'.isSome kk (((rows.drop l).take (hi0 - l)).map (·.map frz))) (.slice (if m' = l then ad else ad.map (·.add (l * kk))) (hi0 - l) (m' - l))) (Ff := fun _ => False) hst (fun s => (ha s).trans (hann s).symm) hd ?_ (fun _ _ => rfl) (fun _ _ _ => rfl) (fun _ h => h) (fun s x hx => (hst.ok s).notS x hx)
              (.lf _ _ _ hres (fun _ h => h)) (fun _ _ _ h => h) (.lf _ _ trivial) (by rw [hdd]; exact he) ?_
            · simp only [execOp, ho, hev, Sem.run_bind, hrun, Result.andThen_ok, Sem.run_pure, ann_lf]
            · refine Nx.frz (fun x hx => hown x (hx.imp (fun h => h.elim id False.elim) id)) fun x hx => ?_
              obtain ⟨t, ht⟩ := hown x (.inr hx)
              exact (h.ok t).lt x ht
          · cases he
        · cases he
      · cases he
    · cases he
  · cases he
end Go.Abs
