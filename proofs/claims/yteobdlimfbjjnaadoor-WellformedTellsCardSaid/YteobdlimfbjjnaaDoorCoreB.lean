/- A calculus of abstract states of Go memory, and that it is sound (part B). -/
import Derived.Test.YteobdlimfbjjnaaDoorCoreA
import Derived.Laws.StructEq
import Derived.Laws.MakeOwn
set_option linter.unusedSimpArgs false
set_option linter.unusedVariables false
namespace Go.Abs
variable {w w' : World} {S S' : Nat → Prop} {G : Gi} {δ : Nat → DV} {Fr : Nat → Nat → Prop} {P : Program}
theorem own_slice {v : Value} {k : Nat} {rows : List (List DV)} {F : Nat → Prop} (h : Ok w S (.own v false k rows) F) : ∃ a c, v = .slice a rows.length c := by
 cases h with
 | nil => exact ⟨none, 0, rfl⟩
 | own _ _ _ b c => exact ⟨some ⟨b, 0, none⟩, c, by simp [hdr]⟩
theorem fz_slice {v : Value} {e : Bool} {k : Nat} {rows : List (List AV)} (h : Fz w S (.sl e k rows) v) : ∃ a c, v = .slice a rows.length c := by
 cases h with
 | nil _ _ a c => exact ⟨a, c, rfl⟩
 | sl _ _ _ b off c => exact ⟨_, c, rfl⟩
theorem St.hdSl (h : St G w S δ Fr) {x : Ar} (hx : ArOK x) {e : Bool} {k : Nat} {rows : List (List AV)} {pl : Option (Nat × List Step)} (hh : hd (fun s => (δ s).er) x = some (.sl e k rows, pl)) :
 ∃ s, x = .t s ∧ (δ s).er = .sl e k rows := by
 cases x with
 | c c =>
  obtain ⟨D, hD⟩ := hx
  simp only [hd] at hh
  split at hh
  · simp at hh
  · cases hh
 | t s =>
  refine ⟨s, rfl, ?_⟩
  simp only [hd] at hh
  cases hs : (δ s).er with
  | sl e2 k2 rows2 => simp only [hs, Option.some.injEq, Prod.mk.injEq] at hh; exact hh.1
  | al r p =>
   simp only [hs] at hh
   split at hh
   · rename_i n' hn'
     simp only [Option.some.injEq, Prod.mk.injEq] at hh
     obtain ⟨rfl, _⟩ := hh
     obtain ⟨_, _, hal⟩ := h.leaf hs rfl
     obtain ⟨bx', k2, rows', hl⟩ := hal
     obtain ⟨D, hD, hDe⟩ := subD_of_sub (h.ok r).lfy hn'
     rw [hl] at hD
     obtain rfl := Option.some.inj hD
     simp at hDe
   · cases hh
  | own => simp [hs] at hh
  | _ => simp [hs] at hh
theorem run_len_slice {t : TypeId} (a : Option Addr) (n c : Nat) (hs : ∃ e, P.underlying t = some (.slice e)) (ty : TypeId) (w : World) :
 (Builtin.len_ #[t] ty #[.slice a n c]).run P w = .ok (.int .i64 n) w := by
 obtain ⟨e, he⟩ := hs
 simp [Builtin.len_, underlying, he, goInt]
theorem gives_len (h : St G w S δ Fr) {a : Act} (ha : Rd δ a) {o : Oper} {c : Call} {x : Operand} {t : TypeId} {x' : Ar} (ho : o.op = .call c) (hcal : c.callee = .builtin .len) (hargs : c.args.toList = [x]) (hty : c.argTypes.toList = [t])
 (ht : (∃ e, P.underlying t = some (.slice e))) (hc : chkA x x' = true) {v : AV} (hv : valOf (.len x') (fun s => (δ s).er) = some v) : Gives P w S δ a o v := by
 obtain ⟨hx, ex⟩ := chkA_sound hc ha
 have e1 : c.args = #[x] := by apply Array.ext'; simpa using hargs
 have e2 : c.argTypes = #[t] := by apply Array.ext'; simpa using hty
 have key : ∀ (ad : Option Addr) (n cc : Nat), argv δ x' = .slice ad n cc → v = .sc (.int .i64 n) → Gives P w S δ a o v := by
  rintro ad n cc hav rfl
  refine ⟨.int .i64 n, ?_, Lf.sc _ rfl⟩
  have := run_len_slice (P := P) ad n cc ht o.type w
  simp only [execOp, ho, resolve, hcal, e1, e2, invoke, builtin, Sem.run_bind, Sem.run_pure, Result.andThen_ok, List.map_toArray, List.map_cons, List.map_nil, ex, hav, this]
 simp only [valOf] at hv
 split at hv
 · rename_i k rows pl hh
   simp only [Option.some.injEq] at hv
   obtain ⟨rowsD, F, hm, hok, _⟩ := (h.hdD hx hh).1 _ _ _ rfl
   obtain ⟨ad, cc, hs⟩ := own_slice hok
   refine key ad rowsD.length cc hs ?_
   rw [← hv, ← hm]; simp
 · rename_i e k rows pl hh
   simp only [Option.some.injEq] at hv
   have hfz := (h.hdD hx hh).2 _ _ _ rfl (h.hdSl hx hh)
   obtain ⟨ad, cc, hs⟩ := fz_slice hfz
   exact key ad rows.length cc hs hv.symm
 · cases hv
theorem gives_slen (h : St G w S δ Fr) {a : Act} (ha : Rd δ a) {o : Oper} {c : Call} {x : Operand} {t : TypeId} {x' : Ar} (ho : o.op = .call c) (hcal : c.callee = .builtin .len) (hargs : c.args.toList = [x]) (hty : c.argTypes.toList = [t])
 (ht : P.underlying t = some .string) (hc : chkA x x' = true) {v : AV} (hv : valOf (.slen x') (fun s => (δ s).er) = some v) : Gives P w S δ a o v := by
 obtain ⟨hx, ex⟩ := chkA_sound hc ha
 have e1 : c.args = #[x] := by apply Array.ext'; simpa using hargs
 have e2 : c.argTypes = #[t] := by apply Array.ext'; simpa using hty
 simp only [valOf] at hv
 split at hv
 · rename_i s hs
   simp only [Option.some.injEq] at hv
   subst hv
   obtain ⟨e3, _⟩ := h.argSc hx hs
   refine ⟨.int .i64 s.size, ?_, Lf.sc _ rfl⟩
   simp only [execOp, ho, resolve, hcal, e1, e2, invoke, builtin, Sem.run_bind, Sem.run_pure, Result.andThen_ok, List.map_toArray, List.map_cons, List.map_nil, ex, e3]
   simp [Builtin.len_, underlying, ht, goInt]
 · cases hv
theorem gives_ext (h : St G w S δ Fr) {a : Act} (ha : Rd δ a) {o : Oper} {x : Operand} {i : Nat} {x' : Ar} (ho : o.op = .extract x i) (hc : chkA x x' = true) {v : AV} (hv : valOf (.ext x' i) (fun s => (δ s).er) = some v) : Gives P w S δ a o v := by
 obtain ⟨hx, ex⟩ := chkA_sound hc ha
 cases x' with
 | c c => simp [valOf] at hv
 | t s =>
  simp only [valOf] at hv
  split at hv
  · rename_i cs hs
    split at hv
    · rename_i c hcs
      simp only [Option.some.injEq] at hv
      subst hv
      obtain ⟨ds, hds, hm⟩ : ∃ ds, δ s = .tup ds ∧ ds.map DV.er = cs := by
       have := (h.ok s).lfy
       cases hd : δ s with
       | tup ds => rw [hd] at hs; simp at hs; exact ⟨ds, rfl, hs⟩
       | lf c v => rw [hd] at hs this; cases this with | lf _ _ hl => simp at hs; subst hs; simp [leafy] at hl
       | own => rw [hd] at hs; simp at hs
       | agg => rw [hd] at hs; simp at hs
      rw [← hm, List.getElem?_map, Option.map_eq_some_iff] at hcs
      obtain ⟨d, hd, rfl⟩ := hcs
      have hok := h.ok s
      have hal := h.al s
      rw [hds] at hok hal
      cases hok with
      | tup _ Fs _ hr hdd hval hF =>
       cases hal with
       | tup _ hal =>
        obtain ⟨D, h1, h2, h3, h4⟩ := viewD (δ := δ) s (hr i d hd) [(0, i, 0)] (by simp [subD, hds, hd]) (hal i d hd)
        refine ⟨d.ann, ?_, D, h1, h2, h3, h4⟩
        have : (ds.map DV.ann).toArray[i]? = some d.ann := by simp [hd]
        simp only [execOp, ho, ex, argv, hds, ann_tup, Instr.extract, Sem.run_bind, this, Sem.run_pure, Result.andThen_ok]
    · cases hv
  · cases hv
theorem run_indexAt_array {t e : TypeId} {len k : Nat} (hu : P.underlying t = some (.array len e)) (hk : szOf P e = some k) {b off : Nat} {kk : IntKind} {n : Int} (h0 : 0 ≤ n) (h1 : n < len) (w : World) :
 (Instr.indexAt t (.pointer (some ⟨b, off, none⟩)) (.int kk n)).run P w = .ok (.pointer (some ⟨b, off + n.toNat * k, none⟩)) w := by
 simp [Instr.indexAt, asIntOf, underlying, hu, h0, h1, run_sizeOf hk, Addr.add_lit, Instr.sureAddr]
theorem gives_aad (h : St G w S δ Fr) {a : Act} (ha : Rd δ a) {o : Oper} {t e : TypeId} {x i : Operand} {len k : Nat} {y j : Ar} (ho : o.op = .indexAddr t x i) (hu : P.underlying t = some (.array len e)) (hk : szOf P e = some k) (hc : chkA x y = true) (hc2 : chkA i j = true) {v : AV}
 (hv : valOf (.aad len k y j) (fun s => (δ s).er) = some v) : Gives P w S δ a o v := by
 obtain ⟨hy, he⟩ := chkA_sound hc ha
 obtain ⟨hj, hei⟩ := chkA_sound hc2 ha
 cases y with
 | c c => simp [valOf] at hv
 | t s =>
  simp only [valOf] at hv
  split at hv
  · rename_i s' n heq hn
    simp only [Ar.t.injEq] at heq
    subst heq
    split at hv
    · rename_i hcond
      obtain ⟨h0, h1⟩ := hcond
      obtain ⟨kk, hn⟩ := asI_sc hn
      obtain ⟨ei, _⟩ := h.argSc hj hn
      rw [ei] at hei
      cases hs : (δ s).er with
      | fp cs =>
       simp only [hs, Option.some.injEq] at hv
       subst hv
       obtain ⟨_, h2, _⟩ := h.leaf hs rfl
       obtain ⟨b, off, hp, hS, hcell⟩ := h2
       refine ⟨.pointer (some ⟨b, off + n.toNat * k, none⟩), ?_, Lf.fp hS fun m a hm => ?_⟩
       · simp only [execOp, ho, he, hei, argv, hp, Sem.run_bind, run_indexAt_array hu hk h0 h1, Result.andThen_ok, Sem.run_pure]
       · rw [List.getElem?_drop] at hm
         rw [show off + n.toNat * k + m = off + (n.toNat * k + m) from by omega]
         exact hcell _ a hm
      | _ =>
       simp only [hs] at hv
       split at hv
       · rename_i r p i j k' hadr
         simp only [Option.some.injEq] at hv
         subst hv
         obtain ⟨vh, bx, rowsD, b, F, hsub, hb, hp, hok, _⟩ := h.adrOf hadr
         refine ⟨.pointer (some ⟨b, i * k' + (j + n.toNat * k), none⟩), ?_, Lf.adr hsub hb⟩
         simp only [execOp, ho, he, hei, argv, hp, Sem.run_bind, run_indexAt_array hu hk h0 h1, Result.andThen_ok, Sem.run_pure, Nat.add_assoc]
       · cases hv
    · cases hv
  · cases hv
theorem run_part {t : TypeId} {g : Bool} {n off : Nat} {vals : List Value} (hn : szOf P t = some n) (hg : isAggT P t = some g) (h1 : g = true ∨ n = 1) (hlen : ((vals.drop off).take n).length = n) :
 (part t vals.toArray off).run P w = .ok (if g = true then .agg ((vals.drop off).take n).toArray else ((vals.drop off).take n).headD undef) w := by
 cases g with
 | true =>
  have e : vals.toArray.extract off (off + n) = ((vals.drop off).take n).toArray := by
   apply Array.ext'
   simp [List.extract_eq_take_drop]
  simp [part, run_isAgg hg, run_sizeOf hn, e]
 | false =>
  obtain rfl := h1.resolve_left (by simp)
  match hd : (vals.drop off).take 1, hlen with
  | [v], _ =>
   have hv : vals[off]? = some v := by
    have : ((vals.drop off).take 1)[0]? = some v := by rw [hd]; rfl
    simpa using this
   simp [part, run_isAgg hg, hv]
theorem gives_fld (h : St G w S δ Fr) {a : Act} (ha : Rd δ a) {o : Oper} {t : TypeId} {x : Operand} {f : Nat} {agg : Bool} {off n : Nat} {y : Ar} {fs : Array Field} {fd : Field} (ho : o.op = .field t x f) (hu : P.underlying t = some (.struct fs)) (hf : fs[f]? = some fd) (hoff : fd.offset = off)
 (hn : szOf P fd.type = some n) (hg : isAggT P fd.type = some agg) (h1 : agg = true ∨ n = 1) (hc : chkA x y = true) {v : AV} (hv : valOf (.fld agg off n y) (fun s => (δ s).er) = some v) : Gives P w S δ a o v := by
 obtain ⟨hy, he⟩ := chkA_sound hc ha
 cases y with
 | c c => simp [valOf] at hv
 | t s =>
  simp only [valOf] at hv
  split at hv
  · rename_i cs hs
    obtain ⟨vals, hva, hlen, hlf⟩ := part_gives h hs hv
    refine ⟨_, ?_, hlf⟩
    have := run_part (w := w) hn hg h1 hlen
    simp only [execOp, ho, he, argv, hva, Instr.field, run_underlying hu, hf, asAgg, hoff, Sem.run_bind, Sem.run_pure, Result.andThen_ok, this]
  · cases hv
theorem gives_idx (h : St G w S δ Fr) {a : Act} (ha : Rd δ a) {o : Oper} {t e : TypeId} {x i : Operand} {agg : Bool} {len k : Nat} {y j : Ar} (ho : o.op = .index t x i) (hu : P.underlying t = some (.array len e)) (hk : szOf P e = some k) (hg : isAggT P e = some agg) (h1 : agg = true ∨ k = 1)
 (hc : chkA x y = true) (hc2 : chkA i j = true) {v : AV} (hv : valOf (.idx agg len k y j) (fun s => (δ s).er) = some v) : Gives P w S δ a o v := by
 obtain ⟨hy, he⟩ := chkA_sound hc ha
 obtain ⟨hj, hei⟩ := chkA_sound hc2 ha
 cases y with
 | c c => simp [valOf] at hv
 | t s =>
  simp only [valOf] at hv
  split at hv
  · rename_i s' n heq hn
    simp only [Ar.t.injEq] at heq
    subst heq
    split at hv
    · rename_i hcond
      obtain ⟨kk, hn⟩ := asI_sc hn
      obtain ⟨ei, _⟩ := h.argSc hj hn
      rw [ei] at hei
      split at hv
      · rename_i cs hs
        obtain ⟨vals, hva, hlen, hlf⟩ := part_gives h hs hv
        refine ⟨_, ?_, hlf⟩
        have := run_part (w := w) hk hg h1 hlen
        simp only [execOp, ho, he, hei, argv, hva, Instr.index, asIntOf, run_underlying hu, hcond, and_self, if_true, run_sizeOf hk, Sem.run_bind, Sem.run_pure, Result.andThen_ok, this]
      · cases hv
    · cases hv
  · cases hv
theorem gives_sidx (h : St G w S δ Fr) {a : Act} (ha : Rd δ a) {o : Oper} {t : TypeId} {x i : Operand} {y j : Ar} (ho : o.op = .index t x i) (hu : P.underlying t = some .string) (hc : chkA x y = true) (hc2 : chkA i j = true) {v : AV}
 (hv : valOf (.sidx y j) (fun s => (δ s).er) = some v) : Gives P w S δ a o v := by
 obtain ⟨hy, he⟩ := chkA_sound hc ha
 obtain ⟨hj, hei⟩ := chkA_sound hc2 ha
 simp only [valOf] at hv
 split at hv
 · rename_i s n hs hn
   obtain ⟨kk, hn⟩ := asI_sc hn
   obtain ⟨ei, _⟩ := h.argSc hj hn
   obtain ⟨es, _⟩ := h.argSc hy hs
   split at hv
   · rename_i h0
     rw [Option.map_eq_some_iff] at hv
     obtain ⟨b, hb, rfl⟩ := hv
     refine ⟨.int .u8 b.toNat, ?_, Lf.sc _ rfl⟩
     simp only [execOp, ho, he, hei, ei, es, Instr.index, asIntOf, run_underlying hu, h0, if_true, hb, Sem.run_bind, Sem.run_pure, Result.andThen_ok]
   · cases hv
 · cases hv
theorem St.argAgg (h : St G w S δ Fr) {x : Ar} (hx : ArOK x) {cs : List AV} (ha : ar (fun s => (δ s).er) x = .agg cs) : ∃ vals : List Value, argv δ x = .agg vals.toArray ∧ ∀ (j : Nat) u, cs[j]? = some (.sc u) → vals[j]? = some u := by
 obtain ⟨D, F, e1, e2, hok⟩ : ∃ (D : DV) (F : Nat → Prop), D.er = .agg cs ∧ D.ann = argv δ x ∧ Ok w S D F := by
  cases x with
  | t s => exact ⟨δ s, Fr s, ha, rfl, h.ok s⟩
  | c c =>
   obtain ⟨D0, hD0⟩ := hx
   obtain ⟨g1, g2, g3, _⟩ := cst_facts (w := w) (S := S) (δ := δ) c D0 hD0
   simp only [ar] at ha
   exact ⟨D0, _, g1.trans ha, by simp [argv, hD0], g2⟩
 obtain ⟨ds, rfl⟩ : ∃ ds, D = .agg ds := by
  have := hok.lfy
  cases D with
  | agg ds => exact ⟨ds, rfl⟩
  | lf c v => cases this with | lf _ _ hl => simp at e1; subst e1; simp [leafy] at hl
  | own => simp at e1
  | tup => simp at e1
 refine ⟨ds.map DV.ann, by rw [← e2]; simp, fun j u hj => ?_⟩
 simp only [er_agg, AV.agg.injEq] at e1
 subst e1
 simp only [List.getElem?_map] at hj ⊢
 cases hd : ds[j]? with
 | none => simp [hd] at hj
 | some d =>
  simp only [hd, Option.map_some, Option.some.injEq] at hj ⊢
  cases hok with
  | agg _ Fs _ hr _ _ _ =>
   have := hr j d hd
   cases this with
   | lf a v _ hl _ => simp only [er_lf] at hj; subst hj; simpa using hl.1
   | nil => simp at hj
   | own => simp at hj
   | agg => simp at hj
   | tup => simp at hj
def kdOf : TypeDesc → Option Nat
 | .bool => some 0
 | .int _ => some 1
 | .string => some 2
 | _ => none
def chkFlds (P : Program) : Nat → List Field → List Nat → Bool
 | _, [], [] => true
 | i, f :: fs, k :: ks => f.name != "_" && f.offset == i && szOf P f.type == some 1 && isAggT P f.type == some false && ((P.underlying f.type).bind kdOf == some k) && chkFlds P (i + 1) fs ks
 | _, _, _ => false
def chkSeq (P : Program) (t : TypeId) (kd : List Nat) : Bool := match P.underlying t with
 | some (.struct fs) => !P.stoodInHeld t && !P.eqGuardType P.depth t && chkFlds P 0 fs.toList kd
 | _ => false
theorem eqSc_run (d : Nat) {t : TypeId} {k : Nat} {u v : Value} {b : Bool} (hk : (P.underlying t).bind kdOf = some k) (h : eqSc k u v = some b) : (Op.equalIn (d + 1) t u v).run P w = .ok b w := by
 cases hu : P.underlying t with
 | none => simp [hu] at hk
 | some T =>
  simp only [hu, Option.bind_some] at hk
  cases T <;> simp only [kdOf, Option.some.injEq, reduceCtorEq] at hk <;> subst hk
  · cases u <;> cases v <;> simp only [eqSc, Option.some.injEq, reduceCtorEq] at h
    subst h
    exact run_equalIn_bool' w d t _ _ hu
  · cases u <;> cases v <;> simp only [eqSc, reduceCtorEq] at h
    split at h
    · rename_i e
      subst e
      simp only [Option.some.injEq] at h
      subst h
      exact run_equalIn_int w d t _ _ _ _ hu
    · cases h
  · cases u <;> cases v <;> simp only [eqSc, Option.some.injEq, reduceCtorEq] at h
    subst h
    exact run_equalIn_string w d t _ _ hu
theorem eqFields_run (d : Nat) (xs ys : List Value) (fs : List Field) : ∀ (kd : List Nat) (i : Nat) (as bs : List AV) (b : Bool), chkFlds P i fs kd = true → eqCells kd as bs = some b →
 (∀ (j : Nat) u, as[j]? = some (.sc u) → xs[i + j]? = some u) → (∀ (j : Nat) u, bs[j]? = some (.sc u) → ys[i + j]? = some u) → (Op.eqFields (d + 1) xs.toArray ys.toArray fs).run P w = .ok b w := by
 induction fs with
 | nil =>
  intro kd i as bs b hc he _ _
  cases kd with
  | cons => simp [chkFlds] at hc
  | nil =>
   cases as <;> cases bs <;> simp only [eqCells, Option.some.injEq, reduceCtorEq] at he
   subst he
   simp [Op.eqFields]
 | cons f fs ih =>
  intro kd i as bs b hc he hxs hys
  cases kd with
  | nil => simp [chkFlds] at hc
  | cons k ks =>
   simp only [chkFlds, Bool.and_eq_true, beq_iff_eq, bne_iff_ne] at hc
   obtain ⟨⟨⟨⟨⟨h1, h2⟩, h3⟩, h4⟩, h5⟩, h6⟩ := hc
   match as, bs, he with
   | .sc u :: as, .sc v :: bs, he =>
    simp only [eqCells] at he
    split at he
    · rename_i a b' g1 g2
      simp only [Option.some.injEq] at he
      have hx0 : xs[i]? = some u := by have := hxs 0 u rfl; simpa using this
      have hy0 : ys[i]? = some v := by have := hys 0 v rfl; simpa using this
      have one : ∀ (l : List Value) (u : Value), l[i]? = some u → (part f.type l.toArray i).run P w = .ok u w := by
       intro l u hl
       have hdt : (l.drop i).take 1 = [u] := by
        obtain ⟨hlt, rfl⟩ := List.getElem?_eq_some_iff.1 hl
        rw [List.drop_eq_getElem_cons hlt]; rfl
       have := run_part (w := w) (off := i) (vals := l) h3 h4 (.inr rfl) (by rw [hdt]; rfl)
       rw [this, hdt]; rfl
      have hrec := ih ks (i + 1) as bs b' h6 g2 (fun j u hj => by have := hxs (j + 1) u hj; rw [show i + 1 + j = i + (j + 1) from by omega]; exact this) (fun j u hj => by have := hys (j + 1) u hj; rw [show i + 1 + j = i + (j + 1) from by omega]; exact this)
      simp only [Op.eqFields, h1, ne_eq, not_false_eq_true, if_true, h2, Sem.run_bind, one xs u hx0, one ys v hy0, Result.andThen_ok, eqSc_run d h5 g1]
      cases a with
      | true => simp only [Bool.not_true, Bool.false_eq_true, if_false, hrec]; rw [← he]; simp
      | false => simp only [Bool.not_false, if_true, Sem.run_pure]; rw [← he]; simp
    · cases he
theorem gives_seqs (h : St G w S δ Fr) {a : Act} (ha : Rd δ a) {o : Oper} {op : BinOp} {t u : TypeId} {x y : Operand} {x' y' : Ar} {neg : Bool} {kd : List Nat} (ho : o.op = .binOp op t x y u) (hop : op = if neg = true then .neq else .eql) (ht : chkSeq P t kd = true) (hc : chkA x x' = true) (hc2 : chkA y y' = true) {v : AV}
 (hv : valOf (.seqs neg kd x' y') (fun s => (δ s).er) = some v) : Gives P w S δ a o v := by
 obtain ⟨hx, ex⟩ := chkA_sound hc ha
 obtain ⟨hy, ey⟩ := chkA_sound hc2 ha
 simp only [valOf] at hv
 split at hv
 · rename_i as bs h1 h2
   obtain ⟨xs, e1, f1⟩ := h.argAgg hx h1
   obtain ⟨ys, e2, f2⟩ := h.argAgg hy h2
   rw [Option.map_eq_some_iff] at hv
   obtain ⟨b, hb, rfl⟩ := hv
   refine ⟨_, ?_, Lf.sc _ rfl⟩
   unfold chkSeq at ht
   split at ht
   · rename_i fs hu
     simp only [Bool.and_eq_true, Bool.not_eq_true'] at ht
     obtain ⟨⟨g1, g2⟩, g3⟩ := ht
     have hfo : P.fieldsOf t = fs := by simp [Program.fieldsOf, hu]
     have hrun : (Op.equalIn 10000 t (.agg xs.toArray) (.agg ys.toArray)).run P w = .ok b w := by
      rw [run_equalIn_struct w 9999 t _ _ (by rw [hfo]; exact hu) g1, hfo]
      exact eqFields_run 9998 xs ys fs.toList kd 0 as bs b g3 hb (fun j u hj => by simpa using f1 j u hj) (fun j u hj => by simpa using f2 j u hj)
     have hg : ∀ op, (eqGuard op t x y (.agg xs.toArray) (.agg ys.toArray)).run P w = .ok () w := fun op => run_eqGuard_agg w op t x y _ _ g2
     cases neg with
     | true =>
      simp only [if_true] at hop
      subst hop
      simp only [execOp, ho, ex, ey, e1, e2, Sem.run_bind, hg, Result.andThen_ok, run_neq_struct, hrun, Sem.run_pure, if_true]
     | false =>
      simp only [Bool.false_eq_true, if_false] at hop
      subst hop
      simp only [execOp, ho, ex, ey, e1, e2, Sem.run_bind, hg, Result.andThen_ok, run_eql_struct, hrun, Sem.run_pure, Bool.false_eq_true, if_false]
   · cases ht
 · cases hv
theorem gives_mm (h : St G w S δ Fr) {a : Act} (ha : Rd δ a) {o : Oper} {c : Call} {x y : Operand} {x' y' : Ar} {mx : Bool} (ho : o.op = .call c) (hcal : c.callee = .builtin (if mx = true then .max else .min)) (hargs : c.args.toList = [x, y])
 (hc : chkA x x' = true) (hc2 : chkA y y' = true) {v : AV} (hv : valOf (.mm mx x' y') (fun s => (δ s).er) = some v) : Gives P w S δ a o v := by
 obtain ⟨hx, ex⟩ := chkA_sound hc ha
 obtain ⟨hy, ey⟩ := chkA_sound hc2 ha
 have e1 : c.args = #[x, y] := by apply Array.ext'; simpa using hargs
 simp only [valOf] at hv
 split at hv
 · rename_i k n k' m g1 g2
   obtain ⟨f1, _⟩ := h.argSc hx g1
   obtain ⟨f2, _⟩ := h.argSc hy g2
   split at hv
   · rename_i hk
     subst hk
     simp only [Option.some.injEq] at hv
     subst hv
     refine ⟨_, ?_, Lf.sc _ rfl⟩
     cases mx with
     | true =>
      simp only [if_true] at hcal
      simp only [execOp, ho, resolve, hcal, e1, invoke, builtin, Sem.run_bind, Sem.run_pure, Result.andThen_ok, List.map_toArray, List.map_cons, List.map_nil, ex, ey, f1, f2, run_max_int2, if_true]
     | false =>
      simp only [Bool.false_eq_true, if_false] at hcal
      simp only [execOp, ho, resolve, hcal, e1, invoke, builtin, Sem.run_bind, Sem.run_pure, Result.andThen_ok, List.map_toArray, List.map_cons, List.map_nil, ex, ey, f1, f2, run_min_int2, Bool.false_eq_true, if_false]
   · cases hv
 · cases hv
theorem own_box {v : Value} {k : Nat} {rows : List (List DV)} {F : Nat → Prop} (h : Ok w S (.own v true k rows) F) : ∃ b, v = .pointer (some ⟨b, 0, none⟩) := by
 cases h with
 | own _ _ _ b c arr E Fs _ => exact ⟨b, by simp [hdr]⟩
theorem gives_nchk (h : St G w S δ Fr) {a : Act} (ha : Rd δ a) {o : Oper} {x : Operand} {x' : Ar} (ho : o.op = .nilCheck x) (hc : chkA x x' = true) {v : AV} (hv : valOf (.nchk x') (fun s => (δ s).er) = some v) : Gives P w S δ a o v := by
 obtain ⟨hx, ex⟩ := chkA_sound hc ha
 cases x' with
 | c c =>
  obtain ⟨D0, hD0⟩ := hx
  simp only [valOf, ar] at hv
  cases c <;> first
   | (simp [cstD] at hD0; done)
   | (simp at hv; done)
   | (rename_i b _ _; cases b <;> simp at hv)
 | t s =>
  simp only [valOf, ar] at hv
  cases hs : (δ s).er with
  | adr r p i j k =>
   rw [hs] at hv
   simp only [Option.some.injEq] at hv
   subst hv
   obtain ⟨e1, _, hb, bx, rows, b, g1, g2, g3⟩ := h.leaf hs rfl
   exact ⟨_, by simp only [execOp, ho, ex, argv, g3, Sem.run_pure], Lf.adr g1 g2⟩
  | fp cs =>
   rw [hs] at hv
   simp only [Option.some.injEq] at hv
   subst hv
   obtain ⟨e1, ⟨b, off, g1, g2, g3⟩, _⟩ := h.leaf hs rfl
   exact ⟨_, by simp only [execOp, ho, ex, argv, g1, Sem.run_pure], Lf.fp g2 g3⟩
  | own b k rows =>
   rw [hs] at hv
   cases b with
   | false => simp at hv
   | true =>
    simp only [Option.some.injEq] at hv
    subst hv
    obtain ⟨rowsD, hd, hrow⟩ := h.nodeS hs
    have hok := h.ok s
    rw [hd] at hok
    obtain ⟨b, hb⟩ := own_box hok
    refine ⟨(δ s).ann, ?_, Lf.al (r := s) (p := []) (bx := true) (k := k) (rows := rowsD) (by simp [subD]; exact hd)⟩
    simp only [execOp, ho, ex, argv]
    rw [hb]
    simp only [Sem.run_pure]
  | al r p =>
   rw [hs] at hv
   simp only at hv
   split at hv
   · rename_i k rows hn
     simp only [Option.some.injEq] at hv
     subst hv
     obtain ⟨e1, _, bx, k', rows', hl⟩ := h.leaf hs rfl
     obtain ⟨D, hD, hDe⟩ := subD_of_sub (h.ok r).lfy hn
     rw [hl] at hD
     obtain rfl := Option.some.inj hD
     simp only [er_own, AV.own.injEq] at hDe
     obtain ⟨rfl, rfl, _⟩ := hDe
     obtain ⟨F', hok, _⟩ := (h.ok r).subD hl
     obtain ⟨b, hb⟩ := own_box hok
     refine ⟨(δ s).ann, ?_, Lf.al hl⟩
     simp only [execOp, ho, ex, argv]
     rw [hb]
     simp only [Sem.run_pure]
   · cases hv
  | _ => rw [hs] at hv; simp at hv
theorem capL_sound (h : St G w S δ Fr) {a : Act} (ha : Rd δ a) (ys : List Ar) : ∀ {xs : List Operand} {rs : List (Nat × List Step)}, chkL xs ys = true → capL (fun s => (δ s).er) ys = some rs →
 xs.length = rs.length ∧ ∀ (i : Nat) r p u, rs[i]? = some (r, p) → (xs.map a.eval)[i]? = some u → ∃ bx k rows, subD (δ r) p = some (.own u bx k rows) := by
 induction ys with
 | nil =>
  intro xs rs hc hr
  cases xs with
  | cons => simp [chkL] at hc
  | nil => simp only [capL, Option.some.injEq] at hr; subst hr; exact ⟨rfl, by simp⟩
 | cons y ys ih =>
  intro xs rs hc hr
  cases xs with
  | nil => simp [chkL] at hc
  | cons x xs =>
   simp only [chkL, Bool.and_eq_true] at hc
   obtain ⟨hy, hev⟩ := chkA_sound hc.1 ha
   cases y with
   | c => simp [capL] at hr
   | t s =>
    simp only [capL] at hr
    have step : ∀ r0 p0 l, capL (fun s => (δ s).er) ys = some l → rs = (r0, p0) :: l → (∃ bx k rows, subD (δ r0) p0 = some (.own (a.eval x) bx k rows)) → (x :: xs).length = rs.length ∧ ∀ (i : Nat) r p u, rs[i]? = some (r, p) → ((x :: xs).map a.eval)[i]? = some u → ∃ bx k rows, subD (δ r) p = some (.own u bx k rows) := by
     rintro r0 p0 l hl rfl h0
     obtain ⟨g1, g2⟩ := ih hc.2 hl
     refine ⟨by simp [g1], fun i r p u hi hu => ?_⟩
     cases i with
     | zero => simp only [List.getElem?_cons_zero, Option.some.injEq, Prod.mk.injEq, List.map_cons] at hi hu; obtain ⟨rfl, rfl⟩ := hi; subst hu; exact h0
     | succ i => exact g2 i r p u (by simpa using hi) (by simpa using hu)
    split at hr
    · rename_i k rows l hs hl
      simp only [Option.some.injEq] at hr
      obtain ⟨rowsD, hd, _⟩ := h.nodeS hs
      exact step s [] l hl hr.symm ⟨true, k, rowsD, by rw [hev]; simp [subD, argv]; exact hd⟩
    · rename_i q p l hs hl
      split at hr
      · rename_i k rows hn
        simp only [Option.some.injEq] at hr
        obtain ⟨_, _, bx, k', rows', hsub⟩ := h.leaf hs rfl
        exact step q p l hl hr.symm ⟨bx, k', rows', by rw [hev]; exact hsub⟩
      · cases hr
    · cases hr
theorem Lf.cl {f : Nat} {rs : List (Nat × List Step)} {vs : List Value} (h1 : vs.length = rs.length) (h2 : ∀ (i : Nat) r p u, rs[i]? = some (r, p) → vs[i]? = some u → ∃ bx k rows, subD (δ r) p = some (.own u bx k rows)) : Lf w S δ (.cl f rs) (.func (.func f) #[] vs.toArray) :=
 ⟨.lf (.cl f rs) _, by simp, by simp, .lf _ _ _ trivial (fun _ h => h), .lf _ _ ⟨vs, rfl, h1, h2⟩⟩
theorem gives_mkf (h : St G w S δ Fr) {a : Act} (ha : Rd δ a) {o : Oper} {f : Nat} {first caps : Array Operand} {ys : List Ar} (ho : o.op = .makeFunc (.func f) first caps) (hf : first = #[]) (hc : chkL caps.toList ys = true) {v : AV} (hv : valOf (.mkf f ys) (fun s => (δ s).er) = some v) : Gives P w S δ a o v := by
 simp only [valOf, Option.map_eq_some_iff] at hv
 obtain ⟨rs, hrs, rfl⟩ := hv
 obtain ⟨g1, g2⟩ := capL_sound h ha ys hc hrs
 refine ⟨.func (.func f) #[] (caps.toList.map a.eval).toArray, ?_, Lf.cl (by simpa using g1) g2⟩
 subst hf
 have e : caps.map a.eval = (caps.toList.map a.eval).toArray := by apply Array.ext'; simp
 simp [execOp, ho, Instr.makeFunc, e]
end Go.Abs
namespace Go.Abs
variable {w w' : World} {S S' : Nat → Prop} {G : Gi} {δ : Nat → DV} {Fr : Nat → Nat → Prop} {P : Program}
theorem flatten_get {α : Type} {rows : List (List α)} {k i j : Nat} {row : List α} {x : α} (hk : ∀ row ∈ rows, row.length = k) (h1 : rows[i]? = some row) (h2 : row[j]? = some x) : rows.flatten[i * k + j]? = some x := by
 induction rows generalizing i with
 | nil => simp at h1
 | cons r rs ih =>
  have hr := hk r (by simp)
  have hjk := row_lt hk h1 h2
  cases i with
  | zero =>
   simp only [List.getElem?_cons_zero, Option.some.injEq] at h1
   subst h1
   simp only [List.flatten_cons, Nat.zero_mul, Nat.zero_add]
   rw [List.getElem?_append_left (by omega)]
   exact h2
  | succ i =>
   simp only [List.getElem?_cons_succ] at h1
   simp only [List.flatten_cons]
   rw [List.getElem?_append_right (by rw [hr, Nat.succ_mul]; omega), hr, show (i + 1) * k + j - k = i * k + j from by rw [Nat.succ_mul]; omega]
   exact ih (fun row hrow => hk row (by simp [hrow])) h1
theorem flatten_length {α : Type} {rows : List (List α)} {k : Nat} (hk : ∀ row ∈ rows, row.length = k) : rows.flatten.length = rows.length * k := by
 induction rows with
 | nil => simp
 | cons r rs ih => simp only [List.flatten_cons, List.length_append, List.length_cons, hk r (by simp), ih (fun row hrow => hk row (by simp [hrow])), Nat.succ_mul]; omega
theorem OkL_append {l1 l2 : List DV} {F1 F2 : Nat → Prop} (h1 : OkL w S l1 F1) (h2 : OkL w S l2 F2) (hd : ∀ x, F1 x → ¬ F2 x) : OkL w S (l1 ++ l2) (fun x => F1 x ∨ F2 x) := by
 induction l1 generalizing F1 with
 | nil =>
  have : (fun x => F1 x ∨ F2 x) = F2 := funext fun x => propext ⟨fun h => h.elim (fun h => absurd h (h1 x)) id, .inr⟩
  rw [this]; exact h2
 | cons d l ih =>
  obtain ⟨Fa, Fb, ha, hb, hab, hF⟩ := h1
  refine ⟨Fa, fun x => Fb x ∨ F2 x, ha, ih hb (fun x hx => hd x ((hF x).2 (.inr hx))), ?_, fun x => ?_⟩
  · rintro x hx (h | h)
    · exact hab x hx h
    · exact hd x ((hF x).2 (.inl hx)) h
  · show F1 x ∨ F2 x ↔ Fa x ∨ Fb x ∨ F2 x
    rw [hF x]; exact or_assoc
theorem OkL.congr {l : List DV} {F F' : Nat → Prop} (h : OkL w S l F) (hF : ∀ x, F' x ↔ F x) : OkL w S l F' := by
 have : F' = F := funext fun x => propext (hF x)
 exact this ▸ h
theorem own_mk {bx : Bool} {k : Nat} {rows : List (List DV)} {b c : Nat} {arr : Array Value} {E : TypeId} {F : Nat → Prop} (hb : w.heap[b]? = some (.cells arr E (0, 0))) (hk : ∀ row ∈ rows, row.length = k)
    (hcap : if bx then rows.length = 1 ∧ arr.size = k else c * k = arr.size ∧ rows.length ≤ c) (hS : ¬ S b) (hok : OkL w S rows.flatten F) (hbF : ¬ F b) (ha : ∀ (n : Nat) d, rows.flatten[n]? = some d → arr[n]? = some d.ann) :
    Ok w S (.own (hdr bx b rows.length c) bx k rows) (fun x => x = b ∨ F x) := by
  obtain ⟨Fs, h1, h2, h3, h4⟩ := OkL_iff.1 hok
  refine .own bx k rows b c arr E (fun i j x => (∃ row d, rows[i]? = some row ∧ row[j]? = some d) ∧ Fs (i * k + j) x) _ hb hk hcap hS ?_ ?_ ?_ ?_ ?_ ?_
  · intro i j row d hi hj; exact ha _ d (flatten_get hk hi hj)
  · intro i j row d hi hj
    refine (h1 _ d (flatten_get hk hi hj)).congr fun x => ⟨fun h => h.2, fun h => ⟨⟨row, d, hi, hj⟩, h⟩⟩
  · rintro i j i' j' x ⟨⟨row, d, hi, hj⟩, hx⟩ ⟨⟨row', d', hi', hj'⟩, hx'⟩
    exact idx_inj (row_lt hk hi hj) (row_lt hk hi' hj') (h2 _ _ x hx hx')
  · rintro i j x ⟨h, _⟩; exact h
  · rintro i j ⟨_, h⟩; exact hbF ((h4 b).2 ⟨_, h⟩)
  · intro x
    constructor
    · rintro (h | h)
      · exact .inl h
      · obtain ⟨n, hn⟩ := (h4 x).1 h
        obtain ⟨d, hd⟩ := h3 n x hn
        have hlt : n < rows.length * k := by rw [← flatten_length hk]; exact (List.getElem?_eq_some_iff.1 hd).1
        have hk0 : 0 < k := by rcases Nat.eq_zero_or_pos k with h | h; · subst h; simp at hlt
                               · exact h
        have hi : n / k < rows.length := Nat.div_lt_of_lt_mul (by rw [Nat.mul_comm]; exact hlt)
        have hj : n % k < (rows[n / k]).length := by rw [hk _ (List.getElem_mem hi)]; exact Nat.mod_lt _ hk0
        refine .inr ⟨n / k, n % k, ⟨_, _, List.getElem?_eq_getElem hi, List.getElem?_eq_getElem hj⟩, ?_⟩
        rw [Nat.mul_comm, Nat.div_add_mod]; exact hn
    · rintro (h | ⟨i, j, _, h⟩)
      · exact .inl h
      · exact .inr ((h4 x).2 ⟨_, h⟩)
theorem own_parts {v : Value} {bx : Bool} {k : Nat} {rows : List (List DV)} {F : Nat → Prop} (h : Ok w S (.own v bx k rows) F) :
    (v = .slice none 0 0 ∧ bx = false ∧ rows = [] ∧ ∀ x, ¬ F x) ∨
    ∃ b c arr E Fc, v = hdr bx b rows.length c ∧ w.heap[b]? = some (.cells arr E (0, 0)) ∧ (∀ row ∈ rows, row.length = k) ∧ (if bx then rows.length = 1 ∧ arr.size = k else c * k = arr.size ∧ rows.length ≤ c) ∧ ¬ S b ∧ OkL w S rows.flatten Fc ∧ ¬ Fc b ∧
      (∀ x, F x ↔ x = b ∨ Fc x) ∧ (∀ (n : Nat) d, rows.flatten[n]? = some d → arr[n]? = some d.ann) := by
  cases h with
  | nil k _ hF => exact .inl ⟨rfl, rfl, rfl, hF⟩
  | own _ _ _ b c arr E Fs _ hb hk hcap hSb hv hr hd hval hbF hF =>
    refine .inr ⟨b, c, arr, E, fun x => ∃ i j, Fs i j x, rfl, hb, hk, hcap, hSb, ?_, fun ⟨i, j, h⟩ => hbF i j h, hF, ?_⟩
    · refine OkL_iff.2 ⟨fun n x => n < rows.length * k ∧ Fs (n / k) (n % k) x, ?_, ?_, ?_, ?_⟩
      · intro n d hd'
        have hlt : n < rows.length * k := by rw [← flatten_length hk]; exact (List.getElem?_eq_some_iff.1 hd').1
        have hk0 : 0 < k := by rcases Nat.eq_zero_or_pos k with h | h; · subst h; simp at hlt
                               · exact h
        have hi : n / k < rows.length := Nat.div_lt_of_lt_mul (by rw [Nat.mul_comm]; exact hlt)
        have hj : n % k < (rows[n / k]).length := by rw [hk _ (List.getElem_mem hi)]; exact Nat.mod_lt _ hk0
        have h1 := flatten_get hk (List.getElem?_eq_getElem hi) (List.getElem?_eq_getElem hj)
        rw [Nat.mul_comm, Nat.div_add_mod, hd'] at h1
        obtain rfl := Option.some.inj h1
        exact (hr _ _ _ _ (List.getElem?_eq_getElem hi) (List.getElem?_eq_getElem hj)).congr fun x => ⟨fun h => h.2, fun h => ⟨hlt, h⟩⟩
      · rintro n n' x ⟨h1, h2⟩ ⟨h3, h4⟩
        have := hd _ _ _ _ x h2 h4
        rw [← Nat.div_add_mod n k, ← Nat.div_add_mod n' k, this.1, this.2]
      · rintro n x ⟨h1, _⟩
        exact ⟨_, List.getElem?_eq_getElem (by rw [flatten_length hk]; exact h1)⟩
      · intro x
        constructor
        · rintro ⟨i, j, h⟩
          obtain ⟨row, d, h1, h2⟩ := hval i j x h
          have hjk := row_lt hk h1 h2
          have hi := (List.getElem?_eq_some_iff.1 h1).1
          have hk0 : 0 < k := by omega
          refine ⟨i * k + j, ?_, ?_⟩
          · calc i * k + j < i * k + k := by omega
              _ = (i + 1) * k := by rw [Nat.succ_mul]
              _ ≤ rows.length * k := Nat.mul_le_mul_right _ hi
          · have e1 : (i * k + j) / k = i := by rw [Nat.mul_comm, Nat.mul_add_div hk0, Nat.div_eq_of_lt hjk]; rfl
            have e2 : (i * k + j) % k = j := by rw [Nat.mul_comm, Nat.mul_add_mod]; exact Nat.mod_eq_of_lt hjk
            rw [e1, e2]; exact h
        · rintro ⟨n, _, h⟩; exact ⟨_, _, h⟩
    · intro n d hd'
      have hlt : n < rows.length * k := by rw [← flatten_length hk]; exact (List.getElem?_eq_some_iff.1 hd').1
      have hk0 : 0 < k := by rcases Nat.eq_zero_or_pos k with h | h; · subst h; simp at hlt
                             · exact h
      have hi : n / k < rows.length := Nat.div_lt_of_lt_mul (by rw [Nat.mul_comm]; exact hlt)
      have hj : n % k < (rows[n / k]).length := by rw [hk _ (List.getElem_mem hi)]; exact Nat.mod_lt _ hk0
      have h1 := flatten_get hk (List.getElem?_eq_getElem hi) (List.getElem?_eq_getElem hj)
      rw [Nat.mul_comm, Nat.div_add_mod, hd'] at h1
      obtain rfl := Option.some.inj h1
      have := hv _ _ _ _ (List.getElem?_eq_getElem hi) (List.getElem?_eq_getElem hj)
      rw [Nat.mul_comm, Nat.div_add_mod] at this
      exact this
theorem plain_of_cell {d : DV} {F : Nat → Prop} (h : Ok w S d F) (hc : cellA d.er = true) : plainV d.ann = true := by
 cases h with
 | lf a v _ ha _ =>
  cases a with
  | sc u => rw [ann_lf, ha.1]; exact ha.2
  | sl e k rows => obtain ⟨ad, c, hv⟩ := fz_slice (w := w) (S := S) ha; rw [ann_lf, hv]; rfl
  | own => exact ha.elim
  | _ => simp [cellA] at hc
 | nil => rfl
 | own bx k rows b c => cases bx <;> simp [hdr, plainV]
 | agg => simp [cellA] at hc
 | tup => simp [cellA] at hc
def cellsD : DV → List DV
 | .agg cs => cs
 | d => [d]
theorem cellsD_er (d : DV) (hl : Lfy d) : (cellsD d).map DV.er = cellsOf d.er := by
 cases d with
 | agg cs => simp [cellsD, cellsOf]
 | lf a v => cases hl with | lf _ _ h => cases a <;> simp_all [cellsD, cellsOf, leafy]
 | own => simp [cellsD, cellsOf]
 | tup => simp [cellsD, cellsOf]
theorem cells_plain {v : Value} (h : plainV v = true) : v.cells = #[v] := by cases v <;> simp_all [plainV, Value.cells]
theorem cellsD_ann {d : DV} {F : Nat → Prop} (h : Ok w S d F) (hc : (cellsOf d.er).all cellA = true) : d.ann.cells = ((cellsD d).map DV.ann).toArray := by
 cases hd : d with
 | agg cs => simp [cellsD, Value.cells]
 | lf a v =>
  subst hd
  have hl := h.lfy
  rw [← cellsD_er _ hl] at hc
  simp only [cellsD, List.map_cons, List.map_nil, List.all_cons, List.all_nil, Bool.and_true] at hc
  have := plain_of_cell h hc
  simp only [cellsD, List.map_cons, List.map_nil]
  exact cells_plain this
 | own hh b k rows =>
  subst hd
  have := plain_of_cell h (by simp [cellA])
  simp only [cellsD, List.map_cons, List.map_nil]
  exact cells_plain this
 | tup cs => subst hd; simp [cellsOf, cellA] at hc
theorem cellsD_ok {d : DV} {F : Nat → Prop} (h : Ok w S d F) : OkL w S (cellsD d) F := by
 have single : OkL w S [d] F := ⟨F, fun _ => False, h, fun _ h => h, fun _ _ h => h, fun x => by simp⟩
 cases d with
 | agg cs => exact Ok_agg_iff.1 h
 | lf a v => exact single
 | own => exact single
 | tup => exact single
theorem put_get (a : Act) (d : Nat) (v : Value) (h : d < a.tmps.size) (s : Nat) : (a.put (some d) v).tmps.getD s undef = if s = d then v else a.tmps.getD s undef := by
 simp only [Act.put, Array.getD_eq_getD_getElem?, Array.getElem?_setIfInBounds]
 by_cases hs : d = s
 · subst hs; simp [h]
 · have : ¬ s = d := fun e => hs e.symm
   simp [hs, this]
def Runs (P : Program) (G : Gi) (w : World) (S : Nat → Prop) (Fr : Nat → Nat → Prop) (a : Act) (o : Oper) (σ' : Sg) : Prop :=
 ∃ (n : Next) (v : Value) (w' : World) (S' : Nat → Prop) (δ' : Nat → DV) (F' : Nat → Nat → Prop), (execOp a.eval o).run P w = .ok n w' ∧ (n = .value v ∨ n = .skip ∧ v = undef) ∧ Rd δ' (a.put o.dst v) ∧ (fun s => (δ' s).er) = σ' ∧
  St G w' S' δ' F' ∧ Nx w S (Owned Fr) w' S' (Owned F')
def DstOK (G : Gi) (a : Act) (o : Oper) (d : Option Dst) : Prop :=
 match d with
 | none => o.dst = none
 | some d => o.dst = some d.d ∧ d.kl = G.als d.d ∧ d.rs = G.rtOf d.d ∧ d.d < a.tmps.size
theorem runs_of {S1 : Nat → Prop} {D : DV} {Ff : Nat → Prop} {δ1 : Nat → DV} {F1 : Nat → Nat → Prop} {a : Act} {o : Oper} {d : Dst} {σ' : Sg} (h : St G w S1 δ1 F1) (ha : Rd δ1 a) (hd : DstOK G a o (some d)) (hr : (execOp a.eval o).run P w = .ok (.value D.ann) w')
 (hw : ∀ b, S1 b → w'.heap[b]? = w.heap[b]?) (hf : ∀ s x, F1 s x → w'.heap[x]? = w.heap[x]?) (hSS : ∀ b, S1 b → S' b) (hfS : ∀ s x, F1 s x → ¬ S' x)
 (hD : Ok w' S' D Ff) (hdis : ∀ s x, F1 s x → ¬ Ff x) (hal : AlOK δ1 D) (hwr : wr d D.er (fun s => (δ1 s).er) = some σ') (hnx : Nx w S (Owned Fr) w' S' (fun x => Owned F1 x ∨ Ff x)) : Runs P G w S Fr a o σ' := by
 obtain ⟨h1, h2, h3, h4⟩ := hd
 obtain ⟨δ', F', hst, her, hann, hown⟩ := h.wr h2 h3 hw hf hSS hfS hD hdis hal hwr
 refine ⟨_, D.ann, w', S', δ', F', hr, .inl rfl, ?_, her, hst, hnx.trans (Nx.less hown)⟩
 intro s
 rw [h1, put_get a d.d D.ann h4 s, hann s]
 split
 · rfl
 · exact ha s
theorem runs_of_gives {a : Act} {o : Oper} {d : Dst} {σ' : Sg} {v : AV} (h : St G w S δ Fr) (ha : Rd δ a) (hd : DstOK G a o (some d)) (hg : Gives P w S δ a o v) (hwr : wr d v (fun s => (δ s).er) = some σ') : Runs P G w S Fr a o σ' := by
 obtain ⟨u, hr, D, rfl, rfl, hok, hal⟩ := hg
 exact runs_of h ha hd hr (fun _ _ => rfl) (fun _ _ _ => rfl) (fun _ h => h) (fun s x hx => (h.ok s).notS x hx) hok (fun _ _ _ h => h) hal hwr (Nx.less fun x hx => hx.elim id False.elim)
end Go.Abs
namespace Go.Abs
variable {w w' : World} {S S' : Nat → Prop} {G : Gi} {δ : Nat → DV} {Fr : Nat → Nat → Prop} {P : Program}
theorem alloc_old (w : World) (o : Obj) (b : Nat) (h : b < w.heap.size) : (w.alloc o).heap[b]? = w.heap[b]? := by
 show (w.heap.push o)[b]? = _
 rw [Array.getElem?_push, if_neg (by omega)]
theorem alloc_new (w : World) (o : Obj) : (w.alloc o).heap[w.heap.size]? = some o := by
 show (w.heap.push o)[w.heap.size]? = _
 simp
theorem Nx.alloc (w : World) (S U U' : Nat → Prop) (o : Obj) (h : ∀ x, U' x → U x ∨ x = w.heap.size) : Nx w S U (w.alloc o) S U' :=
 ⟨rfl, rfl, rfl, by simp, fun b hb _ => alloc_old w o b hb, fun _ h => h, fun _ h => .inl h, fun hl b hb => by have := hl b hb; simp; omega, fun x hx => (h x hx).imp id (fun e => by omega)⟩
theorem Nx.frz {w : World} {S U U' Fo : Nat → Prop} (h : ∀ x, U' x ∨ Fo x → U x) (hlt : ∀ x, Fo x → x < w.heap.size) : Nx w S U w (fun x => S x ∨ Fo x) U' :=
 ⟨rfl, rfl, rfl, Nat.le_refl _, fun _ _ _ => rfl, fun _ h => .inl h, fun x hx => hx.imp id fun hf => .inl (h x (.inr hf)), fun hl b hb => hb.elim (hl b) (hlt b), fun x hx => .inl (h x (.inl hx))⟩
theorem runs_mv (h : St G w S δ Fr) {a : Act} (ha : Rd δ a) {o : Oper} {x : Operand} {y : Ar} {d : Dst} (hd : DstOK G a o (some d)) (ho : o.op = .assign x) (hc : chkA x y = true) {σ' : Sg} (he : eff G (.mv y) (some d) (fun s => (δ s).er) = some σ') : Runs P G w S Fr a o σ' := by
 obtain ⟨hy, hev⟩ := chkA_sound hc ha
 simp only [eff] at he
 split at he
 · rename_i v τ ht
   obtain ⟨δ1, F1, D, Ff, hfl, her, hDe, hDa⟩ := h.tk hy ht
   subst her
   subst hDe
   exact runs_of hfl.st (fun s => (ha s).trans (hfl.ann s).symm) hd (by simp [execOp, ho, hev, hDa]) (fun _ _ => rfl) (fun _ _ _ => rfl) (fun _ h => h) (fun s x hx => (hfl.st.ok s).notS x hx) hfl.ok hfl.dis hfl.al he (Nx.less hfl.own)
 · cases he
theorem runs_new {δ1 : Nat → DV} {F1 : Nat → Nat → Prop} {a : Act} {o : Oper} {d : Dst} {σ' : Sg} {bx : Bool} {k c : Nat} {rows : List (List DV)} {Fd : Nat → Prop} {arr : Array Value} {E : TypeId} (h : St G w S δ1 F1) (hSlt : ∀ b, S b → b < w.heap.size) (ha : Rd δ1 a)
 (hd : DstOK G a o (some d)) (hr : (execOp a.eval o).run P w = .ok (.value (hdr bx w.heap.size rows.length c)) (w.alloc (.cells arr E))) (hok : OkL w S rows.flatten Fd) (hdis : ∀ s x, F1 s x → ¬ Fd x) (hk : ∀ row ∈ rows, row.length = k)
 (hcap : if bx then rows.length = 1 ∧ arr.size = k else c * k = arr.size ∧ rows.length ≤ c) (hv : ∀ (n : Nat) d, rows.flatten[n]? = some d → arr[n]? = some d.ann)
 (hwr : wr d (.own bx k (rows.map (·.map DV.er))) (fun s => (δ1 s).er) = some σ') (hown : ∀ x, Owned F1 x ∨ Fd x → Owned Fr x) : Runs P G w S Fr a o σ' := by
 have hlt := (Ok_agg_iff.2 hok).lt
 have hnS := (Ok_agg_iff.2 hok).notS
 have hold : ∀ b, b < w.heap.size → (w.alloc (.cells arr E)).heap[b]? = w.heap[b]? := fun b hb => alloc_old _ _ _ hb
 have hnode : Ok (w.alloc (.cells arr E)) S (.own (hdr bx w.heap.size rows.length c) bx k rows) (fun x => x = w.heap.size ∨ Fd x) := by
  refine own_mk (alloc_new w _) hk hcap (fun hs => by have := hSlt _ hs; omega) ?_ (fun hs => by have := hlt _ hs; omega) hv
  exact hok.mono (fun b hb => hold b (hSlt b hb)) (fun b hb => hold b (hlt b hb)) (fun _ h => h) hnS
 refine runs_of (D := .own (hdr bx w.heap.size rows.length c) bx k rows) h ha hd (by simpa using hr) (fun b hb => hold b (hSlt b hb)) (fun s x hx => hold x ((h.ok s).lt x hx)) (fun _ h => h) (fun s x hx => (h.ok s).notS x hx) hnode ?_ (.own _ _ _ _) (by simpa using hwr) ?_
 · rintro s x hx (rfl | hf)
   · have := (h.ok s).lt _ hx; omega
   · exact hdis s x hx hf
 · refine Nx.alloc _ _ _ _ _ ?_
   rintro x (hx | rfl | hx)
   · exact .inl (hown x (.inl hx))
   · exact .inr rfl
   · exact .inl (hown x (.inr hx))
theorem runs_bx (h : St G w S δ Fr) (hSlt : ∀ b, S b → b < w.heap.size) {a : Act} (ha : Rd δ a) {o : Oper} {y : Ar} {n : Nat} {d : Dst} (hd : DstOK G a o (some d)) (hy : ArOK y) {t : TypeId}
 (hr : (execOp a.eval o).run P w = .ok (.value (.pointer (some ⟨w.heap.size, 0, none⟩))) (w.alloc (.cells (argv δ y).cells t))) {σ' : Sg} (he : eff G (.bx n y) (some d) (fun s => (δ s).er) = some σ') : Runs P G w S Fr a o σ' := by
 simp only [eff] at he
 split at he
 · rename_i v τ ht
   split at he
   · rename_i hcond
     obtain ⟨hn, hcell⟩ := hcond
     obtain ⟨δ1, F1, D, Ff, hfl, her, hDe, hDa⟩ := h.tk hy ht
     subst her
     subst hDe
     have hm := cellsD_er D hfl.ok.lfy
     have hl : (cellsD D).length = n := by rw [← hn, ← hm]; simp
     have hcs := cellsD_ann hfl.ok hcell
     rw [hDa] at hcs
     refine runs_new (bx := true) (k := n) (c := 0) (rows := [cellsD D]) (Fd := Ff) (arr := (argv δ y).cells) (E := t) hfl.st hSlt (fun s => (ha s).trans (hfl.ann s).symm) hd (by rw [hr]; simp [hdr]) (by simpa using cellsD_ok hfl.ok) hfl.dis (by simpa using hl) ?_ ?_ ?_ hfl.own
     · simp [hcs, hl]
     · intro m e hme
       simp only [List.flatten_cons, List.flatten_nil, List.append_nil] at hme
       simp [hcs, hme]
     · simp only [List.map_cons, List.map_nil, hm]; exact he
   · cases he
 · cases he
theorem run_box {P : Program} (t : TypeId) (v : Value) (w : World) : (Instr.box t v).run P w = .ok (.pointer (some ⟨w.heap.size, 0, none⟩)) (w.alloc (.cells v.cells t)) := by
 simp [Instr.box, newVar, newRow]
theorem run_alloc {P : Program} (t : TypeId) (i : TypeInfo) (z : Value) (hi : P.info? t = some i) (hz : i.zero = some z) (w : World) : (Instr.alloc t true (.tuple #[])).run P w = .ok (.pointer (some ⟨w.heap.size, 0, none⟩)) (w.alloc (.cells z.cells t)) := by
 simp [Instr.alloc, zeroValue, typeInfo, hi, hz, newVar, newRow]
theorem OkL_splice {l r : List DV} {F1 F2 : Nat → Prop} (off : Nat) (h1 : OkL w S l F1) (h2 : OkL w S r F2) (hd : ∀ x, F1 x → ¬ F2 x) (hoff : off + r.length ≤ l.length) :
 ∃ F, OkL w S (l.take off ++ r ++ l.drop (off + r.length)) F ∧ ∀ x, F x → F1 x ∨ F2 x := by
 obtain ⟨Fs, g1, g2, g3, g4⟩ := OkL_iff.1 h1
 obtain ⟨Fr, k1, k2, k3, k4⟩ := OkL_iff.1 h2
 have hget : ∀ i, (l.take off ++ r ++ l.drop (off + r.length))[i]? = if i < off then l[i]? else if i < off + r.length then r[i - off]? else l[i]? := by
  intro i
  have hlen : (l.take off).length = off := by simp; omega
  by_cases c1 : i < off
  · rw [List.append_assoc, List.getElem?_append_left (by omega), List.getElem?_take, if_pos c1, if_pos c1]
  · by_cases c2 : i < off + r.length
    · rw [List.getElem?_append_left (by simp; omega), List.getElem?_append_right (by omega), hlen, if_neg c1, if_pos c2]
    · rw [List.getElem?_append_right (by simp; omega), List.getElem?_drop, if_neg c1, if_neg c2]
      congr 1
      simp
      omega
 refine ⟨fun x => ∃ i, (if i < off then Fs i x else if i < off + r.length then Fr (i - off) x else Fs i x), OkL_iff.2 ⟨fun i x => if i < off then Fs i x else if i < off + r.length then Fr (i - off) x else Fs i x, ?_, ?_, ?_, fun x => Iff.rfl⟩, ?_⟩
 · intro i e he
   rw [hget] at he
   by_cases c1 : i < off
   · simp only [c1, if_true] at he ⊢; exact g1 i e he
   · by_cases c2 : i < off + r.length
     · simp only [c1, c2, if_true, if_false] at he ⊢; exact k1 _ e he
     · simp only [c1, c2, if_false] at he ⊢; exact g1 i e he
 · intro i i' x hx hy
   have out : ∀ i, Fs i x → F1 x := fun i h => (g4 x).2 ⟨i, h⟩
   have inn : ∀ i, Fr i x → F2 x := fun i h => (k4 x).2 ⟨i, h⟩
   by_cases c1 : i < off <;> by_cases c2 : i' < off <;> by_cases c3 : i < off + r.length <;> by_cases c4 : i' < off + r.length <;> simp only [c1, c2, c3, c4, if_true, if_false] at hx hy <;>
    first
     | exact g2 _ _ x hx hy
     | exact absurd (inn _ hy) (hd x (out _ hx))
     | exact absurd (inn _ hx) (hd x (out _ hy))
     | (have := k2 _ _ x hx hy; omega)
     | omega
 · intro i x hx
   rw [hget]
   by_cases c1 : i < off
   · simp only [c1, if_true] at hx ⊢; exact g3 i x hx
   · by_cases c2 : i < off + r.length
     · simp only [c1, c2, if_true, if_false] at hx ⊢; exact k3 _ x hx
     · simp only [c1, c2, if_false] at hx ⊢; exact g3 i x hx
 · rintro x ⟨i, hx⟩
   by_cases c1 : i < off
   · simp only [c1, if_true] at hx; exact .inl ((g4 x).2 ⟨i, hx⟩)
   · by_cases c2 : i < off + r.length
     · simp only [c1, c2, if_true, if_false] at hx; exact .inr ((k4 x).2 ⟨_, hx⟩)
     · simp only [c1, c2, if_false] at hx; exact .inl ((g4 x).2 ⟨i, hx⟩)
theorem splice_map (ds r : List DV) (off : Nat) : (ds.take off ++ r ++ ds.drop (off + r.length)).map DV.er = splice (ds.map DV.er) off (r.map DV.er) := by
 simp [splice, List.map_take, List.map_drop]
theorem fold_set (vs : List Value) (off : Nat) (cells : Array Value) (h : off + vs.length ≤ cells.size) (m : Nat) :
 ((vs.zipIdx m).foldl (fun cs (x : Value × Nat) => cs.setIfInBounds (off + x.2) x.1) cells).toList = cells.toList.take (off + m) ++ vs ++ cells.toList.drop (off + m + vs.length) ∨ off + m + vs.length > cells.size := by
 induction vs generalizing cells m with
 | nil => left; simp
 | cons v vs ih =>
  by_cases hb : off + m + (v :: vs).length > cells.size
  · exact .inr hb
  · left
    simp only [List.zipIdx_cons, List.foldl_cons]
    have h1 := ih (cells.setIfInBounds (off + m) v) (by simp at h ⊢; omega) (m + 1)
    simp only [Array.size_setIfInBounds] at h1
    rcases h1 with h1 | h1
    · rw [h1]
      have hlt : off + m < cells.toList.length := by simp at hb ⊢; omega
      simp only [Array.toList_setIfInBounds]
      rw [List.take_set, List.drop_set_of_lt (by omega)]
      rw [show off + (m + 1) = off + m + 1 from by omega, List.take_succ_eq_append_getElem hlt, List.set_append_right _ _ (by simp; omega)]
      simp only [List.length_take, Nat.min_eq_left (Nat.le_of_lt hlt), Nat.sub_self, List.set_cons_zero, List.append_assoc, List.cons_append, List.length_cons, List.nil_append]
      rw [show off + m + 1 + vs.length = off + m + (vs.length + 1) from by omega]
    · simp at h1 hb; omega
end Go.Abs
namespace Go.Abs
variable {w w' : World} {S S' : Nat → Prop} {G : Gi} {δ : Nat → DV} {Fr : Nat → Nat → Prop} {P : Program}
theorem fill_cons (place : Nat → Option (Nat × Nat)) (cells : List Value) (i off n : Nat) (v : Value) (rest : List (Nat × Value)) (vs : List Value) (hp : place i = some (off, n)) (hv : v.cells = vs.toArray) (hn : vs.length = n) (hb : off + n ≤ cells.length) :
 Instr.fill place cells.toArray ((i, v) :: rest) = Instr.fill place (cells.take off ++ vs ++ cells.drop (off + vs.length)).toArray rest := by
 have hc : (decide (v.cells.size ≠ n) || decide (off + v.cells.size > cells.toArray.size)) = false := by
  simp [hv, hn]; omega
 have hf := fold_set vs off cells.toArray (by simp; omega) 0
 simp only [Nat.add_zero] at hf
 rcases hf with hf | hf
 · have : (v.cells.zipIdx.foldl (fun cs (x : Value × Nat) => cs.setIfInBounds (off + x.2) x.1) cells.toArray) = (cells.take off ++ vs ++ cells.drop (off + vs.length)).toArray := by
    apply Array.ext'
    rw [hv, ← hf]
    have e : vs.toArray.zipIdx = vs.zipIdx.toArray := by simp
    rw [e]
    simp
   simp only [Instr.fill, hp, hc]
   simp only [Bool.false_eq_true, if_false]
   exact congrArg (fun z => Instr.fill place z rest) this
 · simp at hf; omega
def chkParts (place : Nat → Option (Nat × Nat)) : List (Nat × Operand) → List (Nat × Nat × Ar) → Bool
 | [], [] => true
 | (i, x) :: qs, (off, n, y) :: ps => (match place i with | some (o', n') => o' == off && n' == n | none => false) && chkA x y && chkParts place qs ps
 | _, _ => false
theorem St.bldL {a : Act} {place : Nat → Option (Nat × Nat)} (ps : List (Nat × Nat × Ar)) : ∀ (qs : List (Nat × Operand)) {δ : Nat → DV} {Fr : Nat → Nat → Prop} {ds : List DV} {Fd : Nat → Prop} {cs' : List AV} {τ : Sg}, St G w S δ Fr → Rd δ a →
 chkParts place qs ps = true → OkL w S ds Fd → (∀ s x, Fr s x → ¬ Fd x) → (ds.map DV.er).all cellA = true → Abs.bldL G ps (ds.map DV.er) (fun s => (δ s).er) = some (cs', τ) →
 ∃ δ' F' ds' Fd', St G w S δ' F' ∧ (fun s => (δ' s).er) = τ ∧ (∀ s, (δ' s).ann = (δ s).ann) ∧ OkL w S ds' Fd' ∧ ds'.map DV.er = cs' ∧ Instr.fill place (ds.map DV.ann).toArray (qs.map fun (i, x) => (i, a.eval x)) = some (ds'.map DV.ann).toArray ∧
  (∀ s x, F' s x → ¬ Fd' x) ∧ (∀ x, Owned F' x ∨ Fd' x → Owned Fr x ∨ Fd x) ∧ cs'.all cellA = true := by
 induction ps with
 | nil =>
  intro qs δ Fr ds Fd cs' τ h ha hc hok hdis hcell hb
  cases qs with
  | cons q qs => simp [chkParts] at hc
  | nil =>
   simp only [Abs.bldL, Option.some.injEq, Prod.mk.injEq] at hb
   obtain ⟨rfl, rfl⟩ := hb
   exact ⟨δ, Fr, ds, Fd, h, rfl, fun _ => rfl, hok, rfl, by simp [Instr.fill], hdis, fun x hx => hx, hcell⟩
 | cons p ps ih =>
  obtain ⟨off, n, y⟩ := p
  intro qs δ Fr ds Fd cs' τ h ha hc hok hdis hcell hb
  cases qs with
  | nil => simp [chkParts] at hc
  | cons q qs =>
   obtain ⟨i, x⟩ := q
   simp only [chkParts, Bool.and_eq_true] at hc
   obtain ⟨⟨hp, hcx⟩, hcr⟩ := hc
   have hp' : place i = some (off, n) := by
    split at hp
    · rename_i o' n' hpl; simp only [Bool.and_eq_true, beq_iff_eq] at hp; rw [hpl, hp.1, hp.2]
    · cases hp
   obtain ⟨hy, hev⟩ := chkA_sound hcx ha
   simp only [Abs.bldL] at hb
   split at hb
   · rename_i v τ1 ht
     split at hb
     · rename_i hcond
       obtain ⟨hn, hoff, hall⟩ := hcond
       obtain ⟨δ1, F1, D, Ff, hfl, her, hDe, hDa⟩ := h.tk hy ht
       subst her
       subst hDe
       have hm := cellsD_er D hfl.ok.lfy
       have hl : (cellsD D).length = n := by rw [← hn, ← hm]; simp
       have hcs := cellsD_ann hfl.ok hall
       have hdF : ∀ x, Fd x → ¬ Ff x := by
        intro x hx hf
        obtain ⟨t, ht⟩ := hfl.own x (.inr hf)
        exact hdis t x ht hx
       have hoff' : off + (cellsD D).length ≤ ds.length := by rw [hl]; simpa using hoff
       obtain ⟨F2, hok2, hsub2⟩ := OkL_splice off hok (cellsD_ok hfl.ok) hdF hoff'
       have hdis2 : ∀ s x, F1 s x → ¬ F2 x := by
        intro s x hx h2
        rcases hsub2 x h2 with h3 | h3
        · obtain ⟨t, ht⟩ := hfl.own x (.inl ⟨s, hx⟩)
          exact hdis t x ht h3
        · exact hfl.dis s x hx h3
       have hsp := splice_map ds (cellsD D) off
       have hcell2 : ((ds.take off ++ cellsD D ++ ds.drop (off + (cellsD D).length)).map DV.er).all cellA = true := by
        rw [List.all_eq_true] at hcell hall ⊢
        intro c hc
        simp only [List.map_append, List.mem_append] at hc
        rcases hc with (hc | hc) | hc
        · exact hcell c (by rw [List.map_take] at hc; exact List.mem_of_mem_take hc)
        · rw [hm] at hc; exact hall c hc
        · exact hcell c (by rw [List.map_drop] at hc; exact List.mem_of_mem_drop hc)
       rw [← hm] at hb
       rw [← hsp] at hb
       obtain ⟨δ2, F2', ds', Fd', hst2, her2, hann2, hokk, hmap, hfill, hdis3, hown3, hcell3⟩ := ih qs hfl.st (fun s => (ha s).trans (hfl.ann s).symm) hcr hok2 hdis2 hcell2 hb
       refine ⟨δ2, F2', ds', Fd', hst2, her2, fun s => (hann2 s).trans (hfl.ann s), hokk, hmap, ?_, hdis3, ?_, hcell3⟩
       · simp only [List.map_cons]
         rw [fill_cons place (ds.map DV.ann) i off n (a.eval x) _ ((cellsD D).map DV.ann) hp' (by rw [hev, ← hDa]; exact hcs) (by simpa using hl) (by simpa using hoff)]
         rw [← hfill]
         congr 2
         simp [List.map_take, List.map_drop]
       · intro x hx
         rcases hown3 x hx with h3 | h3
         · exact .inl (hfl.own x (.inl h3))
         · rcases hsub2 x h3 with h4 | h4
           · exact .inr h4
           · exact .inl (hfl.own x (.inr h4))
     · cases hb
   · cases hb
theorem runs_bld (h : St G w S δ Fr) {a : Act} (ha : Rd δ a) {o : Oper} {t : TypeId} {parts : Array (Nat × Operand)} {place : Nat → Option (Nat × Nat)} {z : List AV} {zd : List DV} {ps : List (Nat × Nat × Ar)} {d : Dst} (hd : DstOK G a o (some d)) (ho : o.op = .build t parts)
 (hz : cstL z = some zd) (hzc : z.all cellA = true) (hch : chkParts place parts.toList ps = true)
 (hr : ∀ cells : Array Value, Instr.fill place (zd.map DV.ann).toArray (parts.toList.map fun (i, x) => (i, a.eval x)) = some cells → (Instr.build t (parts.map fun (i, x) => (i, a.eval x))).run P w = .ok (.agg cells) w) {σ' : Sg}
 (he : eff G (.bld z ps) (some d) (fun s => (δ s).er) = some σ') : Runs P G w S Fr a o σ' := by
 have hcst : zd.map DV.er = z ∧ OkL w S zd (fun _ => False) := by
  have := cst_facts (w := w) (S := S) (δ := δ) (.agg z) (.agg zd) (by simp [cstD, hz])
  exact ⟨by simpa using this.1, Ok_agg_iff.1 this.2.1⟩
 simp only [eff] at he
 split at he
 · rename_i cs τ hb
   rw [← hcst.1] at hb hzc
   obtain ⟨δ', F', ds', Fd', hst, her, hann, hok, hmap, hfill, hdis, hown, hcell⟩ := h.bldL (a := a) ps parts.toList ha hch hcst.2 (fun _ _ _ h => h) hzc hb
   subst her
   subst hmap
   refine runs_of (D := .agg ds') (Ff := Fd') hst (fun s => (ha s).trans (hann s).symm) hd ?_ (fun _ _ => rfl) (fun _ _ _ => rfl) (fun _ h => h) (fun s x hx => (hst.ok s).notS x hx) (Ok_agg_iff.2 hok) hdis (.agg _ fun i e hi => ?_) (by simpa using he) (Nx.less ?_)
   · have := hr _ hfill
     simp only [execOp, ho, Sem.run_bind, this, Result.andThen_ok, Sem.run_pure, ann_agg]
   · exact AlOK_cells (fun a ha => by rw [List.all_eq_true] at hcell; exact hcell a ha) e (List.mem_of_getElem? hi)
   · intro x hx
     rcases hown x hx with h1 | h1
     · exact h1
     · exact h1.elim
 · cases he
theorem flatten_set {α : Type} {rows : List (List α)} {k i : Nat} {r : List α} (hk : ∀ row ∈ rows, row.length = k) (hi : i < rows.length) (hr : r.length = k) : (rows.set i r).flatten = rows.flatten.take (i * k) ++ r ++ rows.flatten.drop (i * k + r.length) := by
 induction rows generalizing i with
 | nil => simp at hi
 | cons x xs ih =>
  have hx := hk x (by simp)
  cases i with
  | zero => simp [hr, ← hx]
  | succ i =>
   simp only [List.set_cons_succ, List.flatten_cons]
   rw [ih (fun row hrow => hk row (by simp [hrow])) (by simpa using hi)]
   have e1 : (x ++ xs.flatten).take ((i + 1) * k) = x ++ xs.flatten.take (i * k) := by
    rw [show (i + 1) * k = x.length + i * k from by rw [Nat.succ_mul, hx]; omega, List.take_length_add_append]
   have e2 : (x ++ xs.flatten).drop ((i + 1) * k + r.length) = xs.flatten.drop (i * k + r.length) := by
    rw [show (i + 1) * k + r.length = x.length + (i * k + r.length) from by rw [Nat.succ_mul, hx]; omega, List.drop_length_add_append]
   rw [e1, e2]
   simp [List.append_assoc]
def chkRows (k : Nat) : List (Nat × Operand) → List (Nat × Ar) → Bool
 | [], [] => true
 | (i, x) :: qs, (j, y) :: ps => i == j && chkA x y && chkRows k qs ps
 | _, _ => false
theorem St.bslL {a : Act} {k : Nat} (ps : List (Nat × Ar)) : ∀ (qs : List (Nat × Operand)) {δ : Nat → DV} {Fr : Nat → Nat → Prop} {ds : List (List DV)} {Fd : Nat → Prop} {rs : List (List AV)} {τ : Sg}, St G w S δ Fr → Rd δ a →
 chkRows k qs ps = true → OkL w S ds.flatten Fd → (∀ r ∈ ds, r.length = k) → (∀ s x, Fr s x → ¬ Fd x) → Abs.bslL G k ps (ds.map (·.map DV.er)) (fun s => (δ s).er) = some (rs, τ) →
 ∃ (δ' : Nat → DV) (F' : Nat → Nat → Prop) (ds' : List (List DV)) (Fd' : Nat → Prop), St G w S δ' F' ∧ (fun s => (δ' s).er) = τ ∧ (∀ s, (δ' s).ann = (δ s).ann) ∧ OkL w S ds'.flatten Fd' ∧ (∀ r ∈ ds', r.length = k) ∧ ds'.length = ds.length ∧ ds'.map (·.map DV.er) = rs ∧
  Instr.fill (fun i => some (i * k, k)) (ds.flatten.map DV.ann).toArray (qs.map fun (i, x) => (i, a.eval x)) = some (ds'.flatten.map DV.ann).toArray ∧ (∀ s x, F' s x → ¬ Fd' x) ∧ (∀ x, Owned F' x ∨ Fd' x → Owned Fr x ∨ Fd x) := by
 induction ps with
 | nil =>
  intro qs δ Fr ds Fd rs τ h ha hc hok hk hdis hb
  cases qs with
  | cons q qs => simp [chkRows] at hc
  | nil =>
   simp only [Abs.bslL, Option.some.injEq, Prod.mk.injEq] at hb
   obtain ⟨rfl, rfl⟩ := hb
   exact ⟨δ, Fr, ds, Fd, h, rfl, fun _ => rfl, hok, hk, rfl, rfl, by simp [Instr.fill], hdis, fun x hx => hx⟩
 | cons p ps ih =>
  obtain ⟨j, y⟩ := p
  intro qs δ Fr ds Fd rs τ h ha hc hok hk hdis hb
  cases qs with
  | nil => simp [chkRows] at hc
  | cons q qs =>
   obtain ⟨i, x⟩ := q
   simp only [chkRows, Bool.and_eq_true, beq_iff_eq] at hc
   obtain ⟨⟨rfl, hcx⟩, hcr⟩ := hc
   obtain ⟨hy, hev⟩ := chkA_sound hcx ha
   simp only [Abs.bslL] at hb
   split at hb
   · rename_i v τ1 ht
     split at hb
     · rename_i hcond
       obtain ⟨hn, hi, hall⟩ := hcond
       obtain ⟨δ1, F1, D, Ff, hfl, her, hDe, hDa⟩ := h.tk hy ht
       subst her
       subst hDe
       have hm := cellsD_er D hfl.ok.lfy
       have hl : (cellsD D).length = k := by rw [← hn, ← hm]; simp
       have hcs := cellsD_ann hfl.ok hall
       have hi' : i < ds.length := by simpa using hi
       have hdF : ∀ x, Fd x → ¬ Ff x := by
        intro x hx hf
        obtain ⟨t, ht⟩ := hfl.own x (.inr hf)
        exact hdis t x ht hx
       have hb2 : i * k + (cellsD D).length ≤ ds.flatten.length := by
        rw [flatten_length hk, hl, ← Nat.succ_mul]; exact Nat.mul_le_mul_right _ hi'
       obtain ⟨F2, hok2, hsub2⟩ := OkL_splice (i * k) hok (cellsD_ok hfl.ok) hdF hb2
       rw [← flatten_set hk hi' hl] at hok2
       have hdis2 : ∀ s x, F1 s x → ¬ F2 x := by
        intro s x hx h2
        rcases hsub2 x h2 with h3 | h3
        · obtain ⟨t, ht⟩ := hfl.own x (.inl ⟨s, hx⟩)
          exact hdis t x ht h3
        · exact hfl.dis s x hx h3
       have hk2 : ∀ r ∈ ds.set i (cellsD D), r.length = k := by
        intro r hr
        rcases List.mem_or_eq_of_mem_set hr with h | rfl
        · exact hk r h
        · exact hl
       rw [← hm] at hb
       rw [← List.map_set (f := fun x : List DV => x.map DV.er)] at hb
       obtain ⟨δ2, F2', ds', Fd', hst2, her2, hann2, hokk, hk3, hlen, hmap, hfill, hdis3, hown3⟩ := ih qs hfl.st (fun s => (ha s).trans (hfl.ann s).symm) hcr hok2 hk2 hdis2 hb
       refine ⟨δ2, F2', ds', Fd', hst2, her2, fun s => (hann2 s).trans (hfl.ann s), hokk, hk3, by simpa using hlen, hmap, ?_, hdis3, ?_⟩
       · simp only [List.map_cons]
         rw [fill_cons _ (ds.flatten.map DV.ann) i (i * k) k (a.eval x) _ ((cellsD D).map DV.ann) rfl (by rw [hev, ← hDa]; exact hcs) (by simpa using hl) (by rw [List.length_map]; rw [hl] at hb2; exact hb2)]
         rw [← hfill, flatten_set hk hi' hl]
         congr 2
         simp [List.map_take, List.map_drop]
       · intro x hx
         rcases hown3 x hx with h3 | h3
         · exact .inl (hfl.own x (.inl h3))
         · rcases hsub2 x h3 with h4 | h4
           · exact .inr h4
           · exact .inl (hfl.own x (.inr h4))
     · cases hb
   · cases hb
def cstR : List (List AV) → Option (List (List DV))
 | [] => some []
 | r :: rs => match cstL r, cstR rs with
  | some d, some ds => some (d :: ds)
  | _, _ => none
theorem cstR_facts (rs : List (List AV)) (ds : List (List DV)) (h : cstR rs = some ds) : ds.map (·.map DV.er) = rs ∧ OkL w S ds.flatten (fun _ => False) := by
 induction rs generalizing ds with
 | nil => simp only [cstR, Option.some.injEq] at h; subst h; exact ⟨rfl, fun _ h => h⟩
 | cons r rs ih =>
  simp only [cstR] at h
  split at h
  · rename_i d ds' h1 h2
    obtain rfl := Option.some.inj h
    obtain ⟨g1, g2⟩ := ih ds' h2
    have := cst_facts (w := w) (S := S) (δ := fun _ => default) (.agg r) (.agg d) (by simp [cstD, h1])
    refine ⟨by simp [g1]; simpa using this.1, ?_⟩
    simp only [List.flatten_cons]
    exact (OkL_append (Ok_agg_iff.1 this.2.1) g2 (fun _ h => h.elim)).congr fun x => by simp
  · cases h
theorem runs_bsl (h : St G w S δ Fr) (hSlt : ∀ b, S b → b < w.heap.size) {a : Act} (ha : Rd δ a) {o : Oper} {t e : TypeId} {len k : Nat} {parts : Array (Nat × Operand)} {z : List (List AV)} {zd : List (List DV)} {ps : List (Nat × Ar)} {d : Dst} (hd : DstOK G a o (some d)) (ho : o.op = .buildSlice t len parts)
 (hz : cstR z = some zd) (hzk : ∀ r ∈ z, r.length = k) (hzl : z.length = len) (hch : chkRows k parts.toList ps = true)
 (hr : ∀ cells : Array Value, Instr.fill (fun i => some (i * k, k)) (zd.flatten.map DV.ann).toArray (parts.toList.map fun (i, x) => (i, a.eval x)) = some cells →
  (Instr.buildSlice t len (parts.map fun (i, x) => (i, a.eval x))).run P w = .ok (.slice (some ⟨w.heap.size, 0, none⟩) len len) (w.alloc (.cells cells e))) {σ' : Sg}
 (he : eff G (.bsl k z ps) (some d) (fun s => (δ s).er) = some σ') : Runs P G w S Fr a o σ' := by
 obtain ⟨hzm, hzok⟩ := cstR_facts (w := w) (S := S) z zd hz
 have hzdk : ∀ r ∈ zd, r.length = k := by
  intro r hr
  have := hzk (r.map DV.er) (by rw [← hzm]; exact List.mem_map_of_mem hr)
  simpa using this
 have hzdl : zd.length = len := by rw [← hzl, ← hzm]; simp
 simp only [eff] at he
 split at he
 · rename_i rs τ hb
   rw [← hzm] at hb
   obtain ⟨δ', F', ds', Fd', hst, her, hann, hok, hk, hlen, hmap, hfill, hdis, hown⟩ := h.bslL (a := a) ps parts.toList ha hch hzok hzdk (fun _ _ _ h => h) hb
   subst her
   subst hmap
   refine runs_new (bx := false) (k := k) (c := len) (rows := ds') (Fd := Fd') (arr := (ds'.flatten.map DV.ann).toArray) (E := e) hst hSlt (fun s => (ha s).trans (hann s).symm) hd ?_ hok hdis hk ?_ ?_ he ?_
   · have := hr _ hfill
     simp only [execOp, ho, Sem.run_bind, this, Result.andThen_ok, Sem.run_pure, hdr, Bool.false_eq_true, if_false, hlen, hzdl]
   · simp only [Bool.false_eq_true, if_false, List.size_toArray, List.length_map, flatten_length hk, hlen, hzdl]
     exact ⟨trivial, Nat.le_refl _⟩
   · intro n d hn; rw [List.getElem?_toArray, List.getElem?_map, hn]; rfl
   · intro x hx
     rcases hown x hx with h1 | h1
     · exact h1
     · exact h1.elim
 · cases he
theorem cstL_facts (z : List AV) (zd : List DV) (h : cstL z = some zd) : zd.map DV.er = z ∧ ∀ D ∈ zd, Ok w S D (fun _ => False) := by
 obtain ⟨h1, h2, _⟩ := cst_facts (w := w) (S := S) (δ := fun _ => .lf .un undef) (.agg z) (.agg zd) (by simp [cstD, h])
 refine ⟨by simpa using h1, fun D hD => ?_⟩
 obtain ⟨Fs, g1, _, _, g4⟩ := OkL_iff.1 (Ok_agg_iff.1 h2)
 obtain ⟨i, hi⟩ := List.getElem?_of_mem hD
 have := g1 i D hi
 have e : Fs i = fun _ => False := funext fun x => propext ⟨fun hx => (g4 x).2 ⟨i, hx⟩, False.elim⟩
 rwa [e] at this
theorem flat_rep {α : Type} (zd : List α) (l : Nat) : ∀ n, n < l * zd.length → (List.replicate l zd).flatten[n]? = zd[n % zd.length]? := by
 induction l with
 | zero => intro n h; omega
 | succ l ih =>
  intro n h
  rw [List.replicate_succ, List.flatten_cons]
  by_cases hn : n < zd.length
  · rw [List.getElem?_append_left hn, Nat.mod_eq_of_lt hn]
  · rw [List.getElem?_append_right (by omega), ih (n - zd.length) (by rw [Nat.add_mul, Nat.one_mul] at h; omega), ← Nat.mod_eq_sub_mod (by omega)]
theorem runs_mk (h : St G w S δ Fr) (hSlt : ∀ b, S b → b < w.heap.size) {a : Act} (ha : Rd δ a) {o : Oper} {t e : TypeId} {k bytes : Nat} {x y : Operand} {z : List AV} {zd : List DV} {x' y' : Ar} {d : Dst} {i : TypeInfo} {zv : Value} (hd : DstOK G a o (some d)) (ho : o.op = .makeSlice t x y)
 (hu : P.underlying t = some (.slice e)) (hi : P.info? e = some i) (hzv : i.zero = some zv) (hsz : i.size = k) (hby : i.bytes = bytes) (hb0 : 0 < bytes) (hk0 : 0 < k) (hz : cstL z = some zd) (hzc : zv.cells.toList = zd.map DV.ann) (hzk : z.length = k)
 (hcx : chkA x x' = true) (hcy : chkA y y' = true) {σ' : Sg} (he : eff G (.mk k bytes z x' y') (some d) (fun s => (δ s).er) = some σ') : Runs P G w S Fr a o σ' := by
 obtain ⟨hx, ex⟩ := chkA_sound hcx ha
 obtain ⟨hy, ey⟩ := chkA_sound hcy ha
 simp only [eff] at he
 split at he
 · rename_i l c hl hc
   split at he
   · rename_i hcond
     obtain ⟨h0, hlc, hroom⟩ := hcond
     obtain ⟨kl, hl⟩ := asI_sc hl
     obtain ⟨kc, hc⟩ := asI_sc hc
     obtain ⟨el, _⟩ := h.argSc hx hl
     obtain ⟨ec, _⟩ := h.argSc hy hc
     have hr : c.toNat * bytes ≤ 70368744177664 := by simpa [roomOK] using hroom
     have hcn : (c.toNat : Int) = c := Int.toNat_of_nonneg (by omega)
     have hcle : c.toNat ≤ c.toNat * bytes := Nat.le_mul_of_pos_right _ hb0
     have hzlen : zd.length = k := by
      have := congrArg List.length (cstL_facts (w := w) (S := S) z zd hz).1
      rw [List.length_map] at this
      rw [this, hzk]
     have hrun := run_make (P := P) w t e i zv hu hi hzv kl kc l c h0 hlc (by
      rw [hby, ← hcn]
      have : (bytes : Int) * (c.toNat : Int) = ((c.toNat * bytes : Nat) : Int) := by rw [Nat.mul_comm]; simp
      rw [this]; omega) (by omega)
     have hzcs : zv.cells.size = k := by
      have := congrArg List.length hzc
      simp only [List.length_map, hzlen] at this
      simpa using this
     have hrows : (List.replicate l.toNat zd).length = l.toNat := by simp
     refine runs_new (bx := false) (k := k) (c := c.toNat) (rows := List.replicate l.toNat zd) (Fd := fun _ => False) (arr := madeCells zv.cells (c.toNat * i.size)) (E := e) h hSlt ha hd ?_ ?_ (fun _ _ _ h => h) ?_ ?_ ?_ ?_ (fun x hx => hx.elim id False.elim)
     · simp only [execOp, ho, ex, ey, el, ec, Sem.run_bind, hrun, Result.andThen_ok, Sem.run_pure, hdr, Bool.false_eq_true, if_false, hrows]
     · refine OkL_empty fun D hD => ?_
       obtain ⟨row, hrow, hD'⟩ := List.mem_flatten.1 hD
       rw [List.eq_of_mem_replicate hrow] at hD'
       exact (cstL_facts z zd hz).2 D hD'
     · intro row hrow
       rw [List.eq_of_mem_replicate hrow, hzlen]
     · simp only [Bool.false_eq_true, if_false, size_madeCells, hsz, hrows]
       exact ⟨trivial, by omega⟩
     · intro n D hn
       have hnl : n < l.toNat * zd.length := by
        have := (List.getElem?_eq_some_iff.1 hn).1
        simpa using this
       rw [flat_rep zd l.toNat n hnl] at hn
       have hlck : l.toNat * k ≤ c.toNat * k := Nat.mul_le_mul_right _ (by omega)
       have hnc : n < c.toNat * i.size := by rw [hsz]; rw [hzlen] at hnl; omega
       have hmod : n % k < k := Nat.mod_lt _ hk0
       rw [hzlen] at hn
       have hcell : zv.cells[n % k]? = some D.ann := by
        rw [← Array.getElem?_toList, hzc, List.getElem?_map, hn]; rfl
       simp only [madeCells, Array.getElem?_map, Array.getElem?_range, if_pos hnc, Option.map_some, hzcs]
       rw [getElem!_def, hcell]
     · have : (List.replicate l.toNat zd).map (·.map DV.er) = List.replicate l.toNat z := by
        rw [List.map_replicate, (cstL_facts (w := w) (S := S) z zd hz).1]
       rw [this]; exact he
   · cases he
 · cases he
end Go.Abs
namespace Go.Abs
variable {w w' : World} {S S' : Nat → Prop} {G : Gi} {δ : Nat → DV} {Fr : Nat → Nat → Prop} {P : Program}
def Bd (v : Option Value) (dflt n : Nat) : Prop := (v = none ∧ n = dflt) ∨ ∃ kk i, v = some (.int kk i) ∧ 0 ≤ i ∧ i.toNat = n
theorem St.bd (h : St G w S δ Fr) {a : Act} (ha : Rd δ a) {x : Option Operand} {y : Option Ar} (hc : chkO x y = true) {dflt n : Nat} (ho : optI (fun s => (δ s).er) y dflt = some n) : Bd (x.map a.eval) dflt n ∧ (x = none ↔ y = none) := by
 unfold chkO at hc
 split at hc
 · simp only [optI, Option.some.injEq] at ho; exact ⟨.inl ⟨rfl, ho.symm⟩, by simp⟩
 · rename_i x y
   obtain ⟨hy, he⟩ := chkA_sound hc ha
   simp only [optI] at ho
   split at ho
   · rename_i i hi
     split at ho
     · rename_i h0
       simp only [Option.some.injEq] at ho
       obtain ⟨kk, hi⟩ := asI_sc hi
       obtain ⟨e1, _⟩ := h.argSc hy hi
       exact ⟨.inr ⟨kk, i, by simp [he, e1], h0, ho⟩, by simp⟩
     · cases ho
   · cases ho
 · cases hc
theorem run_bound {kk : IntKind} {i : Int} {y n : Nat} {code : BoundsCode} (h0 : 0 ≤ i) (hn : i.toNat = n) (hy : n ≤ y) (w : World) : (Instr.sliceBound (.int kk i) y code).run P w = .ok n w := by
 have : i ≤ y := by omega
 simp [Instr.sliceBound, asIntOf, h0, this, hn]
theorem run_cut {t e : TypeId} {k len cap l h m : Nat} (hu : P.underlying t = some (.slice e)) (hk : szOf P e = some k) {lo hi mx : Option Value} (hl : Bd lo 0 l) (hh : Bd hi len h) (hm : Bd mx cap m) (hmh : mx ≠ none → hi ≠ none) (h1 : l ≤ h) (h2 : h ≤ m) (h3 : m ≤ cap) (ad : Option Addr) (w : World) :
 (Instr.sliceAt t (.slice ad len cap) lo hi mx).run P w = .ok (.slice (if m = l then ad else ad.map (·.add (l * k))) (h - l) (m - l)) w := by
 have hb : (Instr.sliceBounds true len cap lo hi mx).run P w = .ok (l, h, m) w := by
  rcases hm with ⟨rfl, rfl⟩ | ⟨km, im, rfl, hm0, hmn⟩ <;> rcases hh with ⟨rfl, rfl⟩ | ⟨kh, ih, rfl, hh0, hhn⟩ <;> rcases hl with ⟨rfl, rfl⟩ | ⟨kl, il, rfl, hl0, hln⟩ <;>
   first
    | (simp [Instr.sliceBounds, run_bound hm0 hmn h3, run_bound hh0 hhn h2, run_bound hl0 hln h1]; done)
    | (simp [Instr.sliceBounds, run_bound hm0 hmn h3, run_bound hh0 hhn h2]; done)
    | (simp [Instr.sliceBounds, run_bound hh0 hhn h2, run_bound hl0 hln h1]; done)
    | (simp [Instr.sliceBounds, run_bound hh0 hhn h2]; done)
    | (simp [Instr.sliceBounds, run_bound hl0 hln h1]; done)
    | (simp [Instr.sliceBounds]; done)
    | exact absurd rfl (hmh (by simp))
 have : (Instr.sliceAt t (.slice ad len cap) lo hi mx) = (do match ← underlying t with
  | .array n elem =>
   let a ← Instr.sureAddr (.slice ad len cap)
   let (l, h, m) ← Instr.sliceBounds false n n lo hi mx
   let size ← sizeOf elem
   pure (.slice (some (if m = l then a else a.add (l * size))) (h - l) (m - l))
  | _ => Instr.slice t (.slice ad len cap) lo hi mx) := rfl
 rw [this]
 simp only [Sem.run_bind, run_underlying hu, Result.andThen_ok]
 have h4 : (Instr.slice t (.slice ad len cap) lo hi mx) = (do
  match ← underlying t, (Value.slice ad len cap) with
  | .string, .string s =>
   if mx.isSome then stuck "Slice: full slice of a string"
   let (l, h, _) ← Instr.sliceBounds false s.size s.size lo hi none
   pure (.string (s.extract l h))
  | .slice elem, .slice a len cap =>
   let (l, h, m) ← Instr.sliceBounds true len cap lo hi mx
   let size ← sizeOf elem
   pure (.slice (if m = l then a else a.map (·.add (l * size))) (h - l) (m - l))
  | .pointer arr, x =>
   let a ← asAddr x
   let .array n elem ← underlying arr | stuck "Slice: array type expected"
   let (l, h, m) ← Instr.sliceBounds false n n lo hi mx
   let size ← sizeOf elem
   pure (.slice (some (if m = l then a else a.add (l * size))) (h - l) (m - l))
  | _, _ => stuck "Slice: string, slice or pointer to array expected") := rfl
 rw [h4]
 simp only [Sem.run_bind, run_underlying hu, Result.andThen_ok, hb, run_sizeOf hk, Sem.run_pure]
theorem Fz.cut {e : Bool} {k : Nat} {rows : List (List AV)} {ad : Option Addr} {n cap l h m : Nat} {x : Bool} (hf : Fz w S (.sl e k rows) (.slice ad n cap)) (h1 : l ≤ h) (h2 : h ≤ rows.length) (h3 : h ≤ m) (hx : x = true → m = h) :
 Fz w S (.sl x k ((rows.drop l).take (h - l))) (.slice (if m = l then ad else ad.map (·.add (l * k))) (h - l) (m - l)) := by
 have hlen : ((rows.drop l).take (h - l)).length = h - l := by simp; omega
 by_cases heq : h = l
 · subst heq
   simp only [Nat.sub_self, List.take_zero]
   exact .nil x k _ _ (fun hh => by have := hx hh; omega)
 · have hm : m ≠ l := by omega
   cases hf with
   | nil => simp at h2; omega
   | sl _ _ _ b off c vs hxe hlc hS hk hc hr =>
    simp only [hm, if_false, Option.map_some, Addr.add_lit]
    have hget : ∀ i row, ((rows.drop l).take (h - l))[i]? = some row → rows[l + i]? = some row := by
     intro i row hi
     rw [List.getElem?_take] at hi
     split at hi
     · simpa using hi
     · cases hi
    have key : Fz w S (.sl x k ((rows.drop l).take (h - l))) (.slice (some ⟨b, off + l * k, none⟩) ((rows.drop l).take (h - l)).length (m - l)) := by
     refine .sl x k _ b (off + l * k) (m - l) (fun i j => vs (l + i) j) (fun hh => by have := hx hh; rw [hlen]; omega) (by rw [hlen]; omega) hS (fun row hrow => hk row (List.mem_of_mem_drop (List.mem_of_mem_take hrow))) ?_ ?_
     · intro i j row a hi hj
       have := hc (l + i) j row a (hget i row hi) hj
       rw [show off + l * k + (i * k + j) = off + ((l + i) * k + j) from by rw [Nat.add_mul]; omega]
       exact this
     · intro i j row a hi hj
       exact hr (l + i) j row a (hget i row hi) hj
    rw [hlen] at key
    exact key
theorem cutRows_spec {rows rs : List (List AV)} {l h : Nat} (hc : cutRows rows l h = some rs) : l ≤ h ∧ h ≤ rows.length ∧ rs = (rows.drop l).take (h - l) := by
 unfold cutRows at hc
 split at hc
 · rename_i hh; exact ⟨hh.1, hh.2, (Option.some.inj hc).symm⟩
 · cases hc
theorem St.bdM (h : St G w S δ Fr) {a : Act} (ha : Rd δ a) {x : Option Operand} {y : Option Ar} (hc : chkO x y = true) {hh m cap : Nat} (hm : mxI (fun s => (δ s).er) y hh = some m) (hmh : m = hh) (hcap : hh ≤ cap) :
 ∃ m', Bd (x.map a.eval) cap m' ∧ hh ≤ m' ∧ m' ≤ cap ∧ (y.isSome = true → m' = hh) := by
 cases y with
 | none =>
  cases x with
  | none => exact ⟨cap, .inl ⟨rfl, rfl⟩, hcap, Nat.le_refl _, by simp⟩
  | some x => simp [chkO] at hc
 | some y =>
  obtain ⟨h1, _⟩ := h.bd ha hc (dflt := 0) (by simpa only [mxI] using hm)
  subst hmh
  cases x with
  | none => simp [chkO] at hc
  | some x =>
   rcases h1 with ⟨h1, _⟩ | ⟨kk, i, h1, h2, h3⟩
   · simp at h1
   · exact ⟨m, .inr ⟨kk, i, h1, h2, h3⟩, Nat.le_refl _, hcap, fun _ => rfl⟩
theorem runs_slc (h : St G w S δ Fr) {a : Act} (ha : Rd δ a) {o : Oper} {t e : TypeId} {x : Operand} {lo hi mx : Option Operand} {k : Nat} {y : Ar} {lo' hi' mx' : Option Ar} {d : Dst} (hd : DstOK G a o (some d)) (ho : o.op = .slice t x lo hi mx)
 (hu : P.underlying t = some (.slice e)) (hk : szOf P e = some k) (hc : chkA x y = true) (hc1 : chkO lo lo' = true) (hc2 : chkO hi hi' = true) (hc3 : chkO mx mx' = true) (hmh : mx = none ∨ hi ≠ none) {σ' : Sg}
 (he : eff G (.slc k true y lo' hi' mx') (some d) (fun s => (δ s).er) = some σ') : Runs P G w S Fr a o σ' := by
 obtain ⟨hy, hev⟩ := chkA_sound hc ha
 have hmh' : mx.map a.eval ≠ none → hi.map a.eval ≠ none := by
  intro h1 h2
  rcases hmh with h3 | h3
  · simp [h3] at h1
  · simp at h2; exact h3 h2
 simp only [eff] at he
 split at he
 · -- frozen already
   rename_i ee k' rows pl hh
   split at he
   · rename_i l hi0 hlo hhi
     split at he
     · rename_i rs m hcut hm
       split at he
       · rename_i hcond
         obtain ⟨rfl, hmeq⟩ := hcond
         obtain ⟨h1, h2, rfl⟩ := cutRows_spec hcut
         have hfz := (h.hdD hy hh).2 _ _ _ rfl (h.hdSl hy hh)
         obtain ⟨ad, cap, hav⟩ := fz_slice hfz
         rw [hav] at hfz hev
         have hlc : rows.length ≤ cap := by
          cases hfz with
          | nil => simp
          | sl _ _ _ b off c vs hxe hlc => exact hlc
         obtain ⟨b1, _⟩ := h.bd ha hc1 hlo
         obtain ⟨b2, _⟩ := h.bd ha hc2 hhi
         obtain ⟨m', b3, g1, g2, g3⟩ := h.bdM ha hc3 hm hmeq (cap := cap) (by omega)
         have hrun := run_cut (P := P) hu hk b1 b2 b3 hmh' h1 g1 g2 ad w
         have hres := hfz.cut (m := m') (x := mx'.isSome) h1 h2 g1 g3
         have hdd : (DV.lf (.sl mx'.isSome k' ((rows.drop l).take (hi0 - l))) (.slice (if m' = l then ad else ad.map (·.add (l * k'))) (hi0 - l) (m' - l))).er = .sl mx'.isSome k' ((rows.drop l).take (hi0 - l)) := by simp
         refine runs_of (D := .lf (.sl mx'.isSome k' ((rows.drop l).take (hi0 - l))) (.slice (if m' = l then ad else ad.map (·.add (l * k'))) (hi0 - l) (m' - l))) (Ff := fun _ => False) h ha hd ?_ (fun _ _ => rfl) (fun _ _ _ => rfl) (fun _ h => h) (fun s x hx => (h.ok s).notS x hx)
          (.lf _ _ _ hres (fun _ h => h)) (fun _ _ _ h => h) (.lf _ _ trivial) (by rw [hdd]; exact he) (Nx.less fun x hx => hx.elim id False.elim)
         simp only [execOp, ho, hev, Sem.run_bind, hrun, Result.andThen_ok, Sem.run_pure, ann_lf]
       · cases he
     · cases he
   · cases he
 · -- frozen now
   rename_i k' rows r p hh
   split at he
   · rename_i l hi0 hlo hhi
     split at he
     · rename_i rs m hcut hm
       split at he
       · rename_i hcond
         obtain ⟨rfl, hmeq⟩ := hcond
         obtain ⟨h1, h2, rfl⟩ := cutRows_spec hcut
         simp only [if_true] at he
         split at he
         · rename_i fr τ hfz
           obtain ⟨δ1, F1, Fo, v, bx, kk, rowsD, hst, her, hann, hsub, hf, hfe, hdis, hown, _⟩ := h.fzAt hfz
           subst her
           obtain ⟨rowsD', F, hm', hok, hpl⟩ := (h.hdD hy hh).1 _ _ _ rfl
           have hsub' := hpl r p rfl
           rw [hsub] at hsub'
           simp only [Option.some.injEq, DV.own.injEq] at hsub'
           obtain ⟨rfl, rfl, rfl, rfl⟩ := hsub'
           have hfe' : fr = .sl false kk (rows.map (·.map frz)) := by rw [hfe]; simp only [er_own, frz_vec, hm']
           rw [hfe'] at hf
           obtain ⟨ad, cap, hav⟩ := fz_slice hf
           rw [hav] at hf hev
           have hrl : (rows.map (·.map frz)).length = rows.length := by simp
           have hlc : rows.length ≤ cap := by
            rw [← hrl]
            generalize rows.map (·.map frz) = rr at *
            cases hf with
            | nil => simp
            | sl _ _ _ b off c vs hxe hlc => exact hlc
           obtain ⟨b1, _⟩ := h.bd ha hc1 hlo
           obtain ⟨b2, _⟩ := h.bd ha hc2 hhi
           rw [hrl] at hev
           obtain ⟨m', b3, g1, g2, g3⟩ := h.bdM ha hc3 hm hmeq (cap := cap) (by omega)
           have hrun := run_cut (P := P) hu hk b1 b2 b3 hmh' h1 g1 g2 ad w
           have hres := hf.cut (m := m') (x := mx'.isSome) h1 (by rw [hrl]; exact h2) g1 g3
           rw [← List.map_drop, ← List.map_take] at hres
           have hdd : (DV.lf (.sl mx'.isSome kk (((rows.drop l).take (hi0 - l)).map (·.map frz))) (.slice (if m' = l then ad else ad.map (·.add (l * kk))) (hi0 - l) (m' - l))).er = .sl mx'.isSome kk (((rows.drop l).take (hi0 - l)).map (·.map frz)) := by simp
           refine runs_of (S := S) (S' := fun x => S x ∨ Fo x) (D := .lf (.sl mx'.isSome kk (((rows.drop l).take (hi0 - l)).map (·.map frz))) (.slice (if m' = l then ad else ad.map (·.add (l * kk))) (hi0 - l) (m' - l))) (Ff := fun _ => False) hst (fun s => (ha s).trans (hann s).symm) hd ?_ (fun _ _ => rfl) (fun _ _ _ => rfl) (fun _ h => h) (fun s x hx => (hst.ok s).notS x hx)
            (.lf _ _ _ hres (fun _ h => h)) (fun _ _ _ h => h) (.lf _ _ trivial) (by rw [hdd]; exact he) ?_
           · simp only [execOp, ho, hev, Sem.run_bind, hrun, Result.andThen_ok, Sem.run_pure, ann_lf]
           · refine Nx.frz (fun x hx => hown x (hx.imp (fun h => h.elim id False.elim) id)) fun x hx => ?_
             obtain ⟨t, ht⟩ := hown x (.inr hx)
             exact (h.ok t).lt x ht
         · cases he
       · cases he
     · cases he
   · cases he
 · cases he
end Go.Abs
namespace Go.Abs
variable {w w' : World} {S S' : Nat → Prop} {G : Gi} {δ : Nat → DV} {Fr : Nat → Nat → Prop} {P : Program}
theorem putD_sub {t t' new : DV} (p : List Step) {v : Value} {bx : Bool} {k i j : Nat} {rows : List (List DV)} {row : List DV} {old : DV} (hs : subD t p = some (.own v bx k rows)) (h1 : rows[i]? = some row) (h2 : row[j]? = some old) (hp : putD t (p ++ [(i, j, k)]) new = some t') :
 subD t' p = some (.own v bx k (rows.set i (row.set j new))) := by
 induction p generalizing t t' with
 | nil =>
  simp only [subD, Option.some.injEq] at hs
  subst hs
  simp only [List.nil_append, putD, h1, h2, Option.some.injEq] at hp
  subst hp
  rfl
 | cons s p ih =>
  obtain ⟨i0, j0, k0⟩ := s
  cases t with
  | lf a v => simp [subD] at hs
  | own hh b k1 rows1 =>
   simp only [subD] at hs
   simp only [List.cons_append, putD] at hp
   cases hi : rows1[i0]? with
   | none => simp [hi] at hs
   | some row1 =>
    simp only [hi] at hs hp
    cases hj : row1[j0]? with
    | none => simp [hj] at hs
    | some c =>
     simp only [hj] at hs hp
     cases hc : putD c (p ++ [(i, j, k)]) new with
     | none => simp [hc] at hp
     | some c' =>
      simp only [hc, Option.some.injEq] at hp
      subst hp
      simp only [subD, List.getElem?_set_self (List.getElem?_eq_some_iff.1 hi).1, List.getElem?_set_self (List.getElem?_eq_some_iff.1 hj).1]
      exact ih hs hc
  | agg cs =>
   simp only [subD] at hs
   simp only [List.cons_append, putD] at hp
   cases hj : cs[j0]? with
   | none => simp [hj] at hs
   | some c =>
    simp only [hj] at hs hp
    cases hc : putD c (p ++ [(i, j, k)]) new with
    | none => simp [hc] at hp
    | some c' =>
     simp only [hc, Option.some.injEq] at hp
     subst hp
     simp only [subD, List.getElem?_set_self (List.getElem?_eq_some_iff.1 hj).1]
     exact ih hs hc
  | tup cs =>
   simp only [subD] at hs
   simp only [List.cons_append, putD] at hp
   cases hj : cs[j0]? with
   | none => simp [hj] at hs
   | some c =>
    simp only [hj] at hs hp
    cases hc : putD c (p ++ [(i, j, k)]) new with
    | none => simp [hc] at hp
    | some c' =>
     simp only [hc, Option.some.injEq] at hp
     subst hp
     simp only [subD, List.getElem?_set_self (List.getElem?_eq_some_iff.1 hj).1]
     exact ih hs hc
theorem run_store_cell {b off : Nat} {v u : Value} {arr : Array Value} {E : TypeId} (hb : w.heap[b]? = some (.cells arr E (0, 0))) (hu : arr[off]? = some u) (hp : plainV v = true) : (store ⟨b, off, none⟩ v).run P w = .ok () (w.setCell ⟨b, off, none⟩ v) := by
 have hc : w.cell? ⟨b, off, none⟩ = some u := by simp [World.cell?, hb, hu]
 have hf : w.frozen? ⟨b, off, none⟩ = false := by simp [World.frozen?, hb]
 cases v <;> first
  | simp [plainV] at hp; done
  | simp [store, Sem.run, hc, hf]
theorem node_blk {v : Value} {bx : Bool} {k : Nat} {rows : List (List DV)} {F : Nat → Prop} {b : Nat} (h : Ok w S (.own v bx k rows) F) (hb : hblk v = some b) : F b ∧ ∃ arr E, w.heap[b]? = some (.cells arr E (0, 0)) ∧ ∀ (i j : Nat) row d, rows[i]? = some row → row[j]? = some d → arr[i * k + j]? = some d.ann := by
 cases h with
 | nil => simp [hblk] at hb
 | own _ _ _ b' c arr E Fs _ hbb hk hcap hSb hv hr hd hval hbF hF =>
  simp only [hblk_hdr, Option.some.injEq] at hb
  subst hb
  exact ⟨(hF b').2 (.inl rfl), arr, E, hbb, hv⟩
theorem cell_rin {L : List Nat} {a : AV} (h : cellA a = true) : rin L a = true := by
 cases a <;> first | (simp; done) | (simp [cellA] at h; done)
theorem stC_sound (ds : List DV) : ∀ {w : World} {t : DV} {F Fd : Nat → Prop} {p : List Step} {v : Value} {bx : Bool} {k i j b : Nat} {rows : List (List DV)} {row : List DV} {t' : AV}, Ok w S t F → subD t p = some (.own v bx k rows) → hblk v = some b → rows[i]? = some row → j + ds.length ≤ row.length →
 OkL w S ds Fd → (∀ x, Fd x → ¬ F x) → (ds.map DV.er).all cellA = true → stC p i k j (ds.map DV.er) t.er = some t' → ∀ (m off : Nat), off + m = i * k + j →
 ∃ (w' : World) (td : DV) (F' : Nat → Prop), (storeCells ⟨b, off, none⟩ (ds.map DV.ann) m).run P w = .ok () w' ∧ Ok w' S td F' ∧ td.er = t' ∧ td.ann = t.ann ∧ (∀ x, F' x → F x ∨ Fd x) ∧ (∀ x, x ≠ b → w'.heap[x]? = w.heap[x]?) ∧ F b ∧
  w'.os = w.os ∧ w'.tape = w.tape ∧ w'.output = w.output ∧ w'.heap.size = w.heap.size ∧ (∀ δ, AlOK δ t → AlOK δ td) ∧ (∀ L, rin L t.er = true → rin L td.er = true) ∧
  ((((row.map DV.er).drop j).take ds.length).all leafy = true → ∀ q v bx k rows, subD t q = some (.own v bx k rows) → ∃ rows', subD td q = some (.own v bx k rows')) := by
 induction ds with
 | nil =>
  intro w t F Fd p v bx k i j b rows row t' h hs hb hi hj hok hdis hcell hst m off hm
  simp only [List.map_nil, stC, Option.some.injEq] at hst
  obtain ⟨F1, h1, h2⟩ := h.subD hs
  exact ⟨w, t, F, by simp [storeCells], h, hst, rfl, fun x hx => .inl hx, fun _ _ => rfl, h2 b (node_blk h1 hb).1, rfl, rfl, rfl, rfl, fun _ h => h, fun _ h => h, fun _ q v bx k rows hq => ⟨rows, hq⟩⟩
 | cons d ds ih =>
  intro w t F Fd p v bx k i j b rows row t' h hs hb hi hj hok hdis hcell hst m off hm
  obtain ⟨Fa, Fb, hd, hds, hab, hF⟩ := hok
  simp only [List.length_cons] at hj
  have hjr : j < row.length := by omega
  have hold : row[j]? = some row[j] := List.getElem?_eq_getElem hjr
  obtain ⟨Fn, hn1, hn2⟩ := h.subD hs
  obtain ⟨hFb, arr, E, hbb, harr⟩ := node_blk hn1 hb
  have hFb' := hn2 b hFb
  have hSb : ¬ S b := h.notS b hFb'
  have hne : ∀ x, Fd x → x ≠ b := by rintro x hx rfl; exact hdis x hx hFb'
  have hdmono : Ok (w.setCell ⟨b, i * k + j, none⟩ d.ann) S d Fa := by
   refine hd.mono (fun x hx => setCell_other _ _ _ _ _ ?_) (fun x hx => setCell_other _ _ _ _ _ (hne x ((hF x).2 (.inl hx)))) (fun _ h => h) hd.notS
   rintro rfl; exact hSb hx
  obtain ⟨t1, F1, hput, hok1, hsub1, hann1, _⟩ := h.store p hs hi hold hb hdmono (fun x hx => hdis x ((hF x).2 (.inl hx)))
  simp only [List.map_cons, stC] at hst
  split at hst
  · rename_i t'' hpt
    have hte : t1.er = t'' := by
     obtain ⟨t2, g1, g2⟩ := putD_of_put d h.lfy hpt
     rw [hput] at g1
     obtain rfl := Option.some.inj g1
     exact g2
    subst hte
    have hs1 := putD_sub p hs hi hold hput
    have hi1 : (rows.set i (row.set j d))[i]? = some (row.set j d) := List.getElem?_set_self (List.getElem?_eq_some_iff.1 hi).1
    simp only [List.map_cons, List.all_cons, Bool.and_eq_true] at hcell
    have hdsmono : OkL (w.setCell ⟨b, i * k + j, none⟩ d.ann) S ds Fb := by
     refine hds.mono (fun x hx => setCell_other _ _ _ _ _ ?_) (fun x hx => setCell_other _ _ _ _ _ (hne x ((hF x).2 (.inr hx)))) (fun _ h => h) (Ok_agg_iff.2 hds).notS
     rintro rfl; exact hSb hx
    obtain ⟨w', td, F', hrun, hok', her', hann', hsub', hoth', _, g1, g2, g3, g4, g5, g6, hheads⟩ := ih (off := off) (m := m + 1) (j := j + 1) hok1 hs1 hb hi1 (by simp; omega) hdsmono (by
     intro x hx hx1
     rcases hsub1 x hx1 with h1 | h1
     · exact hdis x ((hF x).2 (.inr hx)) h1
     · exact hab x h1 hx) hcell.2 hst (by omega)
    refine ⟨w', td, F', ?_, hok', her', hann'.trans hann1, ?_, ?_, hFb', g1, g2, g3, by rw [g4]; simp, ?_, ?_, ?_⟩
    · have hst1 := run_store_cell (P := P) (w := w) (off := i * k + j) (v := d.ann) hbb (harr i j row _ hi hold) (plain_of_cell hd hcell.1)
      simp only [List.map_cons, storeCells, Sem.run_bind, Addr.add_lit, hm, hst1, Result.andThen_ok, hrun]
    · intro x hx
      rcases hsub' x hx with h1 | h1
      · rcases hsub1 x h1 with h2 | h2
        · exact .inl h2
        · exact .inr ((hF x).2 (.inl h2))
      · exact .inr ((hF x).2 (.inr h1))
    · intro x hx
      rw [hoth' x hx, setCell_other _ _ _ _ _ hx]
    · intro δ hal
      refine g5 δ (putD_al _ hput hal ?_)
      exact AlOK_cells (ds := [d]) (by simpa using hcell.1) d (by simp)
    · intro L hL
      refine g6 L (putD_rin _ hput hL ?_)
      exact cell_rin hcell.1
    · intro hall q v' bx' k' rows' hq
      have hdrop : (row.map DV.er).drop j = (row[j]).er :: (row.map DV.er).drop (j + 1) := by
       rw [List.drop_eq_getElem_cons (by simpa using hjr)]; simp
      rw [hdrop] at hall
      simp only [List.length_cons, List.take_succ_cons, List.all_cons, Bool.and_eq_true] at hall
      have hleaf : ∃ a v, row[j] = .lf a v := by
       have hl := (h.lfy.subD hs)
       cases hl with
       | own _ _ _ _ hr =>
        have := hr i j row _ hi hold
        have h0 := hall.1
        cases hd' : row[j] with
        | lf a v => exact ⟨a, v, rfl⟩
        | own => rw [hd'] at h0; simp [leafy] at h0
        | agg => rw [hd'] at h0; simp [leafy] at h0
        | tup => rw [hd'] at h0; simp [leafy] at h0
      obtain ⟨a0, v0, hlf⟩ := hleaf
      have holdsub : subD t (p ++ [(i, j, k)]) = some (.lf a0 v0) := by rw [subD_append, hs]; simp [subD, hi, hold, hlf]
      obtain ⟨rows1, hq1⟩ := subD_putD_own _ hput holdsub (by simp) (by simp) (by simp) q v' bx' k' rows' hq
      refine hheads ?_ q v' bx' k' rows1 hq1
      rw [List.map_set, List.drop_set_of_lt (by omega)]
      exact hall.2
  · cases hst
theorem runs_st (h : St G w S δ Fr) {a : Act} (ha : Rd δ a) {o : Oper} {t : TypeId} {x u : Operand} {n : Nat} {y z : Ar} (hd : DstOK G a o none) (ho : o.op = .store t x u) (hn : szOf P t = some n) (hc : chkA x y = true) (hc2 : chkA u z = true) {σ' : Sg}
 (he : eff G (.st n y z) none (fun s => (δ s).er) = some σ') : Runs P G w S Fr a o σ' := by
 obtain ⟨hy, hev⟩ := chkA_sound hc ha
 obtain ⟨hz, hev2⟩ := chkA_sound hc2 ha
 simp only [eff] at he
 split at he
 · rename_i v τ ht
   obtain ⟨δ1, F1, D, Ff, hfl, her, hDe, hDa⟩ := h.tk hz ht
   subst her
   subst hDe
   split at he
   · rename_i r p i j k hadr
     cases y with
     | c c => simp [adrOf] at hadr
     | t s =>
      obtain ⟨vh, bx, rowsD, b, Fx, hsub, hb, hp, hok, _⟩ := hfl.st.adrOf hadr
      split at he
      · rename_i bx' k' rows hn'
        obtain ⟨D', hD', hDe'⟩ := subD_of_sub (hfl.st.ok r).lfy hn'
        rw [hsub] at hD'
        obtain rfl := Option.some.inj hD'
        simp only [er_own, AV.own.injEq] at hDe'
        obtain ⟨rfl, rfl, rfl⟩ := hDe'
        split at he
        · rename_i row hrow
          rw [List.getElem?_map, Option.map_eq_some_iff] at hrow
          obtain ⟨rowD, hrD, rfl⟩ := hrow
          split at he
          · rename_i hcond
            obtain ⟨hlen, hcell, hjn⟩ := hcond
            split at he
            · rename_i t' hst
              have hm := cellsD_er D hfl.ok.lfy
              have hl : (cellsD D).length = n := by rw [← hlen, ← hm]; simp
              have hcs := cellsD_ann hfl.ok hcell
              rw [← hm] at hst hcell
              obtain ⟨w', td, F', hrun, hok', her', hann', hsub', hoth', hFb, g1, g2, g3, g4, g5, g6, hheads⟩ := stC_sound (P := P) (cellsD D) (hfl.st.ok r) hsub hb hrD (by rw [hl]; simpa using hjn) (cellsD_ok hfl.ok) (fun x hx hx' => hfl.dis r x hx' hx) hcell hst 0 (i * k + j) rfl
              have hS : ∀ x, S x → w'.heap[x]? = w.heap[x]? := fun x hx => hoth' x (by rintro rfl; exact (hfl.st.ok r).notS _ hFb hx)
              have hF : ∀ s, s ≠ r → ∀ x, F1 s x → w'.heap[x]? = w.heap[x]? := fun s hs x hx => hoth' x (by rintro rfl; exact hs (hfl.st.dis s r _ hx hFb))
              have hdis : ∀ s, s ≠ r → ∀ x, F' x → ¬ F1 s x := by
               intro s hs x hx hx'
               rcases hsub' x hx with h1 | h1
               · exact hs (hfl.st.dis s r x hx' h1)
               · exact hfl.dis s x hx' h1
              have hexec : (execOp a.eval o).run P w = .ok .skip w' := by
               have hsz : ¬ ((argv δ z).cells.size ≠ n) := by rw [← hDa, hcs]; simp [hl]
               have hpt : argv δ (.t s) = .pointer (some ⟨b, i * k + j, none⟩) := by simp only [argv]; rw [← hfl.ann s]; exact hp
               have hcl : (argv δ z).cells.toList = (cellsD D).map DV.ann := by rw [← hDa, hcs]
               simp only [execOp, ho, hev, hev2, hpt, Instr.storeAt, Instr.sureAddr, storeVar, Sem.run_bind, Sem.run_pure, Result.andThen_ok, run_sizeOf hn, Sem.run_ite, hsz, if_false, hcl, hrun]
              have hrd : ∀ (δ' : Nat → DV), (∀ s, (δ' s).ann = (δ1 s).ann) → Rd δ' (a.put o.dst undef) := by
               intro δ' hδ s
               have h0 : o.dst = none := hd
               rw [h0]
               simp only [Act.put]
               rw [hδ, hfl.ann]; exact ha s
              have hnx : ∀ F2 : Nat → Nat → Prop, (∀ x, Owned F2 x → Owned F1 x ∨ Ff x) → Nx w S (Owned Fr) w' S (Owned F2) := by
               intro F2 hF2
               refine ⟨g1, g2, g3, by omega, ?_, fun _ h => h, fun _ h => .inl h, fun hl b hb => by rw [g4]; exact hl b hb, fun x hx => .inl (hfl.own x (hF2 x hx))⟩
               intro x _ hU
               refine hoth' x ?_
               rintro rfl
               exact hU (hfl.own _ (.inl ⟨r, hFb⟩))
              have hF2 : ∀ x, Owned (upd F1 r F') x → Owned F1 x ∨ Ff x := by
               rintro x ⟨s, hx⟩
               by_cases e : s = r
               · subst e; rw [upd_same] at hx; exact (hsub' x hx).imp (fun h => ⟨s, h⟩) id
               · rw [upd_ne _ _ e] at hx; exact .inl ⟨s, hx⟩
              have halt : AlOK δ1 td := g5 δ1 (hfl.st.al r)
              have hrt : rin (G.rtOf r) td.er = true := g6 _ (hfl.st.rt r)
              split at he
              · rename_i hall
                simp only [Option.some.injEq] at he
                subst he
                refine ⟨.skip, undef, w', S, upd δ1 r td, upd F1 r F', hexec, .inr ⟨rfl, rfl⟩, hrd _ ?_, ?_, hfl.st.poke r td F' hS hF hok' hdis hrt halt (hheads (by rw [hl]; exact hall)) hann', hnx _ hF2⟩
                · intro s'
                  by_cases e : s' = r
                  · subst e; rw [upd_same, hann']
                  · rw [upd_ne _ _ e]
                · funext s'
                  by_cases e : s' = r
                  · subst e; simp only [upd_same, her']
                  · simp only [upd_ne _ _ e]
              · simp only [Option.some.injEq] at he
                subst he
                refine ⟨.skip, undef, w', S, upd (killδ G r δ1) r td, upd F1 r F', hexec, .inr ⟨rfl, rfl⟩, hrd _ ?_, ?_, hfl.st.set r td F' hS hF (fun _ h => h) (fun s _ x hx => (hfl.st.ok s).notS x hx) hok' hdis hrt halt, hnx _ hF2⟩
                · intro s'
                  rw [ann_upd_kill hfl.st]
                  split
                  · rename_i e; rw [e, hann']
                  · rfl
                · rw [er_upd_kill hfl.st, her']
            · cases he
          · cases he
        · cases he
      · cases he
   · cases he
 · cases he
end Go.Abs
namespace Go.Abs
variable {w w' : World} {S S' : Nat → Prop} {G : Gi} {δ : Nat → DV} {Fr : Nat → Nat → Prop} {P : Program}
def Reads (w : World) (v : Value) (n : Nat) (vs : List Value) : Prop := (∃ a c, v = .slice a 0 c ∧ n = 0 ∧ vs = []) ∨ ∃ b off c, v = .slice (some ⟨b, off, none⟩) n c ∧ ∀ (j : Nat) u, vs[j]? = some u → w.cell? ⟨b, off + j, none⟩ = some u
theorem run_first {size n : Nat} {v : Value} {vs : List Value} (h : Reads w v n vs) (hl : vs.length = n * size) : (Builtin.firstCells size n v).run P w = .ok vs.toArray w := by
 rcases h with ⟨a, c, rfl, rfl, rfl⟩ | ⟨b, off, c, rfl, hc⟩
 · cases a <;> simp [Builtin.firstCells, loadCells, loadCellsFrom]
 · exact run_firstCells_some (P := P) w size n ⟨b, off, none⟩ n c vs hl (fun j u hu => by rw [Addr.add_lit]; exact hc j u hu)
theorem Reads.drew {v : Value} {n : Nat} {vs : List Value} (h : Reads w v n vs) : Reads w.drew v n vs := h
theorem Reads.len {v : Value} {n : Nat} {vs : List Value} (h : Reads w v n vs) : ∃ ad c, v = .slice ad n c := by
 rcases h with ⟨a, c, rfl, rfl, rfl⟩ | ⟨b, off, c, rfl, hc⟩
 · exact ⟨a, c, rfl⟩
 · exact ⟨_, c, rfl⟩
theorem run_app_grow {t ty e : TypeId} {i : TypeInfo} {z : Value} (ht : P.underlying t = some (.slice e)) (hi : P.info? e = some i) (hz : i.zero = some z) {base : Option Addr} {n sCap m : Nat} {v : Value} {olds news : List Value}
 (hx : Reads w (.slice base n sCap) n olds) (ho : olds.length = n * i.size) (hy : Reads w v m news) (hn : news.length = m * i.size) (hg : sCap < n + m) (hfit : (n + m) * i.bytes ≤ 70368744177664) (h63 : n + m ≤ 9223372036854775807) :
 (Builtin.append_ #[t, t] ty #[.slice base n sCap, v]).run P w = .ok (.slice (some ⟨w.heap.size, 0, none⟩) (n + m) (grownCap w (n + m) sCap e)) (w.drew.alloc (.cells ((olds ++ news).toArray ++ Builtin.zeroCells z.cells (grownCap w (n + m) sCap e - (n + m))) e)) := by
 obtain ⟨ad, c, rfl⟩ := hy.len
 have hnn : ¬ (n + m ≤ sCap) := by omega
 have h63' : ¬ (9223372036854775807 < ((n : Int) + (m : Int))) := by omega
 have h48' : ¬ (281474976710656 < Builtin.nextslicecap (n + m) sCap * i.bytes) := by have := growslice_fits (bytes := i.bytes) hg (by omega); omega
 have hf := run_first (P := P) hy.drew hn
 have hfo := run_first (P := P) hx.drew ho
 simp [Builtin.append_, run_underlying ht, sizeOf, typeInfo, zeroValue, hi, hz, Builtin.lenOf, hnn, h63', h48', Question.forced, hf, hfo, newRow, grownCap]
 congr 2
 apply Array.ext'
 simp [List.append_assoc]
theorem run_app_room {t ty e E : TypeId} {i : TypeInfo} (ht : P.underlying t = some (.slice e)) (hi : P.info? e = some i) {g n sCap m : Nat} {v : Value} {news : List Value} {cur : Array Value} (hgb : w.heap[g]? = some (.cells cur E (0, 0)))
 (hy : Reads w v m news) (hn : news.length = m * i.size) (hp : ∀ u ∈ news, u.oneCell' = true) (hroom : n + m ≤ sCap) (hfit : n * i.size + news.length ≤ cur.size) :
 (Builtin.append_ #[t, t] ty #[.slice (some ⟨g, 0, none⟩) n sCap, v]).run P w = .ok (.slice (some ⟨g, 0, none⟩) (n + m) sCap) (w.setRow g (cur.toList.take (n * i.size) ++ news ++ cur.toList.drop (n * i.size + news.length)).toArray) := by
 obtain ⟨ad, c, rfl⟩ := hy.len
 have hf := run_first (P := P) hy hn
 have hst := run_storeCells_at P g (n * i.size) E news 0 cur w hgb (by simpa using hfit) hp
 simp only [Nat.add_zero] at hst
 simp [Builtin.append_, run_underlying ht, sizeOf, typeInfo, hi, Builtin.lenOf, hroom, hf, Addr.add_lit, hst]
theorem plain_one {v : Value} (h : plainV v = true) : v.oneCell' = true := by cases v <;> simp_all [plainV, Value.oneCell']
theorem frozenRows {x : Bool} {k : Nat} {rows : List (List AV)} {v : Value} (h : Fz w S (.sl x k rows) v) :
    ∃ ds : List (List DV), ds.map (·.map DV.er) = rows.map (·.map plainC) ∧ (∀ r ∈ ds, r.length = k) ∧ OkL w S ds.flatten (fun _ => False) ∧ Reads w v ds.length (ds.flatten.map DV.ann) ∧ ds.length = rows.length := by
  cases h with
  | nil x k a c hx =>
    exact ⟨[], by simp, by simp, fun _ h => h, .inl ⟨a, c, rfl, rfl, rfl⟩, rfl⟩
  | sl x k rows b off c vs hx hlc hS hk hc hr =>
    obtain ⟨ds, hl, hds⟩ := mkList rows (fun i row (drow : List DV) => drow.map DV.er = row.map plainC ∧ drow.length = k ∧ (∀ d ∈ drow, Ok w S d (fun _ => False)) ∧ ∀ (j : Nat) d, drow[j]? = some d → w.cell? ⟨b, off + (i * k + j), none⟩ = some d.ann) (by
      intro i row hi
      obtain ⟨dr, hl, hdr⟩ := mkList row (fun j a (d : DV) => d.er = plainC a ∧ Ok w S d (fun _ => False) ∧ w.cell? ⟨b, off + (i * k + j), none⟩ = some d.ann) (by
        intro j a hj
        obtain ⟨D, h1, h2, h3, _⟩ := frozenLeaf (δ := fun _ => default) (hr i j row a hi hj)
        exact ⟨D, h1, h3, by rw [h2]; exact hc i j row a hi hj⟩)
      refine ⟨dr, ?_, by rw [hl]; exact hk row (List.mem_of_getElem? hi), ?_, ?_⟩
      · exact map_mk hl hdr _ _ (by simp) fun j a d hΦ ha => by simp [ha, hΦ.1]
      · intro d hd; obtain ⟨j, hj⟩ := List.getElem?_of_mem hd; obtain ⟨a, _, hΦ⟩ := mem_mk hl hdr j d hj; exact hΦ.2.1
      · intro j d hd; obtain ⟨a, _, hΦ⟩ := mem_mk hl hdr j d hd; exact hΦ.2.2)
    have hkd : ∀ r ∈ ds, r.length = k := by
      intro r hr'
      obtain ⟨i, hi⟩ := List.getElem?_of_mem hr'
      obtain ⟨c, _, hΦ⟩ := mem_mk hl hds i r hi
      exact hΦ.2.1
    refine ⟨ds, ?_, hkd, OkL_empty ?_, .inr ⟨b, off, c, by rw [hl], ?_⟩, hl⟩
    · exact map_mk hl hds _ _ (by simp) fun i row dr hΦ hrow => by simp [hrow, hΦ.1]
    · intro d hd
      rw [List.mem_flatten] at hd
      obtain ⟨r, hr', hd⟩ := hd
      obtain ⟨i, hi⟩ := List.getElem?_of_mem hr'
      obtain ⟨c, _, hΦ⟩ := mem_mk hl hds i r hi
      exact hΦ.2.2.1 d hd
    · intro n u hu
      rw [List.getElem?_map, Option.map_eq_some_iff] at hu
      obtain ⟨d, hd, rfl⟩ := hu
      have hlt : n < ds.length * k := by rw [← flatten_length hkd]; exact (List.getElem?_eq_some_iff.1 hd).1
      have hk0 : 0 < k := by rcases Nat.eq_zero_or_pos k with h | h; · subst h; simp at hlt
                             · exact h
      have hi : n / k < ds.length := Nat.div_lt_of_lt_mul (by rw [Nat.mul_comm]; exact hlt)
      have hj : n % k < (ds[n / k]).length := by rw [hkd _ (List.getElem_mem hi)]; exact Nat.mod_lt _ hk0
      have h1 := flatten_get hkd (List.getElem?_eq_getElem hi) (List.getElem?_eq_getElem hj)
      rw [Nat.mul_comm, Nat.div_add_mod, hd] at h1
      obtain rfl := Option.some.inj h1
      obtain ⟨c, _, hΦ⟩ := mem_mk hl hds _ _ (List.getElem?_eq_getElem hi)
      have := hΦ.2.2.2 _ _ (List.getElem?_eq_getElem hj)
      rw [show n / k * k + n % k = n from by rw [Nat.mul_comm]; exact Nat.div_add_mod n k] at this
      exact this
theorem plainC_id {rows : List (List AV)} (h : rows.all (·.all plainA) = true) : rows.map (·.map plainC) = rows := by
 rw [List.all_eq_true] at h
 conv => rhs; rw [← List.map_id rows]
 apply List.map_congr_left
 intro r hr
 have h1 := h r hr
 rw [List.all_eq_true] at h1
 conv => rhs; rw [id, ← List.map_id r]
 apply List.map_congr_left
 intro a ha
 have := h1 a ha
 cases a <;> simp_all [plainA, plainC]
theorem plain_rows {ds : List (List DV)} {F : Nat → Prop} (h : OkL w S ds.flatten F) (hc : (ds.map (·.map DV.er)).all (·.all cellA) = true) : ∀ d ∈ ds.flatten, plainV d.ann = true := by
 intro d hd
 obtain ⟨Fs, h1, _, _, _⟩ := OkL_iff.1 h
 obtain ⟨n, hn⟩ := List.getElem?_of_mem hd
 refine plain_of_cell (h1 n d hn) ?_
 rw [List.mem_flatten] at hd
 obtain ⟨r, hr, hd⟩ := hd
 rw [List.all_eq_true] at hc
 have := hc (r.map DV.er) (List.mem_map_of_mem hr)
 rw [List.all_eq_true] at this
 exact this d.er (List.mem_map_of_mem hd)
theorem plainA_cellA {rows : List (List AV)} (h : rows.all (·.all plainA) = true) : rows.all (·.all cellA) = true := by
 rw [List.all_eq_true] at h ⊢
 intro r hr
 have := h r hr
 rw [List.all_eq_true] at this ⊢
 intro a ha
 have := this a ha
 cases a <;> simp_all [plainA, cellA]
theorem own_reads {v : Value} {k : Nat} {rows : List (List DV)} {F : Nat → Prop} (h : Ok w S (.own v false k rows) F) : Reads w v rows.length (rows.flatten.map DV.ann) ∧ (∀ r ∈ rows, r.length = k) ∧ ∃ Fc, OkL w S rows.flatten Fc ∧ ∀ x, Fc x → F x := by
 rcases own_parts h with ⟨rfl, _, rfl, hF⟩ | ⟨b, c, arr, E, Fc, rfl, hb, hk, hcap, hS, hok, hbF, hF, ha⟩
 · exact ⟨.inl ⟨none, 0, rfl, rfl, rfl⟩, by simp, fun _ => False, fun _ h => h, fun _ h => h.elim⟩
 · refine ⟨.inr ⟨b, 0, c, by simp [hdr], ?_⟩, hk, Fc, hok, fun x hx => (hF x).2 (.inr hx)⟩
   intro n u hu
   rw [List.getElem?_map, Option.map_eq_some_iff] at hu
   obtain ⟨d, hd, rfl⟩ := hu
   simp [World.cell?, hb, ha n d hd]
theorem St.appY (h : St G w S δ Fr) {y : Ar} {k : Nat} {ys : List (List AV)} {τ : Sg} (hy : ArOK y) (he : Abs.appY G k y (fun s => (δ s).er) = some (ys, τ)) :
 ∃ (S1 : Nat → Prop) (δ1 : Nat → DV) (F1 : Nat → Nat → Prop) (ysD : List (List DV)) (Fy : Nat → Prop), St G w S1 δ1 F1 ∧ (fun s => (δ1 s).er) = τ ∧ (∀ s, (δ1 s).ann = (δ s).ann) ∧ ysD.map (·.map DV.er) = ys ∧ (∀ r ∈ ysD, r.length = k) ∧
  OkL w S1 ysD.flatten Fy ∧ Reads w (argv δ y) ysD.length (ysD.flatten.map DV.ann) ∧ (∀ d ∈ ysD.flatten, plainV d.ann = true) ∧ (∀ s x, F1 s x → ¬ Fy x) ∧ Nx w S (Owned Fr) w S1 (fun x => Owned F1 x ∨ Fy x) := by
 cases y with
 | c c =>
  simp only [Abs.appY] at he
  split at he
  · rename_i kk
    simp only [Option.some.injEq, Prod.mk.injEq] at he
    obtain ⟨rfl, rfl⟩ := he
    exact ⟨S, δ, Fr, [], fun _ => False, h, rfl, fun _ => rfl, rfl, by simp, fun _ h => h, .inl ⟨none, 0, by simp [argv, cstD], rfl, rfl⟩, by simp, fun _ _ _ h => h, Nx.less fun x hx => hx.elim id False.elim⟩
  · cases he
 | t s =>
  simp only [Abs.appY] at he
  cases hs : (δ s).er with
  | own b k' rows =>
   cases b with
   | true => simp [hs] at he
   | false =>
    simp only [hs] at he
    split at he
    · rename_i hcond
      obtain ⟨rfl, hcell⟩ := hcond
      simp only [Option.some.injEq, Prod.mk.injEq] at he
      obtain ⟨rfl, rfl⟩ := he
      obtain ⟨rowsD, hd, hm⟩ := h.nodeS hs
      have hok := h.ok s
      rw [hd] at hok
      obtain ⟨hrd, hk, Fc, hokc, hsub⟩ := own_reads hok
      refine ⟨S, _, _, rowsD, Fc, h.empty s, by rw [er_upd_kill h]; simp, ?_, hm, hk, hokc, hrd, plain_rows hokc (by rw [hm]; exact hcell), ?_, Nx.less ?_⟩
      · intro t; rw [ann_upd_kill h]; split
        · rename_i e; rw [e]; simp
        · rfl
      · intro t x hx hf
        by_cases e : t = s
        · subst e; rw [upd_same] at hx; exact hx
        · rw [upd_ne _ _ e] at hx; exact e (h.dis t s x hx (hsub x hf))
      · rintro x (⟨t, hx⟩ | hx)
        · by_cases e : t = s
          · subst e; rw [upd_same] at hx; exact hx.elim
          · rw [upd_ne _ _ e] at hx; exact ⟨t, hx⟩
        · exact ⟨s, hsub x hx⟩
    · cases he
  | sl ee k' rows =>
   simp only [hs] at he
   split at he
   · rename_i hcond
     obtain ⟨rfl, hpl⟩ := hcond
     simp only [Option.some.injEq, Prod.mk.injEq] at he
     obtain ⟨rfl, rfl⟩ := he
     obtain ⟨ds, h1, h2, h3, h4, h5⟩ := frozenRows (h.leaf hs rfl).2.1
     rw [plainC_id hpl] at h1
     exact ⟨S, δ, Fr, ds, fun _ => False, h, rfl, fun _ => rfl, h1, h2, h3, h4, plain_rows h3 (by rw [h1]; exact plainA_cellA hpl), fun _ _ _ h => h, Nx.less fun x hx => hx.elim id False.elim⟩
   · cases he
  | al r p =>
   simp only [hs] at he
   split at he
   · rename_i ee k' rows τ' hfz
     split at he
     · rename_i hcond
       obtain ⟨rfl, hpl⟩ := hcond
       simp only [Option.some.injEq, Prod.mk.injEq] at he
       obtain ⟨rfl, rfl⟩ := he
       obtain ⟨δ1, F1, Fo, v, bx, kk, rowsD, hst, her, hann, hsub, hf, hfe, hdis, hown, _⟩ := h.fzAt hfz
       obtain ⟨_, _, hal⟩ := h.leaf hs rfl
       obtain ⟨bx', k2, rows', hl⟩ := hal
       rw [hsub] at hl
       simp only [Option.some.injEq, DV.own.injEq] at hl
       obtain ⟨ds, h1, h2, h3, h4, h5⟩ := frozenRows hf
       rw [plainC_id hpl] at h1
       refine ⟨_, δ1, F1, ds, fun _ => False, hst, her, hann, h1, h2, h3, by rw [hl.1] at h4; exact h4, plain_rows h3 (by rw [h1]; exact plainA_cellA hpl), fun _ _ _ h => h, Nx.frz ?_ ?_⟩
       · intro x hx; exact hown x (hx.imp (fun h => h.elim id False.elim) id)
       · intro x hx; obtain ⟨t, ht⟩ := hown x (.inr hx); exact (h.ok t).lt x ht
     · cases he
   · cases he
  | _ => simp [hs] at he
theorem St.appX (h : St G w S δ Fr) {x : Ar} {k : Nat} {n : AV} {τ : Sg} (hx : ArOK x) (he : Abs.appX G k x (fun s => (δ s).er) = some (n, τ)) :
 (∃ rows, n = .own false k rows ∧ ∃ (δ1 : Nat → DV) (F1 : Nat → Nat → Prop) (rowsD : List (List DV)) (Ff : Nat → Prop), St G w S δ1 F1 ∧ (fun s => (δ1 s).er) = τ ∧ (∀ s, (δ1 s).ann = (δ s).ann) ∧ rowsD.map (·.map DV.er) = rows ∧ Ok w S (.own (argv δ x) false k rowsD) Ff ∧
  (∀ s x, F1 s x → ¬ Ff x) ∧ (∀ x, Owned F1 x ∨ Ff x → Owned Fr x)) ∨
 (∃ rows, n = .sl true k rows ∧ τ = (fun s => (δ s).er) ∧ rows.all (·.all plainA) = true ∧ Fz w S (.sl true k rows) (argv δ x)) := by
 cases x with
 | c c =>
  simp only [Abs.appX] at he
  split at he
  · rename_i kk
    simp only [Option.some.injEq, Prod.mk.injEq] at he
    obtain ⟨rfl, rfl⟩ := he
    exact .inl ⟨[], rfl, δ, Fr, [], fun _ => False, h, rfl, fun _ => rfl, rfl, by simpa [argv, cstD] using Ok.nil k _ (fun _ h => h), fun _ _ _ h => h, fun x hx => hx.elim id False.elim⟩
  · cases he
 | t s =>
  simp only [Abs.appX] at he
  cases hs : (δ s).er with
  | own b k' rows =>
   cases b with
   | true => simp [hs] at he
   | false =>
    simp only [hs] at he
    split at he
    · rename_i hk
      subst hk
      simp only [Option.some.injEq, Prod.mk.injEq] at he
      obtain ⟨rfl, rfl⟩ := he
      obtain ⟨rowsD, hd, hm⟩ := h.nodeS hs
      have hok := h.ok s
      rw [hd] at hok
      refine .inl ⟨rows, rfl, _, _, rowsD, Fr s, h.empty s, by rw [er_upd_kill h]; simp, ?_, hm, by simpa [argv] using hok, ?_, ?_⟩
      · intro t; rw [ann_upd_kill h]; split
        · rename_i e; rw [e]; simp
        · rfl
      · intro t x hx hf
        by_cases e : t = s
        · subst e; rw [upd_same] at hx; exact hx
        · rw [upd_ne _ _ e] at hx; exact e (h.dis t s x hx hf)
      · rintro x (⟨t, hx⟩ | hx)
        · by_cases e : t = s
          · subst e; rw [upd_same] at hx; exact hx.elim
          · rw [upd_ne _ _ e] at hx; exact ⟨t, hx⟩
        · exact ⟨s, hx⟩
    · cases he
  | sl ee k' rows =>
   cases ee with
   | false => simp [hs] at he
   | true =>
    simp only [hs] at he
    split at he
    · rename_i hcond
      obtain ⟨rfl, hpl⟩ := hcond
      simp only [Option.some.injEq, Prod.mk.injEq] at he
      obtain ⟨rfl, rfl⟩ := he
      exact .inr ⟨rows, rfl, rfl, hpl, (h.leaf hs rfl).2.1⟩
    · cases he
  | al r p =>
   simp only [hs] at he
   split at he
   · rename_i k' rows τ' ht
     split at he
     · rename_i hk
       subst hk
       simp only [Option.some.injEq, Prod.mk.injEq] at he
       obtain ⟨rfl, rfl⟩ := he
       obtain ⟨δ1, F1, D, Ff, hst, her, hann, hD, hDe, ⟨v, bx, kk, rowsD, rfl⟩, hsub, hdis, hown, _, _⟩ := h.tk1 ht
       simp only [er_own, AV.own.injEq] at hDe
       obtain ⟨rfl, rfl, hm⟩ := hDe
       obtain ⟨_, _, hal⟩ := h.leaf hs rfl
       obtain ⟨bx', k2, rows', hl⟩ := hal
       rw [hsub] at hl
       simp only [Option.some.injEq, DV.own.injEq] at hl
       exact .inl ⟨rows, rfl, δ1, F1, rowsD, Ff, hst, her, hann, hm, by rw [show argv δ (.t s) = v from hl.1.symm]; exact hD, hdis, hown⟩
     · cases he
   · cases he
  | _ => simp [hs] at he
end Go.Abs
namespace Go.Abs
variable {w w' : World} {S S' : Nat → Prop} {G : Gi} {δ : Nat → DV} {Fr : Nat → Nat → Prop} {P : Program}
theorem runs_grown {S1 : Nat → Prop} {U1 : Nat → Prop} {δ1 : Nat → DV} {F1 : Nat → Nat → Prop} {a : Act} {o : Oper} {d : Dst} {σ' : Sg} {k c : Nat} {rows : List (List DV)} {Fd : Nat → Prop} {arr : Array Value} {E : TypeId} (h : St G w S1 δ1 F1) (hSlt : ∀ b, S1 b → b < w.heap.size) (ha : Rd δ1 a)
 (hd : DstOK G a o (some d)) (hr : (execOp a.eval o).run P w = .ok (.value (.slice (some ⟨w.heap.size, 0, none⟩) rows.length c)) w') (hheap : w'.heap = w.heap.push (.cells arr E)) (hos : w'.os = w.os) (htp : w'.tape = w.tape) (hou : w'.output = w.output)
 (hok : OkL w S1 rows.flatten Fd) (hdis : ∀ s x, F1 s x → ¬ Fd x) (hk : ∀ row ∈ rows, row.length = k)
 (hcap : c * k = arr.size ∧ rows.length ≤ c) (hv : ∀ (n : Nat) d, rows.flatten[n]? = some d → arr[n]? = some d.ann)
 (hwr : wr d (.own false k (rows.map (·.map DV.er))) (fun s => (δ1 s).er) = some σ') (hown : ∀ x, Owned F1 x ∨ Fd x → U1 x) (hnx0 : Nx w S (Owned Fr) w S1 U1) : Runs P G w S Fr a o σ' := by
 have hlt := (Ok_agg_iff.2 hok).lt
 have hnS := (Ok_agg_iff.2 hok).notS
 have hold : ∀ b, b < w.heap.size → w'.heap[b]? = w.heap[b]? := fun b hb => by rw [hheap, Array.getElem?_push, if_neg (by omega)]
 have hnew : w'.heap[w.heap.size]? = some (.cells arr E (0, 0)) := by rw [hheap]; simp
 have hnode : Ok w' S1 (.own (hdr false w.heap.size rows.length c) false k rows) (fun x => x = w.heap.size ∨ Fd x) := by
  refine own_mk hnew hk (by simpa using hcap) (fun hs => by have := hSlt _ hs; omega) ?_ (fun hs => by have := hlt _ hs; omega) hv
  exact hok.mono (fun b hb => hold b (hSlt b hb)) (fun b hb => hold b (hlt b hb)) (fun _ h => h) hnS
 refine runs_of (D := .own (hdr false w.heap.size rows.length c) false k rows) h ha hd (by simpa [hdr] using hr) (fun b hb => hold b (hSlt b hb)) (fun s x hx => hold x ((h.ok s).lt x hx)) (fun _ h => h) (fun s x hx => (h.ok s).notS x hx) hnode ?_ (.own _ _ _ _) (by simpa using hwr) ?_
 · rintro s x hx (rfl | hf)
   · have := (h.ok s).lt _ hx; omega
   · exact hdis s x hx hf
 · refine hnx0.trans ⟨hos, htp, hou, by rw [hheap]; simp, fun b hb _ => hold b hb, fun _ h => h, fun _ h => .inl h, fun hl b hb => by rw [hheap]; have := hl b hb; simp; omega, ?_⟩
   rintro x (hx | rfl | hx)
   · exact .inl (hown x (.inl hx))
   · exact .inr (Nat.le_refl _)
   · exact .inl (hown x (.inr hx))
theorem run_app_zero {t ty e : TypeId} {i : TypeInfo} (ht : P.underlying t = some (.slice e)) (hi : P.info? e = some i) {base : Option Addr} {n c : Nat} (hnc : n ≤ c) {v : Value} (hy : Reads w v 0 []) :
 (Builtin.append_ #[t, t] ty #[.slice base n c, v]).run P w = .ok (.slice base n c) w := by
 obtain ⟨ad, c', rfl⟩ := hy.len
 have hf := run_first (P := P) (size := i.size) hy (by simp)
 cases base <;> simp [Builtin.append_, run_underlying ht, sizeOf, typeInfo, hi, Builtin.lenOf, hf, hnc, storeCells]
theorem grown_size {z : Value} {k n m cap : Nat} {xs ys : List Value} (hz : z.cells.size = k) (hx : xs.length = n * k) (hy : ys.length = m * k) (hc : n + m ≤ cap) : cap * k = ((xs ++ ys).toArray ++ Builtin.zeroCells z.cells (cap - (n + m))).size := by
 simp only [Array.size_append, List.size_toArray, List.length_append, size_zeroCells, hx, hy, hz, ← Nat.add_mul]
 congr 1
 omega
theorem runs_app (h : St G w S δ Fr) (hSlt : ∀ b, S b → b < w.heap.size) {a : Act} (ha : Rd δ a) {o : Oper} {c : Call} {u v : Operand} {t e : TypeId} {i : TypeInfo} {z : Value} {k bytes : Nat} {x y : Ar} {d : Dst} (hd : DstOK G a o (some d)) (ho : o.op = .call c) (hcal : c.callee = .builtin .append) (hargs : c.args = #[u, v]) (hty : c.argTypes = #[t, t])
 (hu : P.underlying t = some (.slice e)) (hi : P.info? e = some i) (hsz : i.size = k) (hby : i.bytes = bytes) (hb0 : 0 < bytes) (hz : i.zero = some z) (hzk : z.cells.size = k) (hc : chkA u x = true) (hc2 : chkA v y = true) {σ' : Sg}
 (he : eff G (.app k bytes x y) (some d) (fun s => (δ s).er) = some σ') : Runs P G w S Fr a o σ' := by
 obtain ⟨hx, hev⟩ := chkA_sound hc ha
 obtain ⟨hy, hev2⟩ := chkA_sound hc2 ha
 subst hsz
 subst hby
 have hexec : ∀ r w', (Builtin.append_ #[t, t] o.type #[argv δ x, argv δ y]).run P w = .ok r w' → (execOp a.eval o).run P w = .ok (.value r) w' := by
  intro r w' hr
  simp only [execOp, ho, resolve, hcal, hargs, hty, invoke, builtin, Sem.run_bind, Sem.run_pure, Result.andThen_ok, List.map_toArray, List.map_cons, List.map_nil, hev, hev2, hr]
 simp only [eff] at he
 split at he
 · rename_i ys τ hY
   obtain ⟨S1, δ1, F1, ysD, Fy, hst1, her1, hann1, hysm, hyk, hyok, hyr, hypl, hydis, hnx1⟩ := h.appY hy hY
   subst her1
   have hSlt1 := hnx1.lt hSlt
   have hav : argv δ1 x = argv δ x := by cases x <;> simp [argv, hann1]
   have hylen : ysD.length = ys.length := by rw [← hysm]; simp
   split at he
   · -- a node
     rename_i b' k' rows τ' hX
     split at he
     · rename_i hroom
       rcases hst1.appX hx hX with ⟨rows0, hn, δ2, F2, rowsD, Ff, hst2, her2, hann2, hrm, hok, hdis2, hown2⟩ | ⟨_, hn, _⟩
       · simp only [AV.own.injEq] at hn
         obtain ⟨rfl, rfl, rfl⟩ := hn
         subst her2
         have hrl : rowsD.length = rows.length := by rw [← hrm]; simp
         have ha2 : Rd δ2 a := fun s => (ha s).trans ((hann2 s).trans (hann1 s)).symm
         simp only [roomOK, decide_eq_true_eq] at hroom
         rw [← hrl, ← hylen] at hroom
         have h63 : rowsD.length + ysD.length ≤ 9223372036854775807 := by
          have := Nat.le_mul_of_pos_right (rowsD.length + ysD.length) hb0
          omega
         rw [hav] at hok
         obtain ⟨hxr, hxk, Fc', hxok', hsub'⟩ := own_reads hok
         have hxl : (rowsD.flatten.map DV.ann).length = rowsD.length * i.size := by rw [List.length_map, flatten_length hxk]
         have hyl : (ysD.flatten.map DV.ann).length = ysD.length * i.size := by rw [List.length_map, flatten_length hyk]
         have hdy : ∀ x, Owned F2 x ∨ Ff x → ¬ Fy x := by
          intro x hx hfy
          obtain ⟨s, hs⟩ := hown2 x hx
          exact hydis s x hs hfy
         have hmapp : (rowsD ++ ysD).map (·.map DV.er) = rows ++ ys := by rw [List.map_append, hrm, hysm]
         have hkk : ∀ r ∈ rowsD ++ ysD, r.length = i.size := by
          intro r hr
          rcases List.mem_append.1 hr with h1 | h1
          · exact hxk r h1
          · exact hyk r h1
         have hU : Nx w S (Owned Fr) w S1 (fun x => Owned F1 x ∨ Fy x) := hnx1
         have hall : ∀ Fc, (∀ x, Fc x → Ff x) → OkL w S1 rowsD.flatten Fc → OkL w S1 (rowsD ++ ysD).flatten (fun x => Fc x ∨ Fy x) := by
          intro Fc hsub hokc
          rw [List.flatten_append]
          exact OkL_append hokc hyok (fun x hx => hdy x (.inr (hsub x hx)))
         have grow : ∀ (base : Option Addr) (n sCap : Nat), argv δ x = .slice base n sCap → n = rowsD.length → sCap < rowsD.length + ysD.length → Runs P G w S Fr a o σ' := by
          intro base n sCap hv hn hlt
          subst hn
          rw [hv] at hxr
          have hrun := run_app_grow (P := P) (ty := o.type) hu hi hz hxr hxl hyr hyl hlt hroom h63
          have hge := grownCap_ge w (rowsD.length + ysD.length) sCap e
          obtain ⟨W1, hW1⟩ : ∃ W1, W1 = w.drew.alloc (.cells ((rowsD.flatten.map DV.ann ++ ysD.flatten.map DV.ann).toArray ++ Builtin.zeroCells z.cells (grownCap w (rowsD.length + ysD.length) sCap e - (rowsD.length + ysD.length))) e) := ⟨_, rfl⟩
          rw [← hW1] at hrun
          refine runs_grown (w' := W1) (Fr := Fr) (U1 := fun x => Owned F1 x ∨ Fy x) (rows := rowsD ++ ysD) (Fd := fun x => Fc' x ∨ Fy x) (arr := (rowsD.flatten.map DV.ann ++ ysD.flatten.map DV.ann).toArray ++ Builtin.zeroCells z.cells (grownCap w (rowsD.length + ysD.length) sCap e - (rowsD.length + ysD.length))) (E := e) hst2 hSlt1 ha2 hd
           (by rw [List.length_append]; exact hexec _ _ (by rw [hv]; exact hrun)) (by rw [hW1]; rfl) (by rw [hW1]; rfl) (by rw [hW1]; rfl) (by rw [hW1]; rfl) (hall Fc' hsub' hxok') ?_ hkk ⟨grown_size hzk hxl hyl hge, by simpa using hge⟩ ?_ (by rw [hmapp]; exact he) ?_ hU
          · rintro s x hx (h1 | h1)
            · exact hdis2 s x hx (hsub' x h1)
            · exact hdy x (.inl ⟨s, hx⟩) h1
          · intro n d hn
            rw [List.flatten_append] at hn
            have hlt : n < (rowsD.flatten ++ ysD.flatten).length := (List.getElem?_eq_some_iff.1 hn).1
            rw [Array.getElem?_append_left (by rw [List.size_toArray, List.length_append, List.length_map, List.length_map, ← List.length_append]; exact hlt), List.getElem?_toArray, ← List.map_append, List.getElem?_map, hn]
            rfl
          · rintro x (hx | h1 | h1)
            · exact .inl (hown2 x (.inl hx))
            · exact .inl (hown2 x (.inr (hsub' x h1)))
            · exact .inr h1
         rcases own_parts hok with ⟨hv, _, hr0, hF0⟩ | ⟨b, cc, arr, E, Fc, hv, hb, hk, hcap, hS, hokc, hbF, hF, harr⟩
         · subst hr0
           by_cases hm : ysD.length = 0
           · have hy0 : ysD = [] := List.eq_nil_of_length_eq_zero hm
             subst hy0
             have hrun := run_app_zero (P := P) (w := w) (ty := o.type) hu hi (base := none) (n := 0) (c := 0) (Nat.le_refl 0) (by simpa using hyr)
             have hys : ys = [] := by rw [← hysm]; rfl
             have hrs : rows = [] := by rw [← hrm]; rfl
             subst hys
             subst hrs
             refine runs_of (D := .own (.slice none 0 0) false i.size []) (Ff := fun _ => False) hst2 ha2 hd (by simpa using hexec _ _ (by rw [hv]; exact hrun)) (fun _ _ => rfl) (fun _ _ _ => rfl) (fun _ h => h) (fun s x hx => (hst2.ok s).notS x hx) (.nil _ _ (fun _ h => h)) (fun _ _ _ h => h) (.own _ _ _ _) (by simpa using he) ?_
             exact hU.trans (Nx.less fun x hx => .inl (hown2 x (.inl (hx.elim id False.elim))))
           · exact grow none 0 0 hv rfl (by omega)
         · by_cases hfit : rowsD.length + ysD.length ≤ cc
           · -- room
             simp only [Bool.false_eq_true, if_false] at hcap
             have hsz2 : rowsD.length * i.size + (ysD.flatten.map DV.ann).length ≤ arr.size := by
              rw [hyl, ← hcap.1, ← Nat.add_mul]; exact Nat.mul_le_mul_right _ hfit
             have hrun := run_app_room (P := P) (ty := o.type) hu hi hb hyr hyl (by
              intro q hq
              obtain ⟨dd, hdd, rfl⟩ := List.mem_map.1 hq
              exact plain_one (hypl dd hdd)) hfit hsz2
             generalize hw' : w.setRow b (arr.toList.take (rowsD.length * i.size) ++ ysD.flatten.map DV.ann ++ arr.toList.drop (rowsD.length * i.size + (ysD.flatten.map DV.ann).length)).toArray = w1 at hrun
             have hheapb : w1.heap[b]? = some (.cells (arr.toList.take (rowsD.length * i.size) ++ ysD.flatten.map DV.ann ++ arr.toList.drop (rowsD.length * i.size + (ysD.flatten.map DV.ann).length)).toArray E (0, 0)) := by rw [← hw']; exact setRow_heap w b arr _ E _ hb
             have hoth : ∀ x, x ≠ b → w1.heap[x]? = w.heap[x]? := fun x hx => by rw [← hw']; exact setRow_other w b x _ hx
             have hFfb : Ff b := (hF b).2 (.inl rfl)
             have hFc : ∀ x, Fc x → Ff x := fun x hx => (hF x).2 (.inr hx)
             have hnb : ∀ x, Fc x ∨ Fy x → x ≠ b := by
              rintro x (h1 | h1) rfl
              · exact hbF h1
              · exact hdy x (.inr hFfb) h1
             have hcells := hall Fc hFc hokc
             have hnode : Ok w1 S1 (.own (hdr false b (rowsD ++ ysD).length cc) false i.size (rowsD ++ ysD)) (fun x => x = b ∨ (Fc x ∨ Fy x)) := by
              refine own_mk hheapb hkk ?_ hS (hcells.mono (fun x hx => hoth x (by rintro rfl; exact hS hx)) (fun x hx => hoth x (hnb x hx)) (fun _ h => h) (Ok_agg_iff.2 hcells).notS) (fun hx => hnb b hx rfl) ?_
              · simp only [Bool.false_eq_true, if_false, List.size_toArray, List.length_append, List.length_take, List.length_drop, Array.length_toList]
                refine ⟨?_, by simpa using hfit⟩
                rw [hcap.1]; omega
              · intro n d hn
                rw [List.flatten_append] at hn
                have hxl' : rowsD.flatten.length = rowsD.length * i.size := flatten_length hxk
                rw [List.getElem?_toArray]
                have hlt : n < (rowsD.flatten ++ ysD.flatten).length := (List.getElem?_eq_some_iff.1 hn).1
                have htl : (arr.toList.take (rowsD.length * i.size)).length = rowsD.flatten.length := by
                 have e0 : arr.toList.length = arr.size := Array.length_toList
                 rw [hxl', List.length_take]
                 exact Nat.min_eq_left (by omega)
                rw [List.getElem?_append_left (by rw [List.length_append, htl, List.length_map]; simpa using hlt)]
                by_cases hnx : n < rowsD.flatten.length
                · rw [List.getElem?_append_left (by omega)] at hn ⊢
                  rw [List.getElem?_take, if_pos (by omega)]
                  have := harr n d hn
                  simpa using this
                · rw [List.getElem?_append_right (by omega)] at hn ⊢
                  rw [htl, List.getElem?_map, hn]; rfl
             refine runs_of (D := .own (hdr false b (rowsD ++ ysD).length cc) false i.size (rowsD ++ ysD)) (S1 := S1) (S' := S1) hst2 ha2 hd (by simpa [hdr] using hexec _ _ (by rw [hv]; simpa [hdr] using hrun)) (fun x hx => hoth x (by rintro rfl; exact hS hx))
              (fun s x hx => hoth x (by rintro rfl; exact hdis2 s x hx hFfb)) (fun _ h => h) (fun s x hx => (hst2.ok s).notS x hx) hnode ?_ (.own _ _ _ _) (by rw [er_own, hmapp]; exact he) ?_
             · rintro s x hx (rfl | h1 | h1)
               · exact hdis2 s x hx hFfb
               · exact hdis2 s x hx (hFc x h1)
               · exact hdy x (.inl ⟨s, hx⟩) h1
             · refine hU.trans ⟨by rw [← hw']; rfl, by rw [← hw']; rfl, by rw [← hw']; rfl, by rw [← hw']; simp [World.setRow], ?_, fun _ h => h, fun _ h => .inl h, fun hl q hq => by have := hl q hq; rw [← hw']; simpa [World.setRow] using this, ?_⟩
               · intro x _ hUx
                 refine hoth x ?_
                 rintro rfl
                 exact hUx (.inl (hown2 x (.inr hFfb)))
               · rintro x (hx | rfl | h1 | h1)
                 · exact .inl (.inl (hown2 x (.inl hx)))
                 · exact .inl (.inl (hown2 x (.inr hFfb)))
                 · exact .inl (.inl (hown2 x (.inr (hFc x h1))))
                 · exact .inl (.inr h1)
           · exact grow _ _ cc (by rw [hv]; rfl) rfl (by omega)
       · cases hn
     · cases he
   · -- a frozen slice without room
     rename_i e0 k0 rows τ' hX
     rcases hst1.appX hx hX with ⟨_, hn, _⟩ | ⟨rows0, hn, hτ, hpl, hfz⟩
     · cases hn
     · simp only [AV.sl.injEq] at hn
       obtain ⟨rfl, rfl, rfl⟩ := hn
       subst hτ
       rw [hav] at hfz
       have ha1 : Rd δ1 a := fun s => (ha s).trans (hann1 s).symm
       obtain ⟨ad, cap, hv⟩ := fz_slice hfz
       have hcapeq : cap = rows.length := by
        rw [hv] at hfz
        cases hfz with
        | nil _ _ _ _ hx => exact hx rfl
        | sl _ _ _ _ _ _ _ hx => exact hx rfl
       subst hcapeq
       split at he
       · -- nothing to append
         have hy0 : ysD = [] := List.eq_nil_of_length_eq_zero (by rw [hylen]; rfl)
         subst hy0
         have hrun := run_app_zero (P := P) (w := w) (ty := o.type) hu hi (base := ad) (n := rows.length) (c := rows.length) (Nat.le_refl _) (by simpa using hyr)
         refine runs_of (D := .lf (.sl true i.size rows) (.slice ad rows.length rows.length)) (Ff := fun _ => False) (S1 := S1) (S' := S1) hst1 ha1 hd (by simpa using hexec _ _ (by rw [hv]; exact hrun)) (fun _ _ => rfl) (fun _ _ _ => rfl) (fun _ h => h) (fun s x hx => (hst1.ok s).notS x hx) (.lf _ _ _ (by rw [← hv]; exact hfz) (fun _ h => h)) (fun _ _ _ h => h) (.lf _ _ trivial) (by rw [er_lf]; exact he) ?_
         exact hnx1.trans (Nx.less fun x hx => .inl (hx.elim id False.elim))
       · rename_i y0 ys0
         split at he
         · rename_i hroom
           simp only [roomOK, decide_eq_true_eq] at hroom
           obtain ⟨rowsD, h1, h2, h3, h4, h5⟩ := frozenRows hfz
           rw [plainC_id hpl] at h1
           have hyl1 : ysD.length = (y0 :: ys0).length := hylen
           rw [← h5, ← hyl1] at hroom
           have h63 : rowsD.length + ysD.length ≤ 9223372036854775807 := by
            have := Nat.le_mul_of_pos_right (rowsD.length + ysD.length) hb0
            omega
           have hxl : (rowsD.flatten.map DV.ann).length = rowsD.length * i.size := by rw [List.length_map, flatten_length h2]
           have hyl : (ysD.flatten.map DV.ann).length = ysD.length * i.size := by rw [List.length_map, flatten_length hyk]
           rw [hv, ← h5] at h4
           have hlt : rowsD.length < rowsD.length + ysD.length := by rw [hyl1]; simp
           have hrun := run_app_grow (P := P) (ty := o.type) hu hi hz h4 hxl hyr hyl hlt hroom h63
           have hge := grownCap_ge w (rowsD.length + ysD.length) rowsD.length e
           obtain ⟨W1, hW1⟩ : ∃ W1, W1 = w.drew.alloc (.cells ((rowsD.flatten.map DV.ann ++ ysD.flatten.map DV.ann).toArray ++ Builtin.zeroCells z.cells (grownCap w (rowsD.length + ysD.length) rowsD.length e - (rowsD.length + ysD.length))) e) := ⟨_, rfl⟩
           rw [← hW1] at hrun
           have hmapp : (rowsD ++ ysD).map (·.map DV.er) = rows ++ y0 :: ys0 := by rw [List.map_append, h1, hysm]
           refine runs_grown (w' := W1) (Fr := Fr) (U1 := fun x => Owned F1 x ∨ Fy x) (rows := rowsD ++ ysD) (Fd := fun x => False ∨ Fy x) (arr := (rowsD.flatten.map DV.ann ++ ysD.flatten.map DV.ann).toArray ++ Builtin.zeroCells z.cells (grownCap w (rowsD.length + ysD.length) rowsD.length e - (rowsD.length + ysD.length))) (E := e) hst1 hSlt1 ha1 hd
            (by rw [List.length_append]; exact hexec _ _ (by rw [hv, ← h5]; exact hrun)) (by rw [hW1]; rfl) (by rw [hW1]; rfl) (by rw [hW1]; rfl) (by rw [hW1]; rfl) (by rw [List.flatten_append]; exact OkL_append h3 hyok (fun _ h => h.elim)) ?_ ?_ ⟨grown_size hzk hxl hyl hge, by simpa using hge⟩ ?_ (by rw [hmapp]; exact he) ?_ hnx1
           · rintro s x hx (h1 | h1)
             · exact h1
             · exact hydis s x hx h1
           · intro r hr
             rcases List.mem_append.1 hr with h1 | h1
             · exact h2 r h1
             · exact hyk r h1
           · intro n d hn
             rw [List.flatten_append] at hn
             have hlt : n < (rowsD.flatten ++ ysD.flatten).length := (List.getElem?_eq_some_iff.1 hn).1
             rw [Array.getElem?_append_left (by rw [List.size_toArray, List.length_append, List.length_map, List.length_map, ← List.length_append]; exact hlt), List.getElem?_toArray, ← List.map_append, List.getElem?_map, hn]
             rfl
           · rintro x (hx | h1 | h1)
             · exact .inl hx
             · exact h1.elim
             · exact .inr h1
         · cases he
   · cases he
 · cases he
end Go.Abs
namespace Go.Abs
variable {w w' : World} {S S' : Nat → Prop} {G : Gi} {δ : Nat → DV} {Fr : Nat → Nat → Prop} {P : Program}
def placeOf (P : Program) (t : TypeId) : Nat → Option (Nat × Nat) := fun i => match P.underlying t with
 | some (.struct fs) => match fs[i]? with
  | some f => match szOf P f.type with
   | some n => some (f.offset, n)
   | none => none
  | none => none
 | some (.array _ e) => match szOf P e with
  | some k => some (i * k, k)
  | none => none
 | _ => none
def sizesOK (P : Program) (t : TypeId) : Bool := match P.underlying t with
 | some (.struct fs) => fs.toList.all fun f => (szOf P f.type).isSome
 | some (.array _ e) => (szOf P e).isSome
 | _ => false
def rowBase (zc : Array Value) (n : Nat) : List Value := ((Array.range n).map (zc[· % zc.size]!)).toList
def chkOp (P : Program) : Op → IOp → Bool
 | .move x, .cp y => chkA x y
 | .assign x, .mv y => chkA x y
 | .pick c a b, .pick c' a' b' => chkA c c' && chkA a a' && chkA b b'
 | .alloc t, .bx n (.c z) => szOf P t == some n && (match (P.info? t).bind (·.zero), cstD z with | some v, some D => sameV v D.ann | _, _ => false)
 | .box t x, .bx n y => szOf P t == some n && chkA x y
 | .build t parts, .bld z ps => (match (P.info? t).bind (·.zero), cstL z with
  | some v, some zd => sameL v.cells.toList (zd.map DV.ann) && z.all cellA && sizesOK P t && chkParts (placeOf P t) parts.toList ps
  | _, _ => false)
 | .buildSlice t len parts, .bsl k z ps => (match P.underlying t with
  | some (.slice e) => szOf P e == some k && decide (len * k ≤ 16777216) && (match (P.info? e).bind (·.zero), cstR z with
   | some v, some zd => sameL (rowBase (if len * k = 0 then #[] else v.cells) (len * k)) (zd.flatten.map DV.ann) && z.length == len && z.all (·.length == k) && chkRows k parts.toList ps
   | _, _ => false)
  | _ => false)
 | .load t a, .ld g n b => szOf P t == some n && isAggT P t == some g && (g || n == 1) && chkA a b
 | .store t a x, .st n b y => szOf P t == some n && chkA a b && chkA x y
 | .fieldAddr t x f, .fad off y => (match P.underlying t with
  | some (.struct fs) => match fs[f]? with
   | some fd => fd.offset == off && (match szOf P fd.type with | some n => n != 0 | none => false)
   | none => false
  | _ => false) && chkA x y
 | .indexAddr t x i, .iad k y j => (match P.underlying t with | some (.slice e) => szOf P e == some k | _ => false) && chkA x y && chkA i j
 | .indexAddr t x i, .aad len k y j => (match P.underlying t with | some (.array n e) => n == len && szOf P e == some k | _ => false) && chkA x y && chkA i j
 | .makeSlice t x y, .mk k bytes z x' y' => (match P.underlying t with
  | some (.slice e) => match P.info? e with
   | some i => i.size == k && i.bytes == bytes && decide (0 < bytes) && decide (0 < k) && z.length == k && (match i.zero, cstL z with | some v, some zd => sameL v.cells.toList (zd.map DV.ann) | _, _ => false)
   | none => false
  | _ => false) && chkA x x' && chkA y y'
 | .field t x f, .fld agg off n y => (match P.underlying t with
  | some (.struct fs) => match fs[f]? with
   | some fd => fd.offset == off && szOf P fd.type == some n && isAggT P fd.type == some agg && (agg || n == 1)
   | none => false
  | _ => false) && chkA x y
 | .index t x i, .idx agg len k y j => (match P.underlying t with | some (.array n e) => n == len && szOf P e == some k && isAggT P e == some agg && (agg || k == 1) | _ => false) && chkA x y && chkA i j
 | .index t x i, .sidx y j => (match P.underlying t with | some .string => true | _ => false) && chkA x y && chkA i j
 | .binOp op _ x y _, .bin op' x' y' => decide (op = op') && chkA x x' && chkA y y'
 | .binOp op t x y _, .beq neg x' y' => decide (op = if neg = true then .neq else .eql) && (match P.underlying t with | some .bool => true | _ => false) && chkA x x' && chkA y y'
 | .binOp op t x y _, .seqs neg kd x' y' => decide (op = if neg = true then .neq else .eql) && chkSeq P t kd && chkA x x' && chkA y y'
 | .load t a, .lda b => szOf P t == some 1 && isAggT P t == some false && chkA a b
 | .store t a x, .sts b y => szOf P t == some 1 && chkA a b && chkA x y
 | .nilCheck x, .nchk y => chkA x y
 | .makeFunc (.func f) first caps, .mkf f' ys => f == f' && first.isEmpty && chkL caps.toList ys
 | .unOp op _ x, .un op' y => decide (op = op') && chkA x y
 | .convert s d x, .cvt k y => (match P.underlying s, P.underlying d with | some (.int _), some (.int k') => decide (k = k') | _, _ => false) && chkA x y
 | .call c, .len y => (match c.callee, c.args.toList, c.argTypes.toList with
  | .builtin .len, [x], [t] => (match P.underlying t with | some (.slice _) => true | _ => false) && chkA x y
  | _, _, _ => false)
 | .call c, .slen y => (match c.callee, c.args.toList, c.argTypes.toList with
  | .builtin .len, [x], [t] => (match P.underlying t with | some .string => true | _ => false) && chkA x y
  | _, _, _ => false)
 | .call c, .mm mx x y => (match c.callee, c.args.toList with
  | .builtin b, [u, v] => (match b, mx with | .max, true => true | .min, false => true | _, _ => false) && chkA u x && chkA v y
  | _, _ => false)
 | .call c, .app k bytes x y => (match c.callee, c.args.toList, c.argTypes.toList with
  | .builtin .append, [u, v], [t, t'] => t == t' && (match P.underlying t with
   | some (.slice e) => match P.info? e with
    | some i => i.size == k && i.bytes == bytes && decide (0 < bytes) && (match i.zero with | some z => z.cells.size == k | none => false)
    | none => false
   | _ => false) && chkA u x && chkA v y
  | _, _, _ => false)
 | .slice t x lo hi mx, .slc k fr y lo' hi' mx' => fr && (match P.underlying t with | some (.slice e) => szOf P e == some k | _ => false) && (mx.isNone || hi.isSome) && chkA x y && chkO lo lo' && chkO hi hi' && chkO mx mx'
 | .extract x i, .ext y j => decide (i = j) && chkA x y
 | _, .bad => true
 | _, _ => false
theorem arr2 {α : Type} {a : Array α} {x y : α} (h : a.toList = [x, y]) : a = #[x, y] := by apply Array.ext'; simpa using h
theorem run_mapM {α β : Type} (l : List α) (f : α → Sem β) (g : α → β) (h : ∀ a ∈ l, (f a).run P w = .ok (g a) w) : (l.mapM f).run P w = .ok (l.map g) w := by
 induction l with
 | nil => simp
 | cons a l ih =>
  have h1 := h a (by simp)
  have h2 := ih (fun b hb => h b (by simp [hb]))
  simp [List.mapM_cons, h1, h2]
theorem run_build {t : TypeId} {v : Value} {parts : Array (Nat × Value)} {i : TypeInfo} (hi : P.info? t = some i) (hz : i.zero = some v) (hs : sizesOK P t = true) (cells : Array Value) (hf : Instr.fill (placeOf P t) v.cells parts.toList = some cells) :
 (Instr.build t parts).run P w = .ok (.agg cells) w := by
 unfold sizesOK at hs
 split at hs
 · rename_i fs hu
   have hm : (fs.mapM (m := Sem) fun (f : Field) => Prod.mk f.offset <$> sizeOf f.type).run P w = .ok (fs.map fun f => (f.offset, (szOf P f.type).getD 0)) w := by
    rw [Array.mapM_eq_mapM_toList]
    have := run_mapM (P := P) (w := w) fs.toList (fun (f : Field) => (Prod.mk f.offset <$> sizeOf f.type : Sem (Nat × Nat))) (fun f => (f.offset, (szOf P f.type).getD 0)) (by
     intro f hf'
     rw [List.all_eq_true] at hs
     have := hs f hf'
     obtain ⟨n, hn⟩ := Option.isSome_iff_exists.1 this
     simp [run_sizeOf hn, hn])
    simp only [Sem.run_map, this, Result.andThen_ok]
    congr 1
    apply Array.ext'
    simp
   have hp : (fun i => Option.map (fun (f : Field) => (f.offset, (szOf P f.type).getD 0)) fs[i]?) = placeOf P t := by
    funext i
    simp only [placeOf, hu]
    cases hf' : fs[i]? with
    | none => rfl
    | some f =>
     rw [List.all_eq_true] at hs
     have := hs f (by rw [Array.mem_toList_iff]; exact Array.mem_of_getElem? hf')
     obtain ⟨n, hn⟩ := Option.isSome_iff_exists.1 this
     simp [hn]
   simp only [Instr.build, zeroValue, typeInfo, Sem.run_bind, run_underlying hu]
   simp [program, Sem.run, hi, hz, hm]
   rw [hp, hf]
   simp
 · rename_i n e hu
   obtain ⟨k, hk⟩ := Option.isSome_iff_exists.1 hs
   have hp : (fun i => some (i * k, k)) = placeOf P t := by funext i; simp [placeOf, hu, hk]
   simp only [Instr.build, zeroValue, typeInfo, Sem.run_bind, run_underlying hu]
   simp [program, Sem.run, hi, hz, run_sizeOf hk]
   rw [hp, hf]
   simp
 · cases hs
theorem run_buildSlice {t e : TypeId} {v : Value} {len k : Nat} {parts : Array (Nat × Value)} {i : TypeInfo} (hu : P.underlying t = some (.slice e)) (hk : szOf P e = some k) (hle : len * k ≤ 16777216) (hi : P.info? e = some i) (hz : i.zero = some v) (cells : Array Value)
 (hf : Instr.fill (fun i => some (i * k, k)) (rowBase (if len * k = 0 then #[] else v.cells) (len * k)).toArray parts.toList = some cells) :
 (Instr.buildSlice t len parts).run P w = .ok (.slice (some ⟨w.heap.size, 0, none⟩) len len) (w.alloc (.cells cells e)) := by
 have h24 : ¬ (16777216 < len * k) := by omega
 simp only [rowBase, Array.toArray_toList] at hf
 by_cases h0 : len * k = 0
 · simp only [h0, if_true] at hf
   simp [Instr.buildSlice, run_underlying hu, run_sizeOf hk, h0]
   simp at hf
   rw [hf]
   simp [newRow]
 · simp only [h0, if_false] at hf
   simp [Instr.buildSlice, run_underlying hu, run_sizeOf hk, h0, h24, zeroValue, typeInfo, hi, hz]
   rw [hf]
   simp [newRow]
theorem opt_eq {α : Type} [BEq α] [LawfulBEq α] {a : Option α} {b : α} (h : (a == some b) = true) : a = some b := by simpa using h
theorem op_sound (h : St G w S δ Fr) (hSlt : ∀ b, S b → b < w.heap.size) {a : Act} (ha : Rd δ a) {o : Oper} {io : IOp} {d : Option Dst} (hd : DstOK G a o d) (hc : chkOp P o.op io = true) {σ' : Sg} (he : eff G io d (fun s => (δ s).er) = some σ') : Runs P G w S Fr a o σ' := by
 have val : ∀ {v : AV}, (∀ {d}, eff G io (some d) (fun s => (δ s).er) = (match valOf io (fun s => (δ s).er) with | some v => wr d v (fun s => (δ s).er) | none => none)) → (eff G io none (fun s => (δ s).er) = none) →
  (∀ v, valOf io (fun s => (δ s).er) = some v → Gives P w S δ a o v) → Runs P G w S Fr a o σ' := by
  intro _ h1 h2 h3
  cases d with
  | none => rw [h2] at he; cases he
  | some d =>
   rw [h1] at he
   split at he
   · rename_i v hv; exact runs_of_gives h ha hd (h3 v hv) he
   · cases he
 have some_dst : ∀ {io : IOp}, (eff G io none (fun s => (δ s).er) = none) → eff G io d (fun s => (δ s).er) = some σ' → ∃ d', d = some d' := by
  intro io h1 h2
  cases d with
  | none => rw [h1] at h2; cases h2
  | some d => exact ⟨d, rfl⟩
 unfold chkOp at hc
 split at hc
 · rename_i x y ho; exact val (v := .dead) rfl rfl fun v hv => gives_cp h ha ho hc hv
 · rename_i x y ho
   obtain ⟨d', rfl⟩ := some_dst rfl he
   exact runs_mv h ha hd ho hc he
 · rename_i c x y c' x' y' ho
   simp only [Bool.and_eq_true] at hc
   exact val (v := .dead) rfl rfl fun v hv => gives_pick h ha ho hc.1.1 hc.1.2 hc.2 hv
 · rename_i t n z ho
   simp only [Bool.and_eq_true] at hc
   obtain ⟨h1, h2⟩ := hc
   split at h2
   · rename_i v D hv hD
     obtain ⟨i, hi, hz⟩ := Option.bind_eq_some_iff.1 hv
     obtain ⟨d', rfl⟩ := some_dst rfl he
     refine runs_bx (t := t) (y := .c z) h hSlt ha hd ⟨D, hD⟩ ?_ he
     have := run_alloc (P := P) t i v hi hz w
     simp only [execOp, ho, Sem.run_bind, this, Result.andThen_ok, Sem.run_pure, argv, hD, sameV_eq h2]
   · cases h2
 · rename_i t x n y ho
   simp only [Bool.and_eq_true] at hc
   obtain ⟨hy, hev⟩ := chkA_sound hc.2 ha
   obtain ⟨d', rfl⟩ := some_dst rfl he
   refine runs_bx (t := t) h hSlt ha hd hy ?_ he
   simp only [execOp, ho, Sem.run_bind, run_box, Result.andThen_ok, Sem.run_pure, hev]
 · rename_i t parts z ps ho
   split at hc
   · rename_i v zd hv hz
     simp only [Bool.and_eq_true] at hc
     obtain ⟨⟨⟨h1, h2⟩, h3⟩, h4⟩ := hc
     obtain ⟨i, hi, hz0⟩ := Option.bind_eq_some_iff.1 hv
     obtain ⟨d', rfl⟩ := some_dst rfl he
     refine runs_bld h ha hd ho hz h2 h4 (fun cells hf => ?_) he
     refine run_build hi hz0 h3 cells ?_
     have := sameL_eq h1
     have e : v.cells = (zd.map DV.ann).toArray := by apply Array.ext'; simpa using this
     rw [e]
     simpa using hf
   · cases hc
 · rename_i t len parts k z ps ho
   split at hc
   · rename_i e hu
     simp only [Bool.and_eq_true, decide_eq_true_eq] at hc
     obtain ⟨⟨h1, h2⟩, h3⟩ := hc
     split at h3
     · rename_i v zd hv hz
       simp only [Bool.and_eq_true, beq_iff_eq] at h3
       obtain ⟨⟨⟨g1, g2⟩, g3⟩, g4⟩ := h3
       obtain ⟨i, hi, hz0⟩ := Option.bind_eq_some_iff.1 hv
       obtain ⟨d', rfl⟩ := some_dst rfl he
       refine runs_bsl (e := e) h hSlt ha hd ho hz (fun r hr => by rw [List.all_eq_true] at g3; simpa using g3 r hr) g2 g4 (fun cells hf => ?_) he
       refine run_buildSlice hu (opt_eq h1) h2 hi hz0 cells ?_
       rw [sameL_eq g1]
       simpa using hf
     · cases h3
   · cases hc
 · rename_i t x g n y ho
   simp only [Bool.and_eq_true, Bool.or_eq_true, beq_iff_eq] at hc
   exact val (v := .dead) rfl rfl fun v hv => gives_ld h ha ho hc.1.1.1 hc.1.1.2 hc.1.2 hc.2 hv
 · rename_i t x u n y z ho
   simp only [Bool.and_eq_true, beq_iff_eq] at hc
   cases d with
   | some d => simp [eff, valOf] at he
   | none => exact runs_st h ha hd ho hc.1.1 hc.1.2 hc.2 he
 · rename_i t x f off y ho
   simp only [Bool.and_eq_true] at hc
   obtain ⟨h1, h2⟩ := hc
   split at h1
   · rename_i fs hu
     split at h1
     · rename_i fd hf
       simp only [Bool.and_eq_true, beq_iff_eq] at h1
       obtain ⟨g1, g2⟩ := h1
       split at g2
       · rename_i n hn
         simp only [bne_iff_ne] at g2
         exact val (v := .dead) rfl rfl fun v hv => gives_fad h ha ho hu hf g1 hn g2 h2 hv
       · cases g2
     · cases h1
   · cases h1
 · rename_i t x i k y j ho
   simp only [Bool.and_eq_true] at hc
   obtain ⟨⟨h1, h2⟩, h3⟩ := hc
   split at h1
   · rename_i e hu
     exact val (v := .dead) rfl rfl fun v hv => gives_iad h ha ho hu (opt_eq h1) h2 h3 hv
   · cases h1
 · rename_i t x i len k y j ho
   simp only [Bool.and_eq_true] at hc
   obtain ⟨⟨h1, h2⟩, h3⟩ := hc
   split at h1
   · rename_i n e hu
     simp only [Bool.and_eq_true, beq_iff_eq] at h1
     obtain ⟨rfl, g2⟩ := h1
     exact val (v := .dead) rfl rfl fun v hv => gives_aad h ha ho hu g2 h2 h3 hv
   · cases h1
 · rename_i t x y k bytes z x' y' ho
   simp only [Bool.and_eq_true] at hc
   obtain ⟨⟨h1, h2⟩, h3⟩ := hc
   split at h1
   · rename_i e hu
     split at h1
     · rename_i i hi
       simp only [Bool.and_eq_true, beq_iff_eq, decide_eq_true_eq] at h1
       obtain ⟨⟨⟨⟨⟨g1, g2⟩, g3⟩, g4⟩, g5⟩, g6⟩ := h1
       split at g6
       · rename_i v zd hv hz
         obtain ⟨d', rfl⟩ := some_dst rfl he
         exact runs_mk h hSlt ha hd ho hu hi hv g1 g2 g3 g4 hz (sameL_eq g6) g5 h2 h3 he
       · cases g6
     · cases h1
   · cases h1
 · rename_i t x f agg off n y ho
   simp only [Bool.and_eq_true] at hc
   obtain ⟨h1, h2⟩ := hc
   split at h1
   · rename_i fs hu
     split at h1
     · rename_i fd hf
       simp only [Bool.and_eq_true, beq_iff_eq, Bool.or_eq_true] at h1
       obtain ⟨⟨⟨g1, g2⟩, g3⟩, g4⟩ := h1
       exact val (v := .dead) rfl rfl fun v hv => gives_fld h ha ho hu hf g1 g2 g3 g4 h2 hv
     · cases h1
   · cases h1
 · rename_i t x i agg len k y j ho
   simp only [Bool.and_eq_true] at hc
   obtain ⟨⟨h1, h2⟩, h3⟩ := hc
   split at h1
   · rename_i n e hu
     simp only [Bool.and_eq_true, beq_iff_eq, Bool.or_eq_true] at h1
     obtain ⟨⟨⟨rfl, g2⟩, g3⟩, g4⟩ := h1
     exact val (v := .dead) rfl rfl fun v hv => gives_idx h ha ho hu g2 g3 g4 h2 h3 hv
   · cases h1
 · rename_i t x i y j ho
   simp only [Bool.and_eq_true] at hc
   obtain ⟨⟨h1, h2⟩, h3⟩ := hc
   split at h1
   · rename_i hu
     exact val (v := .dead) rfl rfl fun v hv => gives_sidx h ha ho hu h2 h3 hv
   · cases h1
 · rename_i op t x y u op' x' y' ho
   simp only [Bool.and_eq_true, decide_eq_true_eq] at hc
   obtain ⟨⟨rfl, h2⟩, h3⟩ := hc
   exact val (v := .dead) rfl rfl fun v hv => gives_bin h ha ho h2 h3 hv
 · rename_i op t x y u neg x' y' ho
   simp only [Bool.and_eq_true, decide_eq_true_eq] at hc
   obtain ⟨⟨⟨h1, h2⟩, h3⟩, h4⟩ := hc
   split at h2
   · rename_i hu
     exact val (v := .dead) rfl rfl fun v hv => gives_beq h ha ho h1 hu h3 h4 hv
   · cases h2
 · rename_i op t x y u neg kd x' y' ho
   simp only [Bool.and_eq_true, decide_eq_true_eq] at hc
   obtain ⟨⟨⟨h1, h2⟩, h3⟩, h4⟩ := hc
   exact val (v := .dead) rfl rfl fun v hv => gives_seqs h ha ho h1 h2 h3 h4 hv
 · rename_i t x y ho
   simp only [Bool.and_eq_true, beq_iff_eq] at hc
   exact val (v := .dead) rfl rfl fun v hv => gives_ld h ha ho hc.1.1 hc.1.2 (.inr rfl) hc.2 (lda_ld hv)
 · rename_i t x u y z ho
   simp only [Bool.and_eq_true, beq_iff_eq] at hc
   cases d with
   | some d => simp [eff, valOf] at he
   | none => exact runs_st h ha hd ho hc.1.1 hc.1.2 hc.2 (sts_st he)
 · rename_i x y ho; exact val (v := .dead) rfl rfl fun v hv => gives_nchk h ha ho hc hv
 · rename_i f first caps f' ys ho
   simp only [Bool.and_eq_true, beq_iff_eq] at hc
   obtain ⟨⟨rfl, h1⟩, h2⟩ := hc
   exact val (v := .dead) rfl rfl fun v hv => gives_mkf h ha ho (by simpa using h1) h2 hv
 · rename_i op t x op' y ho
   simp only [Bool.and_eq_true, decide_eq_true_eq] at hc
   obtain ⟨rfl, h2⟩ := hc
   exact val (v := .dead) rfl rfl fun v hv => gives_un h ha ho h2 hv
 · rename_i s t x k y ho
   simp only [Bool.and_eq_true] at hc
   obtain ⟨h1, h2⟩ := hc
   split at h1
   · rename_i k0 k' hs ht
     simp only [decide_eq_true_eq] at h1
     subst h1
     exact val (v := .dead) rfl rfl fun v hv => gives_cvt h ha ho hs ht h2 hv
   · cases h1
 · rename_i c y ho
   split at hc
   · rename_i x t g1 g2 g3
     simp only [Bool.and_eq_true] at hc
     obtain ⟨h1, h2⟩ := hc
     split at h1
     · rename_i e hu
       exact val (v := .dead) rfl rfl fun v hv => gives_len h ha ho g1 g2 g3 ⟨e, hu⟩ h2 hv
     · cases h1
   · cases hc
 · rename_i c y ho
   split at hc
   · rename_i x t g1 g2 g3
     simp only [Bool.and_eq_true] at hc
     obtain ⟨h1, h2⟩ := hc
     split at h1
     · rename_i hu
       exact val (v := .dead) rfl rfl fun v hv => gives_slen h ha ho g1 g2 g3 hu h2 hv
     · cases h1
   · cases hc
 · rename_i c mx x y ho
   split at hc
   · rename_i b u v hcal hargs
     simp only [Bool.and_eq_true] at hc
     obtain ⟨⟨h1, h2⟩, h3⟩ := hc
     have hb : b = (if mx = true then .max else .min) := by
      split at h1
      · rfl
      · rfl
      · cases h1
     exact val (v := .dead) rfl rfl fun v hv => gives_mm h ha ho (by rw [hcal, hb]) hargs h2 h3 hv
   · cases hc
 · rename_i c k bytes x y ho
   split at hc
   · rename_i u v t t' g1 g2 g3
     simp only [Bool.and_eq_true, beq_iff_eq] at hc
     obtain ⟨⟨⟨rfl, h1⟩, h2⟩, h3⟩ := hc
     split at h1
     · rename_i e hu
       split at h1
       · rename_i i hi
         simp only [Bool.and_eq_true, beq_iff_eq, decide_eq_true_eq] at h1
         obtain ⟨⟨⟨k1, k2⟩, k3⟩, k4⟩ := h1
         split at k4
         · rename_i z hz
           simp only [beq_iff_eq] at k4
           obtain ⟨d', rfl⟩ := some_dst rfl he
           exact runs_app h hSlt ha hd ho g1 (arr2 g2) (arr2 g3) hu hi k1 k2 k3 hz k4 h2 h3 he
         · cases k4
       · cases h1
     · cases h1
   · cases hc
 · rename_i t x lo hi mx k fr y lo' hi' mx' ho
   simp only [Bool.and_eq_true, Bool.or_eq_true, Option.isNone_iff_eq_none] at hc
   obtain ⟨⟨⟨⟨⟨⟨rfl, h1⟩, h2⟩, h3⟩, h4⟩, h5⟩, h6⟩ := hc
   split at h1
   · rename_i e hu
     obtain ⟨d', rfl⟩ := some_dst rfl he
     exact runs_slc h ha hd ho hu (opt_eq h1) h3 h4 h5 h6 (h2.imp id (by intro q hq; simp [hq] at q)) he
   · cases h1
 · rename_i x i y j ho
   simp only [Bool.and_eq_true, decide_eq_true_eq] at hc
   obtain ⟨rfl, h2⟩ := hc
   exact val (v := .dead) rfl rfl fun v hv => gives_ext h ha ho h2 hv
 · cases d <;> simp [eff, valOf] at he
 · cases hc
end Go.Abs
namespace Go.Abs
variable {w w' : World} {S S' : Nat → Prop} {G : Gi} {δ : Nat → DV} {Fr : Nat → Nat → Prop} {P : Program}
def Rel (G : Gi) (n : Nat) (w0 : World) (S0 U0 : Nat → Prop) (a : Act) (w : World) (σ : Sg) : Prop :=
 ∃ (S : Nat → Prop) (δ : Nat → DV) (F : Nat → Nat → Prop), a.tmps.size = n ∧ a.defers = [] ∧ Rd δ a ∧ (fun s => (δ s).er) = σ ∧ St G w S δ F ∧ Nx w0 S0 U0 w S (Owned F) ∧ (∀ b, S b → b < w.heap.size)
def GIn (w0 : World) (S0 U0 : Nat → Prop) : Prop := GI w0 S0 ∧ ∀ b, S0 b → ¬ U0 b ∧ b < w0.heap.size
theorem GI.mono (h : GI w S) (hS : ∀ b, S b → S' b) : GI w S' := fun x hx => ⟨hS _ (h x hx).1, (h x hx).2⟩
theorem GIn.now {w0 : World} {S0 U0 U : Nat → Prop} (hG : GIn w0 S0 U0) (hnx : Nx w0 S0 U0 w S U) : GI w S := by
 intro x hx
 obtain ⟨h1, arr, E, fz, h2, h3⟩ := hG.1 x hx
 obtain ⟨h4, h5⟩ := hG.2 _ h1
 exact ⟨hnx.sub _ h1, arr, E, fz, by rw [hnx.block _ h5 h4]; exact h2, h3⟩
theorem rdV_sound (h : St G w S δ Fr) {d : DV} {F : Nat → Prop} (hd : Ok w S d F) (hF : ∀ x, F x → Owned Fr x) (hal : AlOK δ d) {a : AV} (hr : rdV (fun s => (δ s).er) d.er = some a) :
 ∃ D, D.er = a ∧ D.ann = d.ann ∧ Ok w (fun x => S x ∨ Owned Fr x) D (fun _ => False) := by
 have leafcase : ∀ (b : AV) (v : Value), Fz w (fun x => S x ∨ Owned Fr x) b v → leafy b = true → (∀ cs, b ≠ .fp cs) → (b ≠ .un) → ∃ D : DV, D.er = b ∧ D.ann = v ∧ Ok w (fun x => S x ∨ Owned Fr x) D (fun _ => False) := by
  intro b v hf hl hfp hun
  refine ⟨.lf b v, by simp, by simp, .lf _ _ _ ?_ (fun _ h => h)⟩
  cases b with
  | sc u => cases hf with | sc _ hp => exact ⟨rfl, hp⟩
  | sl => exact hf
  | dead => trivial
  | cl => trivial
  | vb => cases hf
  | fcl => cases hf
  | al => trivial
  | adr => trivial
  | fp cs => exact absurd rfl (hfp cs)
  | un => exact absurd rfl hun
  | own => simp [leafy] at hl
  | agg => simp [leafy] at hl
  | tup => simp [leafy] at hl
 have boxcase : ∀ {D : DV} {F' : Nat → Prop} {k : Nat} {row : List AV}, Ok w S D F' → (∀ x, F' x → Owned Fr x) → D.er = .own true k [row] → ∃ D', D'.er = .fp (row.map frz) ∧ D'.ann = D.ann ∧ Ok w (fun x => S x ∨ Owned Fr x) D' (fun _ => False) := by
  intro D F' k row hok hown hDe
  refine ⟨.lf (.fp (row.map frz)) D.ann, by simp, by simp, .lf _ _ _ ?_ (fun _ h => h)⟩
  cases hok with
  | lf b v _ ha _ => simp only [er_lf] at hDe; subst hDe; exact ha.elim
  | nil => simp at hDe
  | agg => simp at hDe
  | tup => simp at hDe
  | own bx k' rows b c arr E Fs _ hb hk hcap hSb hv hr' hdd hval hbF hFF =>
   simp only [er_own, AV.own.injEq] at hDe
   obtain ⟨rfl, rfl, hrow⟩ := hDe
   refine ⟨b, 0, by simp [hdr], .inr (hown b ((hFF b).2 (.inl rfl))), fun j a hj => ?_⟩
   match rows, hrow with
   | [rowD], hrow =>
    simp only [List.map_cons, List.map_nil, List.cons.injEq, and_true] at hrow
    subst hrow
    simp only [List.map_map, List.getElem?_map] at hj
    cases hjd : rowD[j]? with
    | none => simp [hjd] at hj
    | some d =>
     simp only [hjd, Option.map_some, Option.some.injEq, Function.comp] at hj
     subst hj
     refine ⟨d.ann, ?_, ?_⟩
     · have := hv 0 j rowD d rfl hjd
       simp only [World.cell?, hb]
       simpa using this
     · exact (hr' 0 j rowD d rfl hjd).freeze.mono (fun _ _ => rfl) (fun x hx => hx.imp id (fun hf => hown x ((hFF x).2 (.inr ⟨0, j, hf⟩))))
 cases hd with
 | lf b v _ ha hFF =>
  simp only [er_lf] at hr
  cases b with
  | sc u => simp only [rdV, Option.some.injEq] at hr; subst hr; obtain ⟨rfl, hp⟩ := ha; exact leafcase _ _ (.sc _ hp) rfl (by simp) (by simp)
  | sl e k rows =>
   simp only [rdV, Option.some.injEq] at hr
   subst hr
   have hf : Fz w (fun x => S x ∨ Owned Fr x) (.sl false k rows) v := by
    have hf' : Fz w (fun x => S x ∨ Owned Fr x) (.sl e k rows) v := Fz.mono ha (fun _ _ => rfl) (fun _ h => .inl h)
    cases hf' with
    | nil x k a c hx => exact .nil _ _ _ _ (by simp)
    | sl x k rows b off c vs hx hlc hS hk hc hr => exact .sl _ _ _ b off c vs (by simp) hlc hS hk hc hr
   exact leafcase _ _ hf rfl (by simp) (by simp)
  | al r p =>
   simp only [rdV] at hr
   split at hr
   · rename_i k rows hn
     simp only [Option.some.injEq] at hr
     cases hal with
     | lf _ _ hl =>
      obtain ⟨bx, k', rows', hl⟩ := hl
      obtain ⟨D, hD, hDe⟩ := subD_of_sub (h.ok r).lfy hn
      rw [hl] at hD
      obtain rfl := Option.some.inj hD
      obtain ⟨F', hok, hsub⟩ := (h.ok r).subD hl
      have hfz := hok.freeze
      rw [hDe, hr] at hfz
      subst hr
      simp only [frz_vec] at hfz ⊢
      exact leafcase _ _ (hfz.mono (fun _ _ => rfl) (fun x hx => hx.imp id (fun hf => ⟨r, hsub x hf⟩))) rfl (by simp) (by simp)
   · rename_i k row hn
     simp only [Option.some.injEq] at hr
     cases hal with
     | lf _ _ hl =>
      obtain ⟨bx, k', rows', hl⟩ := hl
      obtain ⟨D, hD, hDe⟩ := subD_of_sub (h.ok r).lfy hn
      rw [hl] at hD
      obtain rfl := Option.some.inj hD
      obtain ⟨F', hok, hsub⟩ := (h.ok r).subD hl
      subst hr
      obtain ⟨D', q1, q2, q3⟩ := boxcase hok (fun x hx => ⟨r, hsub x hx⟩) hDe
      exact ⟨D', q1, by simpa using q2, q3⟩
   · cases hr
  | own => exact ha.elim
  | fp cs =>
   simp only [rdV, Option.some.injEq] at hr
   subst hr
   exact ⟨.lf (.fp cs) v, by simp, by simp, .lf _ _ _ (LeafOK.mono (a := .fp cs) ha (fun _ _ => rfl) (fun _ h => .inl h)) (fun _ h => h)⟩
  | _ => simp [rdV] at hr
 | nil k _ hFF =>
  simp only [er_own, List.map_nil, rdV, Option.some.injEq] at hr
  subst hr
  simp only [frz_vec, List.map_nil]
  exact leafcase _ _ (.nil false k none 0 (by simp)) rfl (by simp) (by simp)
 | own bx k rows b c arr E Fs _ hb hk hcap hSb hv hr' hdd hval hbF hFF =>
  have hok := Ok.own bx k rows b c arr E Fs F hb hk hcap hSb hv hr' hdd hval hbF hFF
  have hfz := hok.freeze
  cases bx with
  | true =>
   simp only [er_own] at hr
   match rows, hr, hok with
   | [row], hr, hok =>
    simp only [List.map_cons, List.map_nil, rdV, Option.some.injEq] at hr
    subst hr
    exact boxcase (k := k) hok hF (by simp)
   | [], hr, _ => simp [rdV] at hr
   | _ :: _ :: _, hr, _ => simp [rdV] at hr
  | false =>
   simp only [er_own, rdV, Option.some.injEq] at hr
   rw [er_own, hr] at hfz
   subst hr
   simp only [frz_vec] at hfz ⊢
   exact leafcase _ _ (hfz.mono (fun _ _ => rfl) (fun x hx => hx.imp id (hF x))) rfl (by simp) (by simp)
 | agg => simp [rdV] at hr
 | tup => simp [rdV] at hr
theorem rdL_sound (h : St G w S δ Fr) (ds : List DV) : ∀ {l : List AV}, (∀ d ∈ ds, ∃ F, Ok w S d F ∧ ∀ x, F x → Owned Fr x) → (∀ d ∈ ds, AlOK δ d) → rdL (fun s => (δ s).er) (ds.map DV.er) = some l →
 ∃ Ds : List DV, Ds.map DV.er = l ∧ Ds.map DV.ann = ds.map DV.ann ∧ ∀ D ∈ Ds, Ok w (fun x => S x ∨ Owned Fr x) D (fun _ => False) := by
 induction ds with
 | nil => intro l _ _ hr; simp only [List.map_nil, rdL, Option.some.injEq] at hr; subst hr; exact ⟨[], rfl, rfl, by simp⟩
 | cons d ds ih =>
  intro l hok hal hr
  simp only [List.map_cons, rdL] at hr
  split at hr
  · rename_i x l' h1 h2
    simp only [Option.some.injEq] at hr
    subst hr
    obtain ⟨F, g1, g2⟩ := hok d (by simp)
    obtain ⟨D, k1, k2, k3⟩ := rdV_sound h g1 g2 (hal d (by simp)) h1
    obtain ⟨Ds, m1, m2, m3⟩ := ih (fun e he => hok e (by simp [he])) (fun e he => hal e (by simp [he])) h2
    refine ⟨D :: Ds, by simp [k1, m1], by simp [k2, m2], ?_⟩
    intro e he
    simp only [List.mem_cons] at he
    rcases he with rfl | he
    · exact k3
    · exact m3 e he
  · cases hr
theorem rdA_sound (h : St G w S δ Fr) {d : DV} {F : Nat → Prop} (hd : Ok w S d F) (hF : ∀ x, F x → Owned Fr x) (hal : AlOK δ d) {a : AV} (hr : rdA (fun s => (δ s).er) d.er = some a) :
 ∃ D, D.er = a ∧ D.ann = d.ann ∧ Ok w (fun x => S x ∨ Owned Fr x) D (fun _ => False) := by
 cases hde : d.er with
 | agg cs =>
  obtain ⟨ds, rfl⟩ : ∃ ds, d = .agg ds := by
   have := hd.lfy
   cases d with
   | agg ds => exact ⟨ds, rfl⟩
   | lf c v => cases this with | lf _ _ hl => simp at hde; subst hde; simp [leafy] at hl
   | own => simp at hde
   | tup => simp at hde
  simp only [er_agg, rdA] at hr
  split at hr
  · rename_i l hl
    simp only [Option.some.injEq] at hr
    subst hr
    cases hd with
    | agg _ Fs _ h1 h2 h3 h4 =>
     cases hal with
     | agg _ hal =>
      obtain ⟨Ds, m1, m2, m3⟩ := rdL_sound h ds (fun e he => by obtain ⟨i, hi⟩ := List.getElem?_of_mem he; exact ⟨Fs i, h1 i e hi, fun x hx => hF x ((h4 x).2 ⟨i, hx⟩)⟩) (fun e he => by obtain ⟨i, hi⟩ := List.getElem?_of_mem he; exact hal i e hi) hl
      exact ⟨.agg Ds, by simp [m1], by simp [m2], Ok_agg_iff.2 (OkL_empty m3)⟩
  · cases hr
 | al r p => rw [hde] at hr; simp only [rdA] at hr; rw [← hde] at hr; exact rdV_sound h hd hF hal hr
 | own b k rows => rw [hde] at hr; simp only [rdA] at hr; rw [← hde] at hr; exact rdV_sound h hd hF hal hr
 | sc v => rw [hde] at hr; simp only [rdA] at hr; rw [← hde] at hr; exact rdV_sound h hd hF hal hr
 | sl e k rows => rw [hde] at hr; simp only [rdA] at hr; rw [← hde] at hr; exact rdV_sound h hd hF hal hr
 | fp cs => rw [hde] at hr; simp only [rdA] at hr; rw [← hde] at hr; exact rdV_sound h hd hF hal hr
 | _ => simp [hde, rdA] at hr
theorem rdArgs_sound (h : St G w S δ Fr) {a : Act} (ha : Rd δ a) (ys : List Ar) : ∀ {xs : List Operand} {as : List AV}, chkL xs ys = true → rdArgs (fun s => (δ s).er) ys = some as →
 ∃ Ds : List DV, Ds.map DV.er = as ∧ Ds.map DV.ann = xs.map a.eval ∧ ∀ D ∈ Ds, Ok w (fun x => S x ∨ Owned Fr x) D (fun _ => False) := by
 induction ys with
 | nil =>
  intro xs as hc hr
  cases xs with
  | cons => simp [chkL] at hc
  | nil => simp only [rdArgs, Option.some.injEq] at hr; subst hr; exact ⟨[], rfl, rfl, by simp⟩
 | cons y ys ih =>
  intro xs as hc hr
  cases xs with
  | nil => simp [chkL] at hc
  | cons x xs =>
   simp only [chkL, Bool.and_eq_true] at hc
   obtain ⟨hy, hev⟩ := chkA_sound hc.1 ha
   simp only [rdArgs] at hr
   split at hr
   · rename_i b l h1 h2
     simp only [Option.some.injEq] at hr
     subst hr
     obtain ⟨D, k1, k2, k3⟩ : ∃ D, D.er = b ∧ D.ann = argv δ y ∧ Ok w (fun x => S x ∨ Owned Fr x) D (fun _ => False) := by
      cases y with
      | t s => exact rdA_sound h (h.ok s) (fun x hx => ⟨s, hx⟩) (h.al s) h1
      | c c =>
       obtain ⟨D0, hD0⟩ := hy
       obtain ⟨e1, e2, e3, _⟩ := cst_facts (w := w) (S := S) (δ := δ) c D0 hD0
       simp only [ar] at h1
       rw [← e1] at h1
       obtain ⟨D, k1, k2, k3⟩ := rdA_sound h e2 (fun _ h => h.elim) e3 h1
       exact ⟨D, k1, by rw [k2]; simp [argv, hD0], k3⟩
     obtain ⟨Ds, m1, m2, m3⟩ := ih hc.2 h2
     refine ⟨D :: Ds, by simp [k1, m1], by simp [k2, m2, hev], ?_⟩
     intro e he
     simp only [List.mem_cons] at he
     rcases he with rfl | he
     · exact k3
     · exact m3 e he
   · cases hr
theorem frozenTree {d : DV} {F : Nat → Prop} (h : Ok w S d F) : ∃ D, D.er = frz d.er ∧ D.ann = d.ann ∧ Ok w (fun x => S x ∨ F x) D (fun _ => False) ∧ AlOK δ D := by
 induction h with
 | lf a v F ha hF =>
  have hl := ha.leafy
  cases a with
  | sc u => exact ⟨.lf (.sc u) v, by simp, by simp, .lf _ _ _ ha (fun _ h => h), .lf _ _ trivial⟩
  | sl e k rows => exact ⟨.lf (.sl e k rows) v, by simp, by simp, .lf _ _ _ (Fz.mono ha (fun _ _ => rfl) (fun _ h => .inl h)) (fun _ h => h), .lf _ _ trivial⟩
  | own => exact ha.elim
  | agg => exact ha.elim
  | tup => exact ha.elim
  | _ => exact ⟨.lf .dead v, by simp [frz], by simp, .lf _ _ _ trivial (fun _ h => h), .lf _ _ trivial⟩
 | nil k F hF => exact ⟨.lf (.sl false k []) (.slice none 0 0), by simp, by simp, .lf _ _ _ (Fz.nil false k none 0 (by simp)) (fun _ h => h), .lf _ _ trivial⟩
 | own bx k rows b c arr E Fs F hb hk hcap hSb hv hr hd hval hbF hF ih =>
  have hfz := (Ok.own bx k rows b c arr E Fs F hb hk hcap hSb hv hr hd hval hbF hF).freeze
  cases bx with
  | true => exact ⟨.lf .dead (hdr true b rows.length c), by simp, by simp, .lf _ _ _ trivial (fun _ h => h), .lf _ _ trivial⟩
  | false =>
   simp only [er_own, frz_vec, ann_own] at hfz ⊢
   exact ⟨.lf (.sl false k (List.map (fun (x : List AV) => List.map frz x) (List.map (fun (x : List DV) => List.map DV.er x) rows))) (hdr false b rows.length c), by rw [er_lf], by simp, .lf _ _ _ hfz (fun _ h => h), .lf _ _ trivial⟩
 | agg cs Fs F hr hd hval hF ih =>
  obtain ⟨Ds, hl, hDs⟩ := mkList cs (fun i d D => D.er = frz d.er ∧ D.ann = d.ann ∧ Ok w (fun x => S x ∨ F x) D (fun _ => False) ∧ AlOK δ D) (by
   intro i d hdi
   obtain ⟨D, h1, h2, h3, h4⟩ := ih i d hdi
   exact ⟨D, h1, h2, h3.mono (fun _ _ => rfl) (fun _ _ => rfl) (fun x hx => hx.imp id (fun h => (hF x).2 ⟨i, h⟩)) (fun _ h => h.elim), h4⟩)
  refine ⟨.agg Ds, ?_, ?_, Ok_agg_iff.2 (OkL_empty fun D hD => ?_), .agg _ fun i D hD => ?_⟩
  · simp only [er_agg, frz_agg, AV.agg.injEq, List.map_map]
    exact map_mk hl hDs _ _ (by simp) fun i c D hΦ hc => by simp [hc, hΦ.1]
  · simp only [ann_agg]; congr 2
    exact map_mk hl hDs _ _ (by simp) fun i c D hΦ hc => by simp [hc, hΦ.2.1]
  · obtain ⟨i, hi⟩ := List.getElem?_of_mem hD; obtain ⟨c, _, hΦ⟩ := mem_mk hl hDs i D hi; exact hΦ.2.2.1
  · obtain ⟨c, _, hΦ⟩ := mem_mk hl hDs i D hD; exact hΦ.2.2.2
 | tup cs Fs F hr hd hval hF ih =>
  obtain ⟨Ds, hl, hDs⟩ := mkList cs (fun i d D => D.er = frz d.er ∧ D.ann = d.ann ∧ Ok w (fun x => S x ∨ F x) D (fun _ => False) ∧ AlOK δ D) (by
   intro i d hdi
   obtain ⟨D, h1, h2, h3, h4⟩ := ih i d hdi
   exact ⟨D, h1, h2, h3.mono (fun _ _ => rfl) (fun _ _ => rfl) (fun x hx => hx.imp id (fun h => (hF x).2 ⟨i, h⟩)) (fun _ h => h.elim), h4⟩)
  refine ⟨.tup Ds, ?_, ?_, Ok_tup_iff.2 (OkL_empty fun D hD => ?_), .tup _ fun i D hD => ?_⟩
  · simp only [er_tup, frz_tup, AV.tup.injEq, List.map_map]
    exact map_mk hl hDs _ _ (by simp) fun i c D hΦ hc => by simp [hc, hΦ.1]
  · simp only [ann_tup]; congr 2
    exact map_mk hl hDs _ _ (by simp) fun i c D hΦ hc => by simp [hc, hΦ.2.1]
  · obtain ⟨i, hi⟩ := List.getElem?_of_mem hD; obtain ⟨c, _, hΦ⟩ := mem_mk hl hDs i D hi; exact hΦ.2.2.1
  · obtain ⟨c, _, hΦ⟩ := mem_mk hl hDs i D hD; exact hΦ.2.2.2
theorem freshL_all (l : List AV) : freshL l = l.all fresh := by
 induction l with
 | nil => rfl
 | cons a l ih => simp [freshL, ih]
theorem freshR_all (l : List (List AV)) : freshR l = l.all (·.all fresh) := by
 induction l with
 | nil => rfl
 | cons a l ih => simp [freshR, freshL_all, ih]
@[simp] theorem fresh_sc (v : Value) : fresh (.sc v) = true := by simp [fresh]
@[simp] theorem fresh_own (b : Bool) (k : Nat) (rows : List (List AV)) : fresh (.own b k rows) = rows.all (·.all fresh) := by simp [fresh, freshR_all]
@[simp] theorem fresh_agg (cs : List AV) : fresh (.agg cs) = cs.all fresh := by simp [fresh, freshL_all]
@[simp] theorem fresh_tup (cs : List AV) : fresh (.tup cs) = cs.all fresh := by simp [fresh, freshL_all]
theorem fresh_ok {d : DV} {F : Nat → Prop} (h : Ok w S d F) : fresh d.er = true → (∀ x, F x → ¬ S' x) → Ok w S' d F := by
 induction h with
 | lf a v F ha hF =>
  intro hf hn
  simp only [er_lf] at hf
  cases a with
  | sc u => exact .lf _ _ _ ha hF
  | own => exact ha.elim
  | agg => exact ha.elim
  | tup => exact ha.elim
  | _ => simp [fresh] at hf
 | nil k F hF => intro _ _; exact .nil k F hF
 | own bx k rows b c arr E Fs F hb hk hcap hSb hv hr hd hval hbF hF ih =>
  intro hf hn
  simp only [er_own, fresh_own, List.all_map, List.all_eq_true] at hf
  refine .own bx k rows b c arr E Fs F hb hk hcap (hn b ((hF b).2 (.inl rfl))) hv (fun i j row d h1 h2 => ih i j row d h1 h2 ?_ ?_) hd hval hbF hF
  · have := hf row (List.mem_of_getElem? h1)
    simp only [Function.comp, List.all_map, List.all_eq_true] at this
    exact this d (List.mem_of_getElem? h2)
  · exact fun x hx => hn x ((hF x).2 (.inr ⟨i, j, hx⟩))
 | agg cs Fs F hr hd hval hF ih =>
  intro hf hn
  simp only [er_agg, fresh_agg, List.all_map, List.all_eq_true] at hf
  exact .agg cs Fs F (fun i d h1 => ih i d h1 (hf d (List.mem_of_getElem? h1)) (fun x hx => hn x ((hF x).2 ⟨i, hx⟩))) hd hval hF
 | tup cs Fs F hr hd hval hF ih =>
  intro hf hn
  simp only [er_tup, fresh_tup, List.all_map, List.all_eq_true] at hf
  exact .tup cs Fs F (fun i d h1 => ih i d h1 (hf d (List.mem_of_getElem? h1)) (fun x hx => hn x ((hF x).2 ⟨i, hx⟩))) hd hval hF
theorem flat_fresh {a : AV} (h : flatA a = true) : fresh a = true := by
 cases a with
 | sc => simp
 | agg cs =>
  simp only [flatA, List.all_eq_true] at h
  simp only [fresh_agg, List.all_eq_true]
  intro c hc
  have := h c hc
  cases c <;> simp_all
 | tup cs =>
  simp only [flatA, List.all_eq_true] at h
  simp only [fresh_tup, List.all_eq_true]
  intro c hc
  have := h c hc
  cases c <;> simp_all
 | _ => simp [flatA] at h
theorem fresh_al {d : DV} {F : Nat → Prop} (h : Ok w S d F) : fresh d.er = true → AlOK δ d := by
 induction h with
 | lf a v F ha hF =>
  intro hf
  simp only [er_lf] at hf
  refine .lf a v ?_
  cases a <;> simp_all [fresh, AlLeaf]
 | nil => intro _; exact .own _ _ _ _
 | own => intro _; exact .own _ _ _ _
 | agg cs Fs F hr hd hval hF ih =>
  intro hf
  simp only [er_agg, fresh_agg, List.all_map, List.all_eq_true] at hf
  exact .agg cs fun i d h1 => ih i d h1 (hf d (List.mem_of_getElem? h1))
 | tup cs Fs F hr hd hval hF ih =>
  intro hf
  simp only [er_tup, fresh_tup, List.all_map, List.all_eq_true] at hf
  exact .tup cs fun i d h1 => ih i d h1 (hf d (List.mem_of_getElem? h1))
theorem run_call {a : Act} {o : Oper} {c : Call} {f : Nat} {fn : Func} (ho : o.op = .call c) (hc : c.callee = .value (.func f)) (hf : P.funcs[f]? = some fn) (hb : fn.body.isSome = true) (hn : (fn.name != "runtime.NumGoroutine") = true) :
 (execOp a.eval o).run P w = .ok (.enter f (c.args.toList.map a.eval).toArray) w := by
 have hbn : fn.body.isNone = false := by cases h : fn.body <;> simp_all
 have hnm : (fn.name == "runtime.NumGoroutine") = false := by simpa using hn
 have harr : c.args.map a.eval = (c.args.toList.map a.eval).toArray := by apply Array.ext'; simp
 simp only [execOp, ho, resolve, hc, Act.eval, Deferred.ofValue, Sem.run_bind, Sem.run_pure, Result.andThen_ok, invoke, callFunc, harr]
 have hp : (program).run P w = .ok P w := rfl
 rw [hp]
 simp only [Result.andThen_ok, hf, hnm, hbn, Bool.false_eq_true, if_false, Sem.run_pure]
 simp
def chkCall (P : Program) : Op → Nat → List Ar → Nat → Bool
 | .call c, f, args, m => (match c.callee with
  | .value (.func g) => f == g && (match P.funcs[f]? with | some fn => fn.body.isSome && fn.name != "runtime.NumGoroutine" | none => false) && decide (m < 5) && chkL c.args.toList args
  | _ => false)
 | _, _, _, _ => false
theorem fzn_tree {d : DV} {F : Nat → Prop} (h : Ok w S d F) : ∃ D, D.er = fzn d.er ∧ D.ann = d.ann ∧ Ok w (fun x => S x ∨ F x) D (fun _ => False) := by
 have leaf : ∀ {e : DV} {F1 : Nat → Prop}, Ok w S e F1 → (∀ x, F1 x → F x) → ∃ D : DV, D.er = fzl e.er ∧ D.ann = e.ann ∧ Ok w (fun x => S x ∨ F x) D (fun _ => False) := by
  intro e F1 he hsub
  obtain ⟨D, h1, h2, h3, _⟩ := frozenTree (δ := fun _ => default) he
  have h3' : Ok w (fun x => S x ∨ F x) D (fun _ => False) := h3.mono (fun _ _ => rfl) (fun _ _ => rfl) (fun x hx => hx.imp id (hsub x)) (fun _ h => h.elim)
  cases hee : e.er with
  | sl ee k rows =>
   rw [hee] at h1
   simp only [frz_sl] at h1
   refine ⟨.lf (.sl false k rows) D.ann, by simp [fzl], by simpa using h2, .lf _ _ _ ?_ (fun _ h => h)⟩
   cases h3' with
   | lf a v _ ha _ =>
    simp only [er_lf] at h1
    subst h1
    simp only [ann_lf]
    have hf : Fz w (fun x => S x ∨ F x) (.sl ee k rows) v := ha
    cases hf with
    | nil x k a c hx => exact Fz.nil _ _ _ _ (by simp)
    | sl x k rows b off c vs hx hlc hS hk hc hr => exact Fz.sl _ _ _ b off c vs (by simp) hlc hS hk hc hr
   | nil => simp at h1
   | own => simp at h1
   | agg => simp at h1
   | tup => simp at h1
  | _ => rw [hee] at h1; exact ⟨D, by rw [h1]; simp only [fzl], h2, h3'⟩
 cases hde : d.er with
 | agg cs =>
  obtain ⟨ds, rfl⟩ : ∃ ds, d = .agg ds := by
   have := h.lfy
   cases d with
   | agg ds => exact ⟨ds, rfl⟩
   | lf c v => cases this with | lf _ _ hl => simp at hde; subst hde; simp [leafy] at hl
   | own => simp at hde
   | tup => simp at hde
  simp only [er_agg, AV.agg.injEq] at hde
  subst hde
  cases h with
  | agg _ Fs _ h1 h2 h3 h4 =>
   obtain ⟨Ds, hl, hDs⟩ := mkList ds (fun i d D => D.er = fzl d.er ∧ D.ann = d.ann ∧ Ok w (fun x => S x ∨ F x) D (fun _ => False)) (fun i d hd => leaf (h1 i d hd) (fun x hx => (h4 x).2 ⟨i, hx⟩))
   refine ⟨.agg Ds, ?_, ?_, Ok_agg_iff.2 (OkL_empty fun D hD => ?_)⟩
   · simp only [er_agg, fzn, AV.agg.injEq, List.map_map]
     exact map_mk hl hDs _ _ (by simp) fun i c D hΦ hc => by simp only [List.getElem?_map, hc, Option.map_some, Function.comp, hΦ.1]
   · simp only [ann_agg]; congr 2
     exact map_mk hl hDs _ _ (by simp) fun i c D hΦ hc => by simp [hc, hΦ.2.1]
   · obtain ⟨i, hi⟩ := List.getElem?_of_mem hD; obtain ⟨c, _, hΦ⟩ := mem_mk hl hDs i D hi; exact hΦ.2.2
 | _ =>
  obtain ⟨D, h1, h2, h3⟩ := leaf h (fun _ h => h)
  refine ⟨D, ?_, h2, h3⟩
  rw [h1]
  simp only [hde, fzn]
theorem tkArgs_sound {a : Act} (ys : List Ar) : ∀ {xs : List Operand} {δ : Nat → DV} {Fr : Nat → Nat → Prop} {as : List AV} {τ : Sg}, St G w S δ Fr → Rd δ a → chkL xs ys = true → tkArgs G ys (fun s => (δ s).er) = some (as, τ) →
 ∃ (δ' : Nat → DV) (F' : Nat → Nat → Prop) (Ds : List DV) (Fd : Nat → Prop), St G w S δ' F' ∧ (fun s => (δ' s).er) = τ ∧ (∀ s, (δ' s).ann = (δ s).ann) ∧ Ds.map DV.er = as ∧ Ds.map DV.ann = xs.map a.eval ∧ (∀ D ∈ Ds, Ok w (fun x => S x ∨ Fd x) D (fun _ => False)) ∧
  (∀ s x, F' s x → ¬ Fd x) ∧ (∀ x, Owned F' x ∨ Fd x → Owned Fr x) := by
 induction ys with
 | nil =>
  intro xs δ Fr as τ h ha hc ht
  cases xs with
  | cons => simp [chkL] at hc
  | nil =>
   simp only [tkArgs, Option.some.injEq, Prod.mk.injEq] at ht
   obtain ⟨rfl, rfl⟩ := ht
   exact ⟨δ, Fr, [], fun _ => False, h, rfl, fun _ => rfl, rfl, rfl, by simp, fun _ _ _ h => h, fun x hx => hx.elim id False.elim⟩
 | cons y ys ih =>
  intro xs δ Fr as τ h ha hc ht
  cases xs with
  | nil => simp [chkL] at hc
  | cons x xs =>
   simp only [chkL, Bool.and_eq_true] at hc
   obtain ⟨hy, hev⟩ := chkA_sound hc.1 ha
   simp only [tkArgs] at ht
   split at ht
   · rename_i v τ1 ht1
     split at ht
     · rename_i l τ2 ht2
       simp only [Option.some.injEq, Prod.mk.injEq] at ht
       obtain ⟨rfl, rfl⟩ := ht
       obtain ⟨δ1, F1, D, Ff, hfl, her, hDe, hDa⟩ := h.tk hy ht1
       subst her
       subst hDe
       obtain ⟨D', k1, k2, k3⟩ := fzn_tree hfl.ok
       obtain ⟨δ2, F2, Ds, Fd, m1, m2, m3, m4, m5, m6, m7, m8⟩ := ih hfl.st (fun s => (ha s).trans (hfl.ann s).symm) hc.2 ht2
       refine ⟨δ2, F2, D' :: Ds, fun x => Ff x ∨ Fd x, m1, m2, fun s => (m3 s).trans (hfl.ann s), by simp [k1, m4], by simp [k2, m5, hDa, hev], ?_, ?_, ?_⟩
       · intro e he
         simp only [List.mem_cons] at he
         rcases he with rfl | he
         · exact k3.mono (fun _ _ => rfl) (fun _ _ => rfl) (fun x hx => hx.imp id .inl) (fun _ h => h.elim)
         · exact (m6 e he).mono (fun _ _ => rfl) (fun _ _ => rfl) (fun x hx => hx.imp id .inr) (fun _ h => h.elim)
       · rintro s x hx (h1 | h1)
         · obtain ⟨t, ht⟩ := m8 x (.inl ⟨s, hx⟩)
           exact hfl.dis t x ht h1
         · exact m7 s x hx h1
       · rintro x (hx | hx | hx)
         · exact hfl.own x (.inl (m8 x (.inl hx)))
         · exact hfl.own x (.inr hx)
         · exact hfl.own x (.inl (m8 x (.inr hx)))
     · cases ht
   · cases ht
theorem chkCall_spec {op : Op} {f m : Nat} {args : List Ar} (h : chkCall P op f args m = true) : ∃ c fn, op = .call c ∧ c.callee = .value (.func f) ∧ P.funcs[f]? = some fn ∧ fn.body.isSome = true ∧ (fn.name != "runtime.NumGoroutine") = true ∧ m < 5 ∧ chkL c.args.toList args = true := by
 cases op with
 | call c =>
  simp only [chkCall] at h
  split at h
  · rename_i g hcal
    simp only [Bool.and_eq_true, beq_iff_eq, decide_eq_true_eq] at h
    obtain ⟨⟨⟨rfl, hfn⟩, hm3⟩, hcl⟩ := h
    split at hfn
    · rename_i fn hf
      simp only [Bool.and_eq_true] at hfn
      exact ⟨c, fn, rfl, hcal, hf, hfn.1, hfn.2, hm3, hcl⟩
    · cases hfn
  · cases h
 | _ => simp [chkCall] at h
theorem call_end {n : Nat} {w0 : World} {S0 U0 S1 S2 : Nat → Prop} {a : Act} {o : Oper} {dst : Option Dst} {δ1 : Nat → DV} {F1 : Nat → Nat → Prop} {D : DV} {FD : Nat → Prop} {v : AV} {K : Sg → Prop} (hst : St G w S1 δ1 F1) (hn : a.tmps.size = n) (hdef : a.defers = []) (ha : Rd δ1 a) (hd : DstOK G a o dst) (hDe : D.er = v)
 (hw : ∀ b, b < w.heap.size → w'.heap[b]? = w.heap[b]?) (hSlt : ∀ b, S1 b → b < w.heap.size) (hSS : ∀ b, S1 b → S2 b) (hS2 : ∀ b, S2 b → S1 b ∨ w.heap.size ≤ b) (hS2lt : ∀ b, S2 b → b < w'.heap.size) (hD : Ok w' S2 D FD) (hFD : ∀ x, FD x → w.heap.size ≤ x) (hal : AlOK δ1 D)
 (hnx : Nx w0 S0 U0 w S1 (Owned F1)) (hos : w'.os = w.os) (htp : w'.tape = w.tape) (hou : w'.output = w.output) (hsz : w.heap.size ≤ w'.heap.size)
 (hK : toDst dst v K (fun s => (δ1 s).er)) : ∃ σ', Rel G n w0 S0 U0 (a.put o.dst D.ann) w' σ' ∧ K σ' := by
 have hf : ∀ s x, F1 s x → w'.heap[x]? = w.heap[x]? := fun s x hx => hw x ((hst.ok s).lt x hx)
 have hfS : ∀ s x, F1 s x → ¬ S2 x := by
  intro s x hx h2
  have hlt := (hst.ok s).lt x hx
  rcases hS2 x h2 with h3 | h3
  · exact (hst.ok s).notS x hx h3
  · omega
 have hdis : ∀ s x, F1 s x → ¬ FD x := by
  intro s x hx h2
  have hlt := (hst.ok s).lt x hx
  have := hFD x h2
  omega
 have hstep : ∀ F2 : Nat → Nat → Prop, (∀ x, Owned F2 x → Owned F1 x ∨ FD x) → Nx w0 S0 U0 w' S2 (Owned F2) := by
  intro F2 hF2
  refine hnx.trans ⟨hos, htp, hou, hsz, fun b hb _ => hw b hb, hSS, fun b hb => (hS2 b hb).imp id .inr, fun _ => hS2lt, fun x hx => (hF2 x hx).imp id (hFD x)⟩
 cases dst with
 | none =>
  have h0 : o.dst = none := hd
  refine ⟨_, ⟨S2, δ1, F1, ?_, ?_, ?_, rfl, hst.world (fun b hb => hw b (hSlt b hb)) hf hSS hfS, hstep F1 (fun x hx => .inl hx), hS2lt⟩, hK⟩
  · rw [h0]; exact hn
  · rw [h0]; exact hdef
  · rw [h0]; exact ha
 | some d =>
  simp only [toDst] at hK
  split at hK
  · rename_i τ' hwr
    obtain ⟨h1, h2, h3, h4⟩ := hd
    rw [← hDe] at hwr
    obtain ⟨δ', F', hst', her, hann, hown⟩ := hst.wr h2 h3 (fun b hb => hw b (hSlt b hb)) hf hSS hfS hD hdis hal hwr
    refine ⟨τ', ⟨S2, δ', F', ?_, ?_, ?_, her, hst', hstep F' hown, hS2lt⟩, hK⟩
    · rw [h1]; simpa [Act.put] using hn
    · rw [h1]; simpa [Act.put] using hdef
    · intro s
      rw [h1, put_get a d.d D.ann h4 s, hann s]
      split
      · rfl
      · exact ha s
  · exact hK.elim
theorem borrow {n : Nat} {w0 : World} {S0 U0 : Nat → Prop} {a : Act} {o : Oper} {dst : Option Dst} {xs : List Operand} {args : List Ar} {as : List AV} {res v : AV} {f : Nat} {K : Sg → Prop} {Q : Exit → Act → World → Prop} (hgi : GI w S) (hst : St G w S δ Fr) (hnx : Nx w0 S0 U0 w S (Owned Fr)) (hSlt : ∀ b, S b → b < w.heap.size) (hn : a.tmps.size = n) (hdef : a.defers = []) (ha : Rd δ a) (hd : DstOK G a o dst)
 (hcl : chkL xs args = true) (hr : rdArgs (fun s => (δ s).er) args = some as) (hsays : Says P f as res) (hfr : fresh res = true) (hv : res = v)
 (hres : toDst dst v K (fun s => (δ s).er)) :
 Calls P f (xs.map a.eval).toArray w fun
  | .returned v, w'' => (fun a' w' => ∃ σ', Rel G n w0 S0 U0 a' w' σ' ∧ K σ') (a.put o.dst v) w''
  | .panicked chain, w'' => Q (.panic chain) a w''
  | .outgrown, _ => LetsOut Q := by
 obtain ⟨Ds, hDe, hDa, hDok⟩ := rdArgs_sound hst ha args hcl hr
 have hcalls := hsays w (fun x => S x ∨ Owned Fr x) Ds (fun _ => False) (hgi.mono fun _ h => .inl h) hDe (Ok_tup_iff.2 (OkL_empty hDok)) (by
  rintro b (hb | ⟨s, hs⟩)
  · exact hSlt b hb
  · exact (hst.ok s).lt b hs)
 rw [hDa] at hcalls
 refine hcalls.mono ?_
 rintro e w' ⟨r, os, S', F', rfl, hre, hoe, hoa, hok, hext, hSS, hS', hS'lt, hF'⟩
 obtain ⟨Fa, Fb, hra, _, _, hFab⟩ := Ok_tup_iff.1 hok
 have hfa : ∀ x, Fa x → w.heap.size ≤ x := fun x hx => (hF' x ((hFab x).2 (.inl hx))).resolve_left id
 have hok' : Ok w' S r Fa := fresh_ok hra (by rw [hre]; exact hfr) (fun x hx hs => by have := hSlt x hs; have := hfa x hx; omega)
 simp only
 exact call_end (S2 := S) hst hn hdef ha hd (hre.trans hv) (fun b hb => hext.block b hb id) hSlt (fun _ h => h) (fun _ h => .inl h) (fun b hb => Nat.lt_of_lt_of_le (hSlt b hb) hext.size) hok' hfa (fresh_al hra (by rw [hre]; exact hfr)) hnx hext.os hext.tape hext.output hext.size hres
theorem tkRaw_sound {a : Act} (ys : List Ar) : ∀ {xs : List Operand} {δ : Nat → DV} {Fr : Nat → Nat → Prop} {as : List AV} {τ : Sg}, St G w S δ Fr → Rd δ a → chkL xs ys = true → tkRaw G ys (fun s => (δ s).er) = some (as, τ) →
 ∃ (δ' : Nat → DV) (F' : Nat → Nat → Prop) (Ds : List DV) (Fd : Nat → Prop), St G w S δ' F' ∧ (fun s => (δ' s).er) = τ ∧ (∀ s, (δ' s).ann = (δ s).ann) ∧ Ds.map DV.er = as ∧ Ds.map DV.ann = xs.map a.eval ∧ OkL w S Ds Fd ∧
  (∀ s x, F' s x → ¬ Fd x) ∧ (∀ x, Owned F' x ∨ Fd x → Owned Fr x) := by
 induction ys with
 | nil =>
  intro xs δ Fr as τ h ha hc ht
  cases xs with
  | cons => simp [chkL] at hc
  | nil =>
   simp only [tkRaw, Option.some.injEq, Prod.mk.injEq] at ht
   obtain ⟨rfl, rfl⟩ := ht
   exact ⟨δ, Fr, [], fun _ => False, h, rfl, fun _ => rfl, rfl, rfl, fun _ h => h, fun _ _ _ h => h, fun x hx => hx.elim id False.elim⟩
 | cons y ys ih =>
  intro xs δ Fr as τ h ha hc ht
  cases xs with
  | nil => simp [chkL] at hc
  | cons x xs =>
   simp only [chkL, Bool.and_eq_true] at hc
   obtain ⟨hy, hev⟩ := chkA_sound hc.1 ha
   simp only [tkRaw] at ht
   split at ht
   · rename_i v τ1 ht1
     split at ht
     · rename_i l τ2 ht2
       simp only [Option.some.injEq, Prod.mk.injEq] at ht
       obtain ⟨rfl, rfl⟩ := ht
       obtain ⟨δ1, F1, D, Ff, hfl, her, hDe, hDa⟩ := h.tk hy ht1
       subst her
       subst hDe
       obtain ⟨δ2, F2, Ds, Fd, m1, m2, m3, m4, m5, m6, m7, m8⟩ := ih hfl.st (fun s => (ha s).trans (hfl.ann s).symm) hc.2 ht2
       have hdFd : ∀ x, Ff x → ¬ Fd x := fun x h1 h2 => by obtain ⟨t, ht⟩ := m8 x (.inr h2); exact hfl.dis t x ht h1
       refine ⟨δ2, F2, D :: Ds, fun x => Ff x ∨ Fd x, m1, m2, fun s => (m3 s).trans (hfl.ann s), by simp [m4], by simp [m5, hDa, hev], ⟨Ff, Fd, hfl.ok, m6, hdFd, fun x => Iff.rfl⟩, ?_, ?_⟩
       · rintro s x hx (h1 | h1)
         · obtain ⟨t, ht⟩ := m8 x (.inl ⟨s, hx⟩)
           exact hfl.dis t x ht h1
         · exact m7 s x hx h1
       · rintro x (hx | hx | hx)
         · exact hfl.own x (.inl (m8 x (.inl hx)))
         · exact hfl.own x (.inr hx)
         · exact hfl.own x (.inl (m8 x (.inr hx)))
     · cases ht
   · cases ht
theorem capF_sound (h : St G w S δ Fr) (rs : List (Nat × List Step)) : ∀ {vs : List Value} {css : List (List AV)}, vs.length = rs.length → (∀ (i : Nat) r p u, rs[i]? = some (r, p) → vs[i]? = some u → ∃ bx k rows, subD (δ r) p = some (.own u bx k rows)) → capF (fun s => (δ s).er) rs = some css →
 vs.length = css.length ∧ ∀ (i : Nat) cs u, css[i]? = some cs → vs[i]? = some u → FpOK w (fun x => S x ∨ Owned Fr x) cs u := by
 induction rs with
 | nil =>
  intro vs css hl _ hr
  cases vs with
  | nil => simp only [capF, Option.some.injEq] at hr; subst hr; exact ⟨rfl, by simp⟩
  | cons => simp at hl
 | cons x rs ih =>
  obtain ⟨r, p⟩ := x
  intro vs css hl hv hr
  cases vs with
  | nil => simp at hl
  | cons v vs =>
   simp only [capF] at hr
   split at hr
   · rename_i cs css' h1 h2
     simp only [Option.some.injEq] at hr
     subst hr
     obtain ⟨bx, k, rows, hs⟩ := hv 0 r p v rfl rfl
     obtain ⟨D, k1, k2, k3⟩ := rdV_sound h (d := .lf (.al r p) v) (F := fun _ => False) (.lf _ _ _ trivial (fun _ h => h)) (fun _ h => h.elim) (.lf _ _ ⟨bx, k, rows, hs⟩) (by simpa using h1)
     obtain ⟨m1, m2⟩ := ih (by simpa using hl) (fun i r p u hi hu => hv (i + 1) r p u (by simpa using hi) (by simpa using hu)) h2
     refine ⟨by simp [m1], fun i cs' u hi hu => ?_⟩
     cases i with
     | zero =>
      simp only [List.getElem?_cons_zero, Option.some.injEq] at hi hu
      subst hi; subst hu
      simp only [ann_lf] at k2
      cases k3 with
      | lf a v' _ ha _ => simp only [er_lf] at k1; subst k1; simp only [ann_lf] at k2; subst k2; exact ha
      | nil => simp at k1
      | own => simp at k1
      | agg => simp at k1
      | tup => simp at k1
     | succ i => exact m2 i cs' u (by simpa using hi) (by simpa using hu)
   · cases hr
theorem tkLk_sound {a : Act} (ys : List Ar) : ∀ {xs : List Operand} {δ : Nat → DV} {Fr : Nat → Nat → Prop} {as : List AV} {τ : Sg}, St G w S δ Fr → Rd δ a → chkL xs ys = true → tkLk G ys (fun s => (δ s).er) = some (as, τ) →
 ∃ (δ' : Nat → DV) (F' : Nat → Nat → Prop) (Ds : List DV) (Fd : Nat → Prop), St G w S δ' F' ∧ (fun s => (δ' s).er) = τ ∧ (∀ s, (δ' s).ann = (δ s).ann) ∧ Ds.map DV.er = as ∧ Ds.map DV.ann = xs.map a.eval ∧ OkL w (fun x => S x ∨ Owned F' x) Ds Fd ∧
  (∀ s x, F' s x → ¬ Fd x) ∧ (∀ x, Owned F' x ∨ Fd x → Owned Fr x) := by
 induction ys with
 | nil => intro xs δ Fr as τ h ha hc ht; simp [tkLk] at ht
 | cons y ys ih =>
  intro xs δ Fr as τ h ha hc ht
  cases xs with
  | nil => simp [chkL] at hc
  | cons x xs =>
   simp only [chkL, Bool.and_eq_true] at hc
   obtain ⟨hy, hev⟩ := chkA_sound hc.1 ha
   cases ys with
   | nil =>
    cases xs with
    | cons => simp [chkL] at hc
    | nil =>
     simp only [tkLk] at ht
     split at ht
     · rename_i f rs hcl
       split at ht
       · rename_i css hcss
         simp only [Option.some.injEq, Prod.mk.injEq] at ht
         obtain ⟨rfl, rfl⟩ := ht
         obtain ⟨vs, hval, hvl, hvs⟩ : AlLeaf δ (.cl f rs) (argv δ y) := by
          cases y with
          | t s => exact (h.leaf hcl rfl).2.2
          | c c0 =>
           obtain ⟨D0, hD0⟩ := hy
           simp only [ar] at hcl
           subst hcl
           simp [cstD] at hD0
         obtain ⟨k1, k2⟩ := capF_sound h rs hvl hvs hcss
         refine ⟨δ, Fr, [.lf (.fcl f css) (argv δ y)], fun _ => False, h, rfl, fun _ => rfl, by simp, by simp [hev], OkL_empty (fun D hD => ?_), fun _ _ _ h => h, fun x hx => hx.elim id False.elim⟩
         simp only [List.mem_singleton] at hD
         subst hD
         exact .lf _ _ _ ⟨vs, hval, k1, k2⟩ (fun _ h => h)
       · cases ht
     · cases ht
   | cons y2 ys =>
    simp only [tkLk] at ht
    split at ht
    · rename_i v τ1 ht1
      split at ht
      · rename_i l τ2 ht2
        simp only [Option.some.injEq, Prod.mk.injEq] at ht
        obtain ⟨rfl, rfl⟩ := ht
        obtain ⟨δ1, F1, D, Ff, hfl, her, hDe, hDa⟩ := h.tk hy ht1
        subst her
        subst hDe
        obtain ⟨δ2, F2, Ds, Fd, m1, m2, m3, m4, m5, m6, m7, m8⟩ := ih hfl.st (fun s => (ha s).trans (hfl.ann s).symm) hc.2 ht2
        have hdFd : ∀ x, Ff x → ¬ Fd x := fun x h1 h2 => by obtain ⟨t, ht⟩ := m8 x (.inr h2); exact hfl.dis t x ht h1
        have hD' : Ok w (fun x => S x ∨ Owned F2 x) D Ff := hfl.ok.mono (fun _ _ => rfl) (fun _ _ => rfl) (fun _ h => .inl h) (fun x hx hs => hs.elim (hfl.ok.notS x hx) (fun ho => by obtain ⟨t, ht⟩ := m8 x (.inl ho); exact hfl.dis t x ht hx))
        refine ⟨δ2, F2, D :: Ds, fun x => Ff x ∨ Fd x, m1, m2, fun s => (m3 s).trans (hfl.ann s), by simp [m4], by simp [m5, hDa, hev], ⟨Ff, Fd, hD', m6, hdFd, fun x => Iff.rfl⟩, ?_, ?_⟩
        · rintro s x hx (h1 | h1)
          · obtain ⟨t, ht⟩ := m8 x (.inl ⟨s, hx⟩)
            exact hfl.dis t x ht h1
          · exact m7 s x hx h1
        · rintro x (hx | hx | hx)
          · exact hfl.own x (.inl (m8 x (.inl hx)))
          · exact hfl.own x (.inr hx)
          · exact hfl.own x (.inl (m8 x (.inr hx)))
      · cases ht
    · cases ht
theorem call_sound {n : Nat} {w0 : World} {S0 U0 : Nat → Prop} (hG : GIn w0 S0 U0) {a : Act} {σ : Sg} (h : Rel G n w0 S0 U0 a w σ) {o : Oper} {io : IOper} {f m : Nat} {args : List Ar} (hio : io.op = .call f args m) (hchk : chkCall P o.op f args m = true) (hd : DstOK G a o io.dst) {K : Sg → Prop} (hrun : arun P G io K σ)
 (Q : Exit → Act → World → Prop) : o.wp P a w (fun a' w' => ∃ σ', Rel G n w0 S0 U0 a' w' σ' ∧ K σ') Q := by
 obtain ⟨S, δ, Fr, hn, hdef, ha, rfl, hst, hnx, hSlt⟩ := h
 have hgi := hG.now hnx
 obtain ⟨c, fn, ho, hcal, hf, hfb, hfn, hm3, hcl⟩ := chkCall_spec hchk
 unfold arun at hrun
 rw [hio] at hrun
 simp only at hrun
 split at hrun
 · rename_i as τ hca
   obtain ⟨res, hsays, hres⟩ := hrun
   split at hres
   · rename_i v hv
     unfold Oper.wp
     rw [run_call ho hcal hf hfb hfn, Oper.upon_enter]
     match m, hm3, hca, hv with
     | 1, _, hca, hv =>
      simp only [callArgs] at hca
      obtain ⟨δ1, F1, Ds, Fd, hst1, her1, hann1, hDe, hDa, hDok, hdis, hown⟩ := tkArgs_sound _ hst ha hcl hca
      subst her1
      have hFdlt : ∀ x, Fd x → x < w.heap.size := fun x hx => by obtain ⟨t, ht⟩ := hown x (.inr hx); exact (hst.ok t).lt x ht
      have hcalls := hsays w (fun x => S x ∨ Fd x) Ds (fun _ => False) (hgi.mono fun _ h => .inl h) hDe (Ok_tup_iff.2 (OkL_empty hDok)) (fun b hb => hb.elim (hSlt b) (hFdlt b))
      rw [hDa] at hcalls
      refine hcalls.mono ?_
      rintro e w' ⟨r, os, S', F', rfl, hre, hoe, hoa, hok, hext, hSS, hS', hS'lt, hF'⟩
      obtain ⟨Fa, Fb, hra, _, _, hFab⟩ := Ok_tup_iff.1 hok
      obtain ⟨D, k1, k2, k3, k4⟩ := frozenTree (δ := δ1) hra
      simp only [resV, Option.some.injEq] at hv
      have hfa : ∀ x, Fa x → w.heap.size ≤ x := fun x hx => (hF' x ((hFab x).2 (.inl hx))).resolve_left id
      have hst1' : St G w (fun x => S x ∨ Fd x) δ1 F1 := hst1.world (fun _ _ => rfl) (fun _ _ _ => rfl) (fun _ h => .inl h) (fun s x hx hs => hs.elim ((hst1.ok s).notS x hx) (hdis s x hx))
      have hnx1 : Nx w0 S0 U0 w (fun x => S x ∨ Fd x) (Owned F1) := hnx.trans (Nx.frz (fun x hx => hown x hx) hFdlt)
      simp only
      rw [← k2]
      refine call_end (S2 := fun x => S' x ∨ Fa x) hst1' hn hdef (fun s => (ha s).trans (hann1 s).symm) hd (by rw [k1, hre]; exact hv) (fun b hb => hext.block b hb id) (fun b hb => hb.elim (hSlt b) (hFdlt b)) (fun b hb => .inl (hSS b hb)) ?_ ?_ k3 (fun _ h => h.elim) k4 hnx1 hext.os hext.tape hext.output hext.size hres
      · rintro b (hb | hb)
        · rcases hS' b hb with h1 | h1 | h1
          · exact .inl h1
          · exact h1.elim
          · exact .inr h1
        · exact .inr (hfa b hb)
      · rintro b (hb | hb)
        · exact hS'lt b hb
        · exact hra.lt b hb
     | 0, _, hca, hv =>
      simp only [callArgs] at hca
      split at hca
      · rename_i l hr
        simp only [Option.some.injEq, Prod.mk.injEq] at hca
        obtain ⟨rfl, rfl⟩ := hca
        simp only [resV] at hv
        split at hv
        · rename_i hfl
          exact borrow hgi hst hnx hSlt hn hdef ha hd hcl hr hsays (flat_fresh hfl) (Option.some.inj hv) hres
        · cases hv
      · cases hca
     | 3, _, hca, hv =>
      simp only [callArgs] at hca
      obtain ⟨δ1, F1, Ds, Fd, hst1, her1, hann1, hDe, hDa, hDok, hdis, hown⟩ := tkRaw_sound _ hst ha hcl hca
      subst her1
      simp only [resV] at hv
      split at hv
      · rename_i hfr
        obtain rfl := Option.some.inj hv
        have hcalls := hsays w S Ds Fd hgi hDe (Ok_tup_iff.2 hDok) hSlt
        rw [hDa] at hcalls
        refine hcalls.mono ?_
        rintro e w' ⟨r, os, S', F', rfl, hre, hoe, hoa, hok, hext, hSS, hS', hS'lt, hF'⟩
        obtain ⟨Fa, Fb, hra, _, _, hFab⟩ := Ok_tup_iff.1 hok
        have hFa : ∀ x, Fa x → Fd x ∨ w.heap.size ≤ x := fun x hx => hF' x ((hFab x).2 (.inl hx))
        have hlt1 : ∀ s x, F1 s x → x < w.heap.size := fun s x hx => (hst1.ok s).lt x hx
        have hwS : ∀ b, S b → w'.heap[b]? = w.heap[b]? := fun b hb => hext.block b (hSlt b hb) fun hf => by
         obtain ⟨t, ht⟩ := hown b (.inr hf); exact (hst.ok t).notS b ht hb
        have hwF : ∀ s x, F1 s x → w'.heap[x]? = w.heap[x]? := fun s x hx => hext.block x (hlt1 s x hx) (hdis s x hx)
        have hfS : ∀ s x, F1 s x → ¬ S' x := by
         intro s x hx h'
         rcases hS' x h' with h1 | h1 | h1
         · exact (hst1.ok s).notS x hx h1
         · exact hdis s x hx h1
         · have := hlt1 s x hx; omega
        have hdD : ∀ s x, F1 s x → ¬ Fa x := by
         intro s x hx h'
         rcases hFa x h' with h1 | h1
         · exact hdis s x hx h1
         · have := hlt1 s x hx; omega
        have hstep : ∀ F2 : Nat → Nat → Prop, (∀ x, Owned F2 x → Owned F1 x ∨ Fa x) → Nx w0 S0 U0 w' S' (Owned F2) := by
         intro F2 hF2
         refine hnx.trans ⟨hext.os, hext.tape, hext.output, hext.size, fun b hb hno => hext.block b hb fun hf => hno (hown b (.inr hf)), hSS, fun b hb => (hS' b hb).imp id (Or.imp (fun h => hown b (.inr h)) id), fun _ => hS'lt, fun x hx => ?_⟩
         rcases hF2 x hx with h1 | h1
         · exact .inl (hown x (.inl h1))
         · exact (hFa x h1).imp (fun h => hown x (.inr h)) id
        have ha1 : Rd δ1 a := fun s => (ha s).trans (hann1 s).symm
        simp only
        cases hdst : io.dst with
        | none =>
         rw [hdst] at hd hres
         have h0 : o.dst = none := hd
         refine ⟨_, ⟨S', δ1, F1, ?_, ?_, ?_, rfl, hst1.world hwS hwF hSS hfS, hstep F1 (fun x hx => .inl hx), hS'lt⟩, hres⟩
         · rw [h0]; exact hn
         · rw [h0]; exact hdef
         · rw [h0]; exact ha1
        | some d =>
         rw [hdst] at hd hres
         simp only [toDst] at hres
         split at hres
         · rename_i τ' hwr
           obtain ⟨h1, h2, h3, h4⟩ := hd
           rw [← hre] at hwr
           obtain ⟨δ', F2, hst', her, hann, hown'⟩ := hst1.wr h2 h3 hwS hwF hSS hfS hra hdD (fresh_al hra (by rw [hre]; exact hfr)) hwr
           refine ⟨τ', ⟨S', δ', F2, ?_, ?_, ?_, her, hst', hstep F2 hown', hS'lt⟩, hres⟩
           · rw [h1]; simpa [Act.put] using hn
           · rw [h1]; simpa [Act.put] using hdef
           · intro s
             rw [h1, put_get a d.d r.ann h4 s, hann s]
             split
             · rfl
             · exact ha1 s
         · exact hres.elim
      · cases hv
     | 4, _, hca, hv =>
      simp only [callArgs] at hca
      obtain ⟨δ1, F1, Ds, Fd, hst1, her1, hann1, hDe, hDa, hDok, hdis, hown⟩ := tkLk_sound _ hst ha hcl hca
      subst her1
      simp only [resV] at hv
      split at hv
      · rename_i hfr
        obtain rfl := Option.some.inj hv
        have hlt1 : ∀ s x, F1 s x → x < w.heap.size := fun s x hx => (hst1.ok s).lt x hx
        have hcalls := hsays w (fun x => S x ∨ Owned F1 x) Ds Fd (hgi.mono fun _ h => .inl h) hDe (Ok_tup_iff.2 hDok) (fun b hb => hb.elim (hSlt b) (fun ⟨s, hs⟩ => hlt1 s b hs))
        rw [hDa] at hcalls
        refine hcalls.mono ?_
        rintro e w' ⟨r, os, S', F', rfl, hre, hoe, hoa, hok, hext, hSS, hS', hS'lt, hF'⟩
        obtain ⟨Fa, Fb, hra0, _, _, hFab⟩ := Ok_tup_iff.1 hok
        have hFa : ∀ x, Fa x → Fd x ∨ w.heap.size ≤ x := fun x hx => hF' x ((hFab x).2 (.inl hx))
        have hFdS : ∀ x, Fd x → ¬ S x := fun x hf hs => by obtain ⟨t, ht⟩ := hown x (.inr hf); exact (hst.ok t).notS x ht hs
        have hra : Ok w' S r Fa := fresh_ok hra0 (by rw [hre]; exact hfr) (fun x hx hs => (hFa x hx).elim (fun h1 => hFdS x h1 hs) (fun h1 => by have := hSlt x hs; omega))
        have hwS : ∀ b, S b → w'.heap[b]? = w.heap[b]? := fun b hb => hext.block b (hSlt b hb) fun hf => hFdS b hf hb
        have hwF : ∀ s x, F1 s x → w'.heap[x]? = w.heap[x]? := fun s x hx => hext.block x (hlt1 s x hx) (hdis s x hx)
        have hfS : ∀ s x, F1 s x → ¬ S x := fun s x hx => (hst1.ok s).notS x hx
        have hSlt' : ∀ b, S b → b < w'.heap.size := fun b hb => Nat.lt_of_lt_of_le (hSlt b hb) hext.size
        have hdD : ∀ s x, F1 s x → ¬ Fa x := by
         intro s x hx h'
         rcases hFa x h' with h1 | h1
         · exact hdis s x hx h1
         · have := hlt1 s x hx; omega
        have hstep : ∀ F2 : Nat → Nat → Prop, (∀ x, Owned F2 x → Owned F1 x ∨ Fa x) → Nx w0 S0 U0 w' S (Owned F2) := by
         intro F2 hF2
         refine hnx.trans ⟨hext.os, hext.tape, hext.output, hext.size, fun b hb hno => hext.block b hb fun hf => hno (hown b (.inr hf)), fun _ h => h, fun _ h => .inl h, fun _ => hSlt', fun x hx => ?_⟩
         rcases hF2 x hx with h1 | h1
         · exact .inl (hown x (.inl h1))
         · exact (hFa x h1).imp (fun h => hown x (.inr h)) id
        have ha1 : Rd δ1 a := fun s => (ha s).trans (hann1 s).symm
        simp only
        cases hdst : io.dst with
        | none =>
         rw [hdst] at hd hres
         have h0 : o.dst = none := hd
         refine ⟨_, ⟨S, δ1, F1, ?_, ?_, ?_, rfl, hst1.world hwS hwF (fun _ h => h) hfS, hstep F1 (fun x hx => .inl hx), hSlt'⟩, hres⟩
         · rw [h0]; exact hn
         · rw [h0]; exact hdef
         · rw [h0]; exact ha1
        | some d =>
         rw [hdst] at hd hres
         simp only [toDst] at hres
         split at hres
         · rename_i τ' hwr
           obtain ⟨h1, h2, h3, h4⟩ := hd
           rw [← hre] at hwr
           obtain ⟨δ', F2, hst', her, hann, hown'⟩ := hst1.wr h2 h3 hwS hwF (fun _ h => h) hfS hra hdD (fresh_al hra (by rw [hre]; exact hfr)) hwr
           refine ⟨τ', ⟨S, δ', F2, ?_, ?_, ?_, her, hst', hstep F2 hown', hSlt'⟩, hres⟩
           · rw [h1]; simpa [Act.put] using hn
           · rw [h1]; simpa [Act.put] using hdef
           · intro s
             rw [h1, put_get a d.d r.ann h4 s, hann s]
             split
             · rfl
             · exact ha1 s
         · exact hres.elim
      · cases hv
     | 2, _, hca, hv =>
      simp only [callArgs] at hca
      split at hca
      · rename_i l hr
        simp only [Option.some.injEq, Prod.mk.injEq] at hca
        obtain ⟨rfl, rfl⟩ := hca
        simp only [resV] at hv
        split at hv
        · rename_i hfl
          exact borrow hgi hst hnx hSlt hn hdef ha hd hcl hr hsays hfl (Option.some.inj hv) hres
        · cases hv
      · cases hca
   · exact hres.elim
 · exact hrun.elim
theorem call4_sound {n : Nat} {w0 : World} {S0 U0 : Nat → Prop} (hG : GIn w0 S0 U0) {a : Act} {σ : Sg} (h : Rel G n w0 S0 U0 a w σ) {o : Oper} {io : IOper} {f : Nat} {args : List Ar} (hio : io.op = .call f args 4) (hchk : chkCall P o.op f args 4 = true) (hd : DstOK G a o io.dst) {K : Sg → Prop} (hrun : arun P G io K σ) {rr kb : Nat} (hbox : ∀ as τ, callArgs G 4 args σ = some (as, τ) → ∃ rows, τ rr = .own true kb rows)
 (Q : Exit → Act → World → Prop) : o.wp P a w (fun a' w' => (∃ σ', Rel G n w0 S0 U0 a' w' σ' ∧ K σ') ∧ (∀ b, a.tmps.getD rr undef = .pointer (some ⟨b, 0, none⟩) → w'.heap[b]? = w.heap[b]?) ∧ ∃ u, a' = a.put o.dst u) Q := by
 obtain ⟨S, δ, Fr, hn, hdef, ha, rfl, hst, hnx, hSlt⟩ := h
 have hgi := hG.now hnx
 obtain ⟨c, fn, ho, hcal, hf, hfb, hfn, hm3, hcl⟩ := chkCall_spec hchk
 unfold arun at hrun
 rw [hio] at hrun
 simp only at hrun
 split at hrun
 · rename_i as τ hca
   obtain ⟨res, hsays, hres⟩ := hrun
   split at hres
   · rename_i v hv
     unfold Oper.wp
     rw [run_call ho hcal hf hfb hfn, Oper.upon_enter]
     have hca0 := hca
     simp only [callArgs] at hca
     obtain ⟨δ1, F1, Ds, Fd, hst1, her1, hann1, hDe, hDa, hDok, hdis, hown⟩ := tkLk_sound _ hst ha hcl hca
     subst her1
     simp only [resV] at hv
     split at hv
     · rename_i hfr
       obtain rfl := Option.some.inj hv
       have hlt1 : ∀ s x, F1 s x → x < w.heap.size := fun s x hx => (hst1.ok s).lt x hx
       have hcalls := hsays w (fun x => S x ∨ Owned F1 x) Ds Fd (hgi.mono fun _ h => .inl h) hDe (Ok_tup_iff.2 hDok) (fun b hb => hb.elim (hSlt b) (fun ⟨s, hs⟩ => hlt1 s b hs))
       rw [hDa] at hcalls
       refine hcalls.mono ?_
       rintro e w' ⟨r, os, S', F', rfl, hre, hoe, hoa, hok, hext, hSS, hS', hS'lt, hF'⟩
       obtain ⟨Fa, Fb, hra0, _, _, hFab⟩ := Ok_tup_iff.1 hok
       have hFa : ∀ x, Fa x → Fd x ∨ w.heap.size ≤ x := fun x hx => hF' x ((hFab x).2 (.inl hx))
       have hFdS : ∀ x, Fd x → ¬ S x := fun x hf hs => by obtain ⟨t, ht⟩ := hown x (.inr hf); exact (hst.ok t).notS x ht hs
       have hra : Ok w' S r Fa := fresh_ok hra0 (by rw [hre]; exact hfr) (fun x hx hs => (hFa x hx).elim (fun h1 => hFdS x h1 hs) (fun h1 => by have := hSlt x hs; omega))
       have hwS : ∀ b, S b → w'.heap[b]? = w.heap[b]? := fun b hb => hext.block b (hSlt b hb) fun hf => hFdS b hf hb
       have hwF : ∀ s x, F1 s x → w'.heap[x]? = w.heap[x]? := fun s x hx => hext.block x (hlt1 s x hx) (hdis s x hx)
       have hfS : ∀ s x, F1 s x → ¬ S x := fun s x hx => (hst1.ok s).notS x hx
       have hSlt' : ∀ b, S b → b < w'.heap.size := fun b hb => Nat.lt_of_lt_of_le (hSlt b hb) hext.size
       have hdD : ∀ s x, F1 s x → ¬ Fa x := by
        intro s x hx h'
        rcases hFa x h' with h1 | h1
        · exact hdis s x hx h1
        · have := hlt1 s x hx; omega
       have hstep : ∀ F2 : Nat → Nat → Prop, (∀ x, Owned F2 x → Owned F1 x ∨ Fa x) → Nx w0 S0 U0 w' S (Owned F2) := by
        intro F2 hF2
        refine hnx.trans ⟨hext.os, hext.tape, hext.output, hext.size, fun b hb hno => hext.block b hb fun hf => hno (hown b (.inr hf)), fun _ h => h, fun _ h => .inl h, fun _ => hSlt', fun x hx => ?_⟩
        rcases hF2 x hx with h1 | h1
        · exact .inl (hown x (.inl h1))
        · exact (hFa x h1).imp (fun h => hown x (.inr h)) id
       have ha1 : Rd δ1 a := fun s => (ha s).trans (hann1 s).symm
       have hkeep : ∀ b, a.tmps.getD rr undef = .pointer (some ⟨b, 0, none⟩) → w'.heap[b]? = w.heap[b]? := by
        intro b hb
        obtain ⟨rows, hrr⟩ := hbox _ _ hca0
        have hok1 := hst1.ok rr
        have h1 : (δ1 rr).ann = .pointer (some ⟨b, 0, none⟩) := by rw [← ha1 rr]; exact hb
        have h2 : (δ1 rr).er = .own true kb rows := hrr
        cases hδ : δ1 rr with
        | lf x v => rw [hδ] at h2 hok1; simp at h2; subst h2; cases hok1 with | lf _ _ _ hl _ => simp [LeafOK] at hl
        | agg => rw [hδ] at h2; simp at h2
        | tup => rw [hδ] at h2; simp at h2
        | own hh bx k0 rowsD =>
         rw [hδ] at h1 h2 hok1
         simp only [er_own, AV.own.injEq] at h2
         obtain ⟨rfl, rfl, _⟩ := h2
         simp only [ann_own] at h1
         generalize hF1 : F1 rr = Fx at hok1
         generalize hvv : hh = hv' at hok1
         cases hok1 with
         | own _ _ _ b' c arr E Fs _ hb' hk hcap hSb hv2 hr hd2 hval hbF hF =>
          rw [hvv] at h1
          simp only [hdr, if_true, Value.pointer.injEq, Option.some.injEq, Addr.mk.injEq, and_true] at h1
          have e : b' = b := by first | exact h1 | exact h1.1
          subst e
          exact hwF rr b' (by rw [hF1]; first | exact (hF b').2 (.inl rfl) | exact hbF | simp [hF])
       simp only
       cases hdst : io.dst with
       | none =>
        rw [hdst] at hd hres
        have h0 : o.dst = none := hd
        refine ⟨⟨_, ⟨S, δ1, F1, ?_, ?_, ?_, rfl, hst1.world hwS hwF (fun _ h => h) hfS, hstep F1 (fun x hx => .inl hx), hSlt'⟩, hres⟩, hkeep, _, rfl⟩
        · rw [h0]; exact hn
        · rw [h0]; exact hdef
        · rw [h0]; exact ha1
       | some d =>
        rw [hdst] at hd hres
        simp only [toDst] at hres
        split at hres
        · rename_i τ' hwr
          obtain ⟨h1, h2, h3, h4⟩ := hd
          rw [← hre] at hwr
          obtain ⟨δ', F2, hst', her, hann, hown'⟩ := hst1.wr h2 h3 hwS hwF (fun _ h => h) hfS hra hdD (fresh_al hra (by rw [hre]; exact hfr)) hwr
          refine ⟨⟨τ', ⟨S, δ', F2, ?_, ?_, ?_, her, hst', hstep F2 hown', hSlt'⟩, hres⟩, hkeep, _, rfl⟩
          · rw [h1]; simpa [Act.put] using hn
          · rw [h1]; simpa [Act.put] using hdef
          · intro s
            rw [h1, put_get a d.d r.ann h4 s, hann s]
            split
            · rfl
            · exact ha1 s
        · exact hres.elim
     · cases hv
   · exact hres.elim
 · exact hrun.elim
end Go.Abs
namespace Go.Abs
variable {w w' : World} {S S' : Nat → Prop} {G : Gi} {δ : Nat → DV} {Fr : Nat → Nat → Prop} {P : Program}
def chkDst (G : Gi) (n : Nat) (o : Option Tmp) (d : Option Dst) : Bool :=
 match o, d with
 | none, none => true
 | some t, some d => t == d.d && d.kl == G.als d.d && d.rs == G.rtOf d.d && decide (d.d < n)
 | _, _ => false
def chkGuard (n : Nat) (ops : Array Oper) (g : Option (Nat × Bool)) (h : Option (Nat × Bool)) : Bool :=
 match g, h with
 | none, none => true
 | some (j, b), some (s, b') => (ops[j]?).bind (·.dst) == some s && b == b' && decide (s < n)
 | _, _ => false
def chkOper (P : Program) (G : Gi) (n : Nat) (ops : Array Oper) (o : Oper) (io : IOper) : Bool :=
 chkDst G n o.dst io.dst && chkGuard n ops o.guard io.guard && (match io.op with
  | .call f args m => chkCall P o.op f args m
  | op => chkOp P o.op op)
theorem chkDst_ok {n : Nat} {a : Act} {o : Oper} {d : Option Dst} (h : chkDst G n o.dst d = true) (hn : a.tmps.size = n) : DstOK G a o d := by
 unfold chkDst at h
 split at h
 · rename_i ho; exact ho
 · rename_i t d ho
   simp only [Bool.and_eq_true, beq_iff_eq, decide_eq_true_eq] at h
   obtain ⟨⟨⟨rfl, h2⟩, h3⟩, h4⟩ := h
   exact ⟨ho, h2, h3, by rw [hn]; exact h4⟩
 · cases h
theorem arun_sound {n : Nat} {w0 : World} {S0 U0 : Nat → Prop} (hG : GIn w0 S0 U0) {a : Act} {σ : Sg} (h : Rel G n w0 S0 U0 a w σ) {ops : Array Oper} {o : Oper} {io : IOper} (hc : chkOper P G n ops o io = true) {K : Sg → Prop} (hrun : arun P G io K σ) (Q : Exit → Act → World → Prop) :
 o.wp P a w (fun a' w' => ∃ σ', Rel G n w0 S0 U0 a' w' σ' ∧ K σ') Q := by
 simp only [chkOper, Bool.and_eq_true] at hc
 obtain ⟨⟨h1, _⟩, h3⟩ := hc
 have h0 := h
 obtain ⟨S, δ, Fr, hn, hdef, ha, rfl, hst, hnx, hSlt⟩ := h
 have hd := chkDst_ok h1 hn
 have plain : ∀ {op : IOp}, io.op = op → (match eff G op io.dst (fun s => (δ s).er) with | some τ => K τ | none => False) → chkOp P o.op op = true → o.wp P a w (fun a' w' => ∃ σ', Rel G n w0 S0 U0 a' w' σ' ∧ K σ') Q := by
  intro op _ he hk
  split at he
  · rename_i τ heff
    obtain ⟨nx, v, w', S', δ', F', hr, hnv, hrd, her, hst', hnx'⟩ := op_sound hst hSlt ha hd hk heff
    have key : ∃ σ', Rel G n w0 S0 U0 (a.put o.dst v) w' σ' ∧ K σ' := by
     refine ⟨τ, ⟨S', δ', F', ?_, ?_, hrd, her, hst', hnx.trans hnx', hnx'.lt hSlt⟩, he⟩
     · cases ho : o.dst <;> simp [Act.put, hn]
     · cases ho : o.dst <;> simp [Act.put, hdef]
    unfold Oper.wp
    rw [hr]
    rcases hnv with rfl | ⟨rfl, rfl⟩
    · rw [Oper.upon_value]; exact key
    · rw [Oper.upon_skip]; exact key
  · exact he.elim
 cases hop : io.op with
 | call f args m =>
  rw [hop] at h3
  exact call_sound hG h0 hop h3 hd hrun Q
 | _ =>
  rw [hop] at h3
  unfold arun at hrun
  rw [hop] at hrun
  exact plain hop hrun h3
theorem aop_sound {n : Nat} {w0 : World} {S0 U0 : Nat → Prop} (hG : GIn w0 S0 U0) {a : Act} {σ : Sg} (h : Rel G n w0 S0 U0 a w σ) {ops : Array Oper} {o : Oper} {io : IOper} (hc : chkOper P G n ops o io = true) {K : Sg → Prop} (hrun : aop P G io K σ) (Q : Exit → Act → World → Prop) {i : Nat} (hi : ops[i]? = some o) :
 wpOp P ops Q i (fun a' w' => ∃ σ', Rel G n w0 S0 U0 a' w' σ' ∧ K σ') a w := by
 unfold wpOp
 rw [hi]
 simp only
 have hc' := hc
 simp only [chkOper, Bool.and_eq_true] at hc'
 obtain ⟨⟨h1, h2⟩, _⟩ := hc'
 have skip : (match io.dst with | some d => K (upd (kills d.kl d.d σ) d.d .un) | none => K σ) → ∃ σ', Rel G n w0 S0 U0 (a.put o.dst undef) w σ' ∧ K σ' := by
  intro hk
  obtain ⟨S, δ, Fr, hn, hdef, ha, rfl, hst, hnx, hSlt⟩ := h
  have hd := chkDst_ok h1 hn
  cases hdd : io.dst with
  | none =>
   rw [hdd] at hk hd
   have h0 : o.dst = none := hd
   rw [h0]
   exact ⟨_, ⟨S, δ, Fr, hn, hdef, ha, rfl, hst, hnx, hSlt⟩, hk⟩
  | some d =>
   rw [hdd] at hk hd
   obtain ⟨g1, g2, g3, g4⟩ := hd
   have hwr : wr d (DV.lf .un undef).er (fun s => (δ s).er) = some (upd (kills d.kl d.d fun s => (δ s).er) d.d .un) := by simp [wr]
   obtain ⟨δ', F', hst', her, hann, hown⟩ := hst.wr (D := .lf .un undef) (Ff := fun _ => False) g2 g3 (fun _ _ => rfl) (fun _ _ _ => rfl) (fun _ h => h) (fun s x hx => (hst.ok s).notS x hx) (.lf _ _ _ rfl (fun _ h => h)) (fun _ _ _ h => h) (.lf _ _ trivial) hwr
   refine ⟨_, ⟨S, δ', F', ?_, ?_, ?_, her, hst', hnx.trans (Nx.less fun x hx => (hown x hx).elim id False.elim), hSlt⟩, hk⟩
   · rw [g1]; simpa [Act.put] using hn
   · rw [g1]; simpa [Act.put] using hdef
   · intro s
     rw [g1, put_get a d.d undef g4 s, hann s]
     split
     · rfl
     · exact ha s
 unfold aop at hrun
 split at hrun
 · rename_i hg
   have hog : o.guard = none := by
    unfold chkGuard at h2
    split at h2
    · assumption
    · rename_i hh; rw [hg] at hh; cases hh
    · cases h2
   have hw : Region.wanted o (yielded ops a.tmps) = true := by simp [Region.wanted, hog]
   rw [if_pos hw]
   exact .inl (arun_sound hG h hc hrun Q)
 · rename_i s want hg
   obtain ⟨j, hog, hjs, hsn⟩ : ∃ j, o.guard = some (j, want) ∧ (ops[j]?).bind (·.dst) = some s ∧ s < n := by
    unfold chkGuard at h2
    split at h2
    · rename_i hh; rw [hg] at hh; cases hh
    · rename_i j b s' b' ho hh
      rw [hg] at hh
      simp only [Option.some.injEq, Prod.mk.injEq] at hh
      obtain ⟨rfl, rfl⟩ := hh
      simp only [Bool.and_eq_true, beq_iff_eq, decide_eq_true_eq] at h2
      exact ⟨j, by rw [ho, h2.1.2], h2.1.1, h2.2⟩
    · cases h2
   have hy : yielded ops a.tmps j = match a.tmps.getD s undef with | .bool b => some b | _ => none := by
    obtain ⟨S, δ, Fr, hn, _⟩ := h
    have hs : s < a.tmps.size := by rw [hn]; exact hsn
    unfold yielded
    rw [hjs]
    simp only [Option.bind_some, Array.getElem?_eq_getElem hs, Array.getD_eq_getD_getElem?, Option.getD_some]
    cases a.tmps[s] <;> rfl
   have hval : a.tmps.getD s undef = match σ s with | .sc v => v | .un => undef | _ => a.tmps.getD s undef := by
    obtain ⟨S, δ, Fr, hn, hdef, ha, rfl, hst, _⟩ := h
    simp only
    cases hs : (δ s).er with
    | sc v => rw [ha s]; exact (hst.leaf hs rfl).2.1.1
    | un => rw [ha s]; exact (hst.leaf hs rfl).2.1
    | _ => rfl
   split at hrun
   · rename_i b hb
     rw [hb] at hval
     simp only at hval
     have hwd : Region.wanted o (yielded ops a.tmps) = (some b == some want) := by simp only [Region.wanted, hog, hy, hval]
     split at hrun
     · rename_i hbw
       subst hbw
       rw [if_pos (by rw [hwd]; simp)]
       exact .inl (arun_sound hG h hc hrun Q)
     · rename_i hbw
       rw [if_neg (by rw [hwd]; simp [hbw])]
       exact skip hrun
   · rename_i hb
     rw [hb] at hval
     simp only at hval
     have hwd : Region.wanted o (yielded ops a.tmps) = false := by simp only [Region.wanted, hog, hy, hval]; rfl
     rw [if_neg (by rw [hwd]; simp)]
     exact skip hrun
   · exact hrun.elim
def chkOps (P : Program) (G : Gi) (n : Nat) (ops : Array Oper) : List Oper → List IOper → Bool
 | [], [] => true
 | o :: os, io :: ios => chkOper P G n ops o io && chkOps P G n ops os ios
 | _, _ => false
theorem aops_sound {n : Nat} {w0 : World} {S0 U0 : Nat → Prop} (hG : GIn w0 S0 U0) {ops : Array Oper} {K : Sg → Prop} (Q : Exit → Act → World → Prop) (hQ : ∀ a w σ, Rel G n w0 S0 U0 a w σ → K σ → Q .normal a w) (ios : List IOper) :
 ∀ (k : Nat) {a : Act} {w : World} {σ : Sg}, Rel G n w0 S0 U0 a w σ → chkOps P G n ops (ops.toList.drop k) ios = true → aops P G ios K σ → wpOps P ops Q (List.range' k (ops.size - k)) a w := by
 induction ios with
 | nil =>
  intro k a w σ h hc hr
  have hk : ops.toList.drop k = [] := by cases hd : ops.toList.drop k with | nil => rfl | cons o os => rw [hd] at hc; simp [chkOps] at hc
  have hlen : ops.size ≤ k := by simpa using hk
  rw [show ops.size - k = 0 from by omega]
  exact hQ a w σ h hr
 | cons io ios ih =>
  intro k a w σ h hc hr
  cases hd : ops.toList.drop k with
  | nil => rw [hd] at hc; simp [chkOps] at hc
  | cons o os =>
   rw [hd] at hc
   simp only [chkOps, Bool.and_eq_true] at hc
   have hk : k < ops.size := by
    have : (ops.toList.drop k).length = os.length + 1 := by rw [hd]; rfl
    simp at this; omega
   have ho : ops[k]? = some o := by
    have : (ops.toList.drop k)[0]? = some o := by rw [hd]; rfl
    simpa using this
   have hos : ops.toList.drop (k + 1) = os := by
    have : (ops.toList.drop k).drop 1 = os := by rw [hd]; rfl
    rw [List.drop_drop] at this; exact this
   rw [show ops.size - k = (ops.size - (k + 1)) + 1 from by omega, List.range'_succ, wpOps_cons]
   refine wpOp_mono ?_ (aop_sound hG h hc.1 hr Q ho)
   rintro a' w' ⟨σ', h', hK'⟩
   exact ih (k + 1) h' (by rw [hos]; exact hc.2) hK'
end Go.Abs
