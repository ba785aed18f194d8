/- What comes in reads as an abstract value; from a law's contract to its row. -/
import Derived.Test.YtejicekieoclaaaCoreI
import Derived.WalkKit
import Derived.ProofKit
import Derived.OpenShut
import Derived.WideKeyArgs
import Derived.SizedLaws
import Derived.DataReads
import Derived.Below
import Derived.ChangeSame
namespace Go.Abs
open Go.ChangeShapes Go.WideShapes Go.ChangeAt Go.RowKit

def Old (w : World) (b : Nat) : Prop := b < w.heap.size
def Cells (w : World) (avs : List AV) (cs : List Value) : Prop := avs.length = cs.length ∧ ∀ (i : Nat) a v, avs[i]? = some a → cs[i]? = some v → Fz w (Old w) a v

theorem Cells.append {w : World} {a1 a2 : List AV} {c1 c2 : List Value} (h1 : Cells w a1 c1) (h2 : Cells w a2 c2) : Cells w (a1 ++ a2) (c1 ++ c2) := by
  refine ⟨by simp [h1.1, h2.1], fun i a v ha hv => ?_⟩
  by_cases hi : i < a1.length
  · rw [List.getElem?_append_left hi] at ha
    rw [List.getElem?_append_left (by rw [← h1.1]; exact hi)] at hv
    exact h1.2 i a v ha hv
  · rw [List.getElem?_append_right (by omega)] at ha
    rw [List.getElem?_append_right (by rw [← h1.1]; omega)] at hv
    rw [← h1.1] at hv
    exact h2.2 _ a v ha hv
theorem Cells.nil (w : World) : Cells w [] [] := ⟨rfl, fun i a v h => by simp at h⟩
theorem Cells.one {w : World} {a : AV} {v : Value} (h : Fz w (Old w) a v) : Cells w [a] [v] := by
  refine ⟨rfl, fun i a' v' ha hv => ?_⟩
  cases i with
  | zero => simp at ha hv; subst ha; subst hv; exact h
  | succ i => simp at ha

def Light {H : Type} (P : Program) (t : TypeId) (d : DataW H) : Prop := ∀ n ∈ d.weights P t, n ≤ reachBytes

def Opens (P : Program) (t : TypeId) (X : List AV → Prop) : Prop :=
  ∀ (H : Type) (enc : TypeId × Value → H) (w : World) (fuel : Nat) (cs : List Value) (d : DataW H) (ps : List MemPlace),
    DataW.trod enc P w 0 (fun _ => true) true fuel t cs = some (d, ps) → Light P t d → ∃ avs, X avs ∧ Cells w avs cs

theorem Opens.mono {P : Program} {t : TypeId} {X Y : List AV → Prop} (h : Opens P t X) (hXY : ∀ a, X a → Y a) : Opens P t Y := by
  intro H enc w fuel cs d ps ht hl
  obtain ⟨avs, hx, hc⟩ := h H enc w fuel cs d ps ht hl
  exact ⟨avs, hXY _ hx, hc⟩

theorem opens_bool {P : Program} {t : TypeId} (h : P.underlying t = some .bool) : Opens P t (fun avs => ∃ b, avs = [sb b]) := by
  intro H enc w fuel cs d ps ht hl
  cases fuel with
  | zero => simp [DataW.trod] at ht
  | succ fuel =>
    unfold DataW.trod at ht
    rw [h] at ht
    split at ht <;> rename_i h1 <;> try (cases h1; done)
    · exact ⟨_, ⟨_, rfl⟩, Cells.one (.sc _ rfl)⟩
    · cases ht
theorem opens_int {P : Program} {t : TypeId} {k : IntKind} (h : P.underlying t = some (.int k)) : Opens P t (fun avs => ∃ n, avs = [.sc (.int k n)] ∧ (Lit.int k n).wf = true) := by
  intro H enc w fuel cs d ps ht hl
  cases fuel with
  | zero => simp [DataW.trod] at ht
  | succ fuel =>
    unfold DataW.trod at ht
    rw [h] at ht
    split at ht <;> rename_i h1 <;> try (cases h1; done)
    · cases h1
      split at ht
      · rename_i hw
        obtain ⟨rfl, hw⟩ := hw
        exact ⟨_, ⟨_, rfl, hw⟩, Cells.one (.sc _ rfl)⟩
      · cases ht
    · cases ht
theorem opens_string {P : Program} {t : TypeId} (h : P.underlying t = some .string) : Opens P t (fun avs => ∃ s : ByteArray, avs = [.sc (.string s)] ∧ s.size ≤ reachBytes) := by
  intro H enc w fuel cs d ps ht hl
  cases fuel with
  | zero => simp [DataW.trod] at ht
  | succ fuel =>
    unfold DataW.trod at ht
    rw [h] at ht
    split at ht <;> rename_i h1 <;> try (cases h1; done)
    · split at ht
      · rename_i s hs
        simp only [Option.some.injEq, Prod.mk.injEq] at ht
        obtain ⟨rfl, rfl⟩ := ht
        refine ⟨_, ⟨s, rfl, ?_⟩, Cells.one (.sc _ rfl)⟩
        have := hl s.data.toList.length (by simp [DataW.weights])
        simpa using this
      · cases ht
    · cases ht

theorem cells?_facts {w : World} {a : Addr} {n : Nat} {cs : List Value} (h : w.cells? 0 a n = some cs) : cs.length = n ∧ ∀ (j : Nat) v, cs[j]? = some v → w.cell? (a.add j) = some v := by
  unfold World.cells? at h
  rw [if_pos (Nat.zero_le _)] at h
  have hlen := mapM_some_length h
  rw [List.length_range] at hlen
  refine ⟨hlen, fun j v hj => ?_⟩
  have hjn : j < n := by rw [← hlen]; exact (List.getElem?_eq_some_iff.1 hj).1
  have := mapM_some_get h j j (by simp [hjn])
  rw [this]; exact hj

theorem weightsAll_mem {H : Type} {P : Program} {e : TypeId} {l : List (DataW H)} {d : DataW H} (hd : d ∈ l) {n : Nat} (hn : n ∈ d.weights P e) : n ∈ DataW.weightsAll P e l := by
  induction l with
  | nil => simp at hd
  | cons x l ih =>
    rw [DataW.weightsAll, List.mem_append]
    rcases List.mem_cons.1 hd with rfl | hd
    · exact .inl hn
    · exact .inr (ih hd)

theorem cell_lt {w : World} {a : Addr} {v : Value} (h : w.cell? a = some v) : a.spot = none ∧ a.block < w.heap.size := by
  unfold World.cell? at h
  split at h
  · rename_i c e f1 f2 hb
    refine ⟨?_, (Array.getElem?_eq_some_iff.1 hb).1⟩
    cases hs : a.spot with
    | none => rfl
    | some x => simp [hs] at h
  · cases h

theorem opens_slice {P : Program} {t e : TypeId} {k : Nat} {X : List AV → Prop} (h : P.underlying t = some (.slice e)) (hk : P.cellsOf e = k) (hk0 : 0 < k) (he : Opens P e X) :
    Opens P t (fun avs => ∃ rows, avs = [.sl false k rows] ∧ (∀ row ∈ rows, X row ∧ row.length = k) ∧ rows.length * P.bytesOf e ≤ reachBytes) := by
  intro H enc w fuel cs d ps ht hl
  cases fuel with
  | zero => simp [DataW.trod] at ht
  | succ fuel =>
    unfold DataW.trod at ht
    rw [h] at ht
    split at ht <;> rename_i h1 <;> try (cases h1; done)
    · exact ⟨_, ⟨[], rfl, by simp, by simp⟩, Cells.one (.nil _ _ _ _ (by simp))⟩
    · rename_i e' a len cap
      obtain rfl : e = e' := by simpa using h1
      simp only [hk] at ht
      split at ht
      · rename_i hc
        cases hm : (List.range len).mapM (fun i => (w.cells? 0 (a.add (i * k)) k).bind (DataW.trod enc P w 0 (fun _ => true) true fuel e)) with
        | none => simp [hm] at ht
        | some elems =>
          rw [hm] at ht
          simp only [Option.bind_some, if_true, Option.map_eq_some_iff, Prod.mk.injEq] at ht
          obtain ⟨rest, _, rfl, _⟩ := ht
          have hlen : elems.length = len := by have := mapM_some_length hm; simpa using this
          -- each element
          have hel : ∀ i, i < len → ∃ csi x avs, w.cells? 0 (a.add (i * k)) k = some csi ∧ elems[i]? = some x ∧ X avs ∧ Cells w avs csi := by
            intro i hi
            have := mapM_some_get hm i i (by simp [hi])
            cases hcs : w.cells? 0 (a.add (i * k)) k with
            | none =>
              rw [hcs] at this
              have h2 : elems[i]? = some elems[i] := List.getElem?_eq_getElem (by omega)
              rw [h2] at this; simp at this
            | some csi =>
              rw [hcs] at this
              have h2 : elems[i]? = some elems[i] := List.getElem?_eq_getElem (by omega)
              rw [h2, Option.bind_some] at this
              obtain ⟨avs, hx, hcc⟩ := he H enc w fuel csi elems[i].1 elems[i].2 this (fun n hn => hl n (by
                rw [DataW.weights, h]
                simp only [List.mem_cons, List.mem_append]
                exact .inr (.inl (weightsAll_mem (List.mem_map_of_mem (List.getElem_mem (by omega))) hn))))
              exact ⟨csi, _, avs, rfl, h2, hx, hcc⟩
          have hw : ∃ f : Nat → List AV × List Value, ∀ i, i < len → w.cells? 0 (a.add (i * k)) k = some (f i).2 ∧ X (f i).1 ∧ Cells w (f i).1 (f i).2 := by
            refine ⟨fun i => if hi : i < len then ((hel i hi).choose_spec.choose_spec.choose, (hel i hi).choose) else ([], []), fun i hi => ?_⟩
            have := (hel i hi).choose_spec.choose_spec.choose_spec
            simp only [hi, dif_pos]
            exact ⟨this.1, this.2.2⟩
          obtain ⟨f, hf⟩ := hw
          let rows := (List.range len).map fun i => (f i).1
          have hrl : rows.length = len := by simp [rows]
          have hrow : ∀ i row, rows[i]? = some row → i < len ∧ row = (f i).1 := by
            intro i row hr
            have hi : i < len := by rw [← hrl]; exact (List.getElem?_eq_some_iff.1 hr).1
            refine ⟨hi, ?_⟩
            simp only [rows, List.getElem?_map, List.getElem?_range hi, Option.map_some, Option.some.injEq] at hr
            exact hr.symm
          have hrk : ∀ i, i < len → (f i).1.length = k := fun i hi => by
            rw [(hf i hi).2.2.1]; exact (cells?_facts (hf i hi).1).1
          refine ⟨_, ⟨rows, rfl, ?_, ?_⟩, Cells.one ?_⟩
          · intro row hr
            obtain ⟨i, hi⟩ := List.mem_iff_getElem?.1 hr
            obtain ⟨h2, rfl⟩ := hrow i row hi
            exact ⟨(hf i h2).2.1, hrk i h2⟩
          · have := hl ((elems.map (·.1)).length + (rest.map (·.1)).length) |> fun _ => hl (((elems.map (·.1)).length + (rest.map (·.1)).length) * P.bytesOf e) (by rw [DataW.weights, h]; simp)
            rw [hrl]
            refine Nat.le_trans (Nat.mul_le_mul_right _ ?_) this
            simp [hlen]
          · by_cases h0 : len = 0
            · subst h0
              have hr0 : rows = [] := List.eq_nil_of_length_eq_zero hrl
              rw [hr0]
              exact .nil _ _ _ _ (by simp)
            · have hcell : ∀ i j row c, rows[i]? = some row → row[j]? = some c → ∃ v, (f i).2[j]? = some v ∧ w.cell? ((a.add (i * k)).add j) = some v ∧ Fz w (Old w) c v := by
                intro i j row c h2 h3
                obtain ⟨h4, rfl⟩ := hrow i row h2
                have hj : j < (f i).2.length := by rw [← (hf i h4).2.2.1]; exact (List.getElem?_eq_some_iff.1 h3).1
                have h5 : (f i).2[j]? = some (f i).2[j] := List.getElem?_eq_getElem hj
                exact ⟨_, h5, (cells?_facts (hf i h4).1).2 j _ h5, (hf i h4).2.2.2 j c _ h3 h5⟩
              obtain ⟨r0, hr0⟩ : ∃ r0, rows[0]? = some r0 := ⟨rows[0]'(by omega), List.getElem?_eq_getElem _⟩
              obtain ⟨_, e0⟩ := hrow 0 r0 hr0
              obtain ⟨c0, hc0⟩ : ∃ c0, r0[0]? = some c0 := ⟨r0[0]'(by rw [e0, hrk 0 (by omega)]; exact hk0), List.getElem?_eq_getElem _⟩
              obtain ⟨v0, _, hv0, _⟩ := hcell 0 0 r0 c0 hr0 hc0
              obtain ⟨hsp, hblk⟩ := cell_lt hv0
              obtain ⟨b, off, sp⟩ := a
              obtain rfl : sp = none := by
                unfold Addr.add at hsp
                simp only [if_true] at hsp
                split at hsp
                · exact hsp
                · cases sp <;> simp_all
              rw [Addr.add_lit, Addr.add_lit] at hblk
              have hsl := Fz.sl (w := w) (S := Old w) false k rows b off cap (fun i j => ((f i).2[j]?).getD undef) (by simp) (by rw [hrl]; exact hc.2.1) hblk (by
                intro row hr
                obtain ⟨i, hi⟩ := List.mem_iff_getElem?.1 hr
                obtain ⟨h2, rfl⟩ := hrow i row hi
                exact hrk i h2) (by
                intro i j row c h2 h3
                obtain ⟨v, h4, h5, _⟩ := hcell i j row c h2 h3
                rw [h4]
                rw [Addr.add_lit, Addr.add_lit] at h5
                rw [show off + (i * k + j) = off + i * k + j from by omega]
                exact h5) (by
                intro i j row c h2 h3
                obtain ⟨v, h4, _, h6⟩ := hcell i j row c h2 h3
                rw [h4]
                exact h6)
              rw [hrl] at hsl
              exact hsl
      · cases ht
    · cases ht
end Go.Abs
namespace Go.Abs
open Go.ChangeShapes Go.WideShapes Go.ChangeAt Go.RowKit

def CatX : List (List AV → Prop) → List AV → Prop
  | [], avs => avs = []
  | X :: Xs, avs => ∃ a r, avs = a ++ r ∧ X a ∧ CatX Xs r

def OpensL (P : Program) : List Field → Nat → List (List AV → Prop) → Prop
  | [], _, [] => True
  | f :: fs, off, X :: Xs => f.offset = off ∧ Opens P f.type X ∧ OpensL P fs (off + P.cellsOf f.type) Xs
  | _, _, _ => False
def endOf (P : Program) : List Field → Nat → Nat
  | [], off => off
  | f :: fs, off => endOf P fs (off + P.cellsOf f.type)

theorem opens_fields {P : Program} {H : Type} {enc : TypeId × Value → H} {w : World} {fuel : Nat} {cs : List Value} (fs : List Field) : ∀ (off : Nat) (Xs : List (List AV → Prop)) (xs : List (DataW H × List MemPlace)), OpensL P fs off Xs → endOf P fs off ≤ cs.length →
    fs.mapM (fun f => DataW.trod enc P w 0 (fun _ => true) true fuel f.type ((cs.drop f.offset).take (P.cellsOf f.type))) = some xs → (∀ n ∈ DataW.weightsEach P (fs.map (·.type)) (xs.map (·.1)), n ≤ reachBytes) →
    ∃ avs, CatX Xs avs ∧ Cells w avs ((cs.drop off).take (endOf P fs off - off)) := by
  induction fs with
  | nil =>
    intro off Xs xs hO hle hm hw
    cases Xs with
    | nil => exact ⟨[], rfl, by simp [endOf, Cells.nil]⟩
    | cons => exact hO.elim
  | cons f fs ih =>
    intro off Xs xs hO hle hm hw
    cases Xs with
    | nil => exact hO.elim
    | cons X Xs =>
      obtain ⟨ho, hX, hO⟩ := hO
      rw [List.mapM_cons] at hm
      cases h1 : DataW.trod enc P w 0 (fun _ => true) true fuel f.type ((cs.drop f.offset).take (P.cellsOf f.type)) with
      | none => simp [h1] at hm
      | some x =>
        cases h2 : fs.mapM (fun f => DataW.trod enc P w 0 (fun _ => true) true fuel f.type ((cs.drop f.offset).take (P.cellsOf f.type))) with
        | none => simp [h1, h2] at hm
        | some ys =>
          simp only [h1, h2, Option.pure_def, Option.bind_eq_bind, Option.bind_some, Option.some.injEq] at hm
          subst hm
          simp only [List.map_cons, DataW.weightsEach, List.mem_append] at hw
          obtain ⟨a, ha, hca⟩ := hX H enc w fuel _ x.1 x.2 h1 (fun n hn => hw n (.inl hn))
          obtain ⟨r, hr, hcr⟩ := ih (off + P.cellsOf f.type) Xs ys hO (by simpa [endOf] using hle) h2 (fun n hn => hw n (.inr hn))
          refine ⟨a ++ r, ⟨a, r, rfl, ha, hr⟩, ?_⟩
          have hge : ∀ (l : List Field) (o : Nat), o ≤ endOf P l o := by
            intro l
            induction l with
            | nil => intro o; exact Nat.le_refl _
            | cons g l ih => intro o; have := ih (o + P.cellsOf g.type); simp only [endOf]; omega
          have h3 := hge fs (off + P.cellsOf f.type)
          have e : (cs.drop off).take (endOf P (f :: fs) off - off) = (cs.drop f.offset).take (P.cellsOf f.type) ++ (cs.drop (off + P.cellsOf f.type)).take (endOf P fs (off + P.cellsOf f.type) - (off + P.cellsOf f.type)) := by
            rw [ho, ← List.drop_drop]
            simp only [endOf]
            rw [show endOf P fs (off + P.cellsOf f.type) - off = P.cellsOf f.type + (endOf P fs (off + P.cellsOf f.type) - (off + P.cellsOf f.type)) from by omega, List.take_add]
          rw [e]
          exact hca.append hcr

theorem opens_struct {P : Program} {t : TypeId} {fs : Array Field} {Xs : List (List AV → Prop)} (h : P.underlying t = some (.struct fs)) (hO : OpensL P fs.toList 0 Xs) (hend : endOf P fs.toList 0 = P.cellsOf t) : Opens P t (CatX Xs) := by
  intro H enc w fuel cs d ps ht hl
  cases fuel with
  | zero => simp [DataW.trod] at ht
  | succ fuel =>
    simp only [DataW.trod, h] at ht
    · split at ht
      · rename_i hc
        cases hm : fs.toList.mapM (fun f => DataW.trod enc P w 0 (fun _ => true) true fuel f.type ((cs.drop f.offset).take (P.cellsOf f.type))) with
        | none => simp [hm] at ht
        | some xs =>
          simp only [hm, Option.map_some, Option.some.injEq, Prod.mk.injEq] at ht
          obtain ⟨rfl, rfl⟩ := ht
          obtain ⟨avs, hX, hcl⟩ := opens_fields fs.toList 0 Xs xs hO (by rw [hend, hc]; exact Nat.le_refl _) hm (fun n hn => hl n (by rw [DataW.weights, h]; exact hn))
          refine ⟨avs, hX, ?_⟩
          rw [hend, ← hc] at hcl
          simpa using hcl
      · cases ht

theorem opens_array {P : Program} {t e : TypeId} {n k : Nat} {X : List AV → Prop} (h : P.underlying t = some (.array n e)) (hk : P.cellsOf e = k) (hkt : P.cellsOf t = n * k) (he : Opens P e X) :
    Opens P t (fun avs => ∃ parts : List (List AV), parts.length = n ∧ avs = parts.flatten ∧ ∀ p ∈ parts, X p ∧ p.length = k) := by
  intro H enc w fuel cs d ps ht hl
  cases fuel with
  | zero => simp [DataW.trod] at ht
  | succ fuel =>
    simp only [DataW.trod, h] at ht
    · split at ht
      · rename_i hc
        cases hm : (List.range n).mapM (fun i => DataW.trod enc P w 0 (fun _ => true) true fuel e ((cs.drop (i * P.cellsOf e)).take (P.cellsOf e))) with
        | none => simp [hm] at ht
        | some xs =>
          simp only [hm, Option.map_some, Option.some.injEq, Prod.mk.injEq] at ht
          obtain ⟨rfl, rfl⟩ := ht
          rw [hk] at hm
          have hlen : xs.length = n := by have := mapM_some_length hm; simpa using this
          have hel : ∀ i, i < n → ∃ avs, X avs ∧ Cells w avs ((cs.drop (i * k)).take k) := by
            intro i hi
            have := mapM_some_get hm i i (by simp [hi])
            have h2 : xs[i]? = some xs[i] := List.getElem?_eq_getElem (by omega)
            rw [h2] at this
            exact he H enc w fuel _ xs[i].1 xs[i].2 this (fun m hm' => hl m (by
              rw [DataW.weights, h]
              exact weightsAll_mem (List.mem_map_of_mem (List.getElem_mem (by omega))) hm'))
          have key : ∀ m, m ≤ n → ∃ parts : List (List AV), parts.length = m ∧ (∀ p ∈ parts, X p ∧ p.length = k) ∧ Cells w parts.flatten (cs.take (m * k)) := by
            intro m
            induction m with
            | zero => intro _; exact ⟨[], rfl, by simp, by simp [Cells.nil]⟩
            | succ m ih =>
              intro hm'
              obtain ⟨parts, p1, p2, p3⟩ := ih (by omega)
              obtain ⟨avs, q1, q2⟩ := hel m (by omega)
              have hlk : avs.length = k := by
                rw [q2.1, List.length_take, List.length_drop, hc, hkt]
                have : (m + 1) * k ≤ n * k := Nat.mul_le_mul_right _ (by omega)
                rw [Nat.add_mul] at this; omega
              refine ⟨parts ++ [avs], by simp [p1], ?_, ?_⟩
              · intro p hp
                rcases List.mem_append.1 hp with hp | hp
                · exact p2 p hp
                · simp at hp; subst hp; exact ⟨q1, hlk⟩
              · rw [List.flatten_append, Nat.add_mul, Nat.one_mul, List.take_add]
                simpa using p3.append q2
          obtain ⟨parts, p1, p2, p3⟩ := key n (Nat.le_refl _)
          refine ⟨parts.flatten, ⟨parts, p1, rfl, p2⟩, ?_⟩
          rw [← hkt, ← hc, List.take_length] at p3
          exact p3
      · cases ht

def argAV (P : Program) (t : TypeId) (avs : List AV) : AV := if (match P.underlying t with | some (.struct _) => true | some (.array _ _) => true | _ => false) = true then .agg avs else avs.headD .dead

def ArgsX (P : Program) : List TypeId → List (List AV → Prop) → List AV → Prop
  | [], [], as' => as' = []
  | t :: ts, X :: Xs, as' => ∃ avs r, as' = argAV P t avs :: r ∧ X avs ∧ ArgsX P ts Xs r
  | _, _, _ => False
def OpensA (P : Program) : List TypeId → List (List AV → Prop) → Prop
  | [], [] => True
  | t :: ts, X :: Xs => Opens P t X ∧ OpensA P ts Xs
  | _, _ => False

theorem args_open {P : Program} {H : Type} {enc : TypeId × Value → H} {w : World} {base : Nat} (ts : List TypeId) : ∀ (Xs : List (List AV → Prop)) (vs : List Value) (ds : List (DataW H)) (ps : List MemPlace), OpensA P ts Xs → DataW.TrodAll enc P w 0 (fun _ => true) true ts vs ds ps →
    (∀ (j : Nat) t v, ts[j]? = some t → vs[j]? = some v → Value.okWide P w .any base t v) → (∀ n ∈ DataW.weightsEach P ts ds, n ≤ reachBytes) →
    ∃ as' : List AV, ArgsX P ts Xs as' ∧ as'.length = vs.length ∧ ∀ (i : Nat) a v, as'[i]? = some a → vs[i]? = some v → Fz w (Old w) a v := by
  induction ts with
  | nil =>
    intro Xs vs ds ps hO hT hv hw
    obtain ⟨rfl, rfl, rfl⟩ := trodAll_nil hT
    cases Xs with
    | nil => exact ⟨[], rfl, rfl, fun i a v h => by simp at h⟩
    | cons => exact hO.elim
  | cons t ts ih =>
    intro Xs vs ds ps hO hT hv hw
    cases Xs with
    | nil => exact hO.elim
    | cons X Xs =>
      obtain ⟨hX, hO⟩ := hO
      obtain ⟨v, vs1, d, ds1, p, q, rfl, rfl, rfl, ⟨fuel, h1⟩, h2⟩ := trodAll_cons hT
      simp only [DataW.weightsEach, List.mem_append] at hw
      obtain ⟨avs, hx, hc⟩ := hX H enc w fuel _ d p h1 (fun n hn => hw n (.inl hn))
      obtain ⟨r, hr1, hr2, hr3⟩ := ih Xs vs1 ds1 q hO h2 (fun j t' v' ht' hv' => hv (j + 1) t' v' (by simpa using ht') (by simpa using hv')) (fun n hn => hw n (.inr hn))
      have hval := hv 0 t v rfl rfl
      refine ⟨argAV P t avs :: r, ⟨avs, r, rfl, hx, hr1⟩, by simp [hr2], ?_⟩
      intro i a u ha hu
      cases i with
      | succ i => simp at ha hu; exact hr3 i a u ha hu
      | zero =>
        simp only [List.getElem?_cons_zero, Option.some.injEq] at ha hu
        subst ha; subst hu
        unfold argAV
        by_cases hag : (match P.underlying t with | some (.struct _) => true | some (.array _ _) => true | _ => false) = true
        · rw [if_pos hag]
          obtain ⟨cs, rfl⟩ : ∃ cs, v = .agg cs := by
            unfold Value.okWide at hval
            split at hval
            · exact ⟨_, hval.choose_spec.1⟩
            · exact ⟨_, hval.choose_spec.1⟩
            · rename_i h3 h4
              exfalso
              split at hag
              · rename_i fs hh; exact h3 fs hh
              · rename_i n e hh; exact h4 n e hh
              · cases hag
          have := Fz.agg (w := w) (S := Old w) avs cs.toList (by rw [hc.1]; rfl) (fun i a v ha hv => hc.2 i a v ha hv)
          simpa using this
        · rw [if_neg hag]
          have hcell : v.cells.toList = [v] := by
            unfold Value.okWide at hval
            split at hval
            · rename_i hh; simp [hh] at hag
            · rename_i hh; simp [hh] at hag
            · cases v with
              | agg cs =>
                exfalso
                unfold Cell.okWide at hval
                split at hval <;> rename_i hv' <;> try (cases hv'; done)
                · simp [Cell.ok] at hval
              | _ => rfl
          rw [hcell] at hc
          obtain ⟨a, rfl⟩ : ∃ a, avs = [a] := List.length_eq_one_iff.1 hc.1
          exact hc.2 0 a v rfl rfl
end Go.Abs
namespace Go.Abs
open Go.ChangeShapes Go.WideShapes Go.ChangeAt Go.RowKit

theorem fz_trees {w : World} {S : Nat → Prop} (cs : List AV) : ∀ (vs : List Value), vs.length = cs.length → (∀ (i : Nat) a v, cs[i]? = some a → vs[i]? = some v → ∃ D : DV, D.er = a ∧ D.ann = v ∧ Ok w S D (fun _ => False)) →
    ∃ Ds : List DV, Ds.map DV.er = cs ∧ Ds.map DV.ann = vs ∧ ∀ D ∈ Ds, Ok w S D (fun _ => False) := by
  induction cs with
  | nil => intro vs h _; cases vs with | nil => exact ⟨[], rfl, rfl, by simp⟩ | cons => simp at h
  | cons a cs ih =>
    intro vs h hf
    cases vs with
    | nil => simp at h
    | cons v vs =>
      obtain ⟨Ds, d1, d2, d3⟩ := ih vs (by simpa using h) (fun i a v h1 h2 => hf (i + 1) a v (by simpa using h1) (by simpa using h2))
      obtain ⟨D, e1, e2, e3⟩ := hf 0 a v rfl rfl
      refine ⟨D :: Ds, by simp [d1, e1], by simp [d2, e2], ?_⟩
      intro X hX
      rcases List.mem_cons.1 hX with rfl | hX
      · exact e3
      · exact d3 X hX
theorem fz_tree {w : World} {S : Nat → Prop} {a : AV} {v : Value} (h : Fz w S a v) : ∃ D : DV, D.er = a ∧ D.ann = v ∧ Ok w S D (fun _ => False) := by
  induction h with
  | sc v hp => exact ⟨.lf (.sc v) v, by simp, by simp, .lf _ _ _ ⟨rfl, hp⟩ (fun _ h => h)⟩
  | dead v => exact ⟨.lf .dead v, by simp, by simp, .lf _ _ _ trivial (fun _ h => h)⟩
  | nil x k a c hx => exact ⟨.lf (.sl x k []) (.slice a 0 c), by simp, by simp, .lf _ _ _ (Fz.nil x k a c hx) (fun _ h => h)⟩
  | sl x k rows b off c vs hx hlc hS hk hc hr ih => exact ⟨.lf (.sl x k rows) (.slice (some ⟨b, off, none⟩) rows.length c), by simp, by simp, .lf _ _ _ (Fz.sl x k rows b off c vs hx hlc hS hk hc hr) (fun _ h => h)⟩
  | agg cs vs hs h ih =>
    obtain ⟨Ds, d1, d2, d3⟩ := fz_trees cs vs hs ih
    exact ⟨.agg Ds, by simp [d1], by simp [d2], Ok_agg_iff.2 (OkL_empty d3)⟩
  | tup cs vs hs h ih =>
    obtain ⟨Ds, d1, d2, d3⟩ := fz_trees cs vs hs ih
    exact ⟨.tup Ds, by simp [d1], by simp [d2], Ok_tup_iff.2 (OkL_empty d3)⟩

section
variable {H : Type} {enc : TypeId × Value → H} {P : Program}
theorem post_of_below {f : Func} {s : ChangeSpec} {apart fresh handsOn again : Bool} {W W' : World} {args : Array Value} {v : Value} {ds gs : List (DataW H)} {before pa pv : List MemPlace}
    (hW : DataW.Whole enc P f.params.toList s.vars apart W args.toList ds gs before)
    (hres : ∀ (b : Nat) (sp : Nat → Bool) (hd : Bool), DataW.TrodAll enc P W' b sp hd f.resultTypes.toList (v.resultList f.resultTypes.size) (s.fn H (ds ++ gs)).results [])
    (hargs : ∀ sp : Nat → Bool, (∀ p ∈ before, sp p.block = true) → DataW.TrodAll enc P W' 0 sp true f.params.toList args.toList (s.fn H (ds ++ gs)).args pa)
    (hvars : ∀ sp : Nat → Bool, (∀ p ∈ before, sp p.block = true) → DataW.TrodVars enc P W' sp s.vars (s.fn H (ds ++ gs)).vars pv)
    (hps : before = pa ++ pv) (hb : Below W.heap.size W W')
    (hok : ∀ (j : Nat) (t : TypeId) (r : Value), f.resultTypes[j]? = some t → (v.resultList f.resultTypes.size)[j]? = some r → Value.okWide P W' .any 0 t r) :
    s.post enc P f apart fresh handsOn again W args v W' := by
  have hlt : ∀ p ∈ before, p.block < W.heap.size := fun p hp => hW.lt p hp
  have hold : ∀ p ∈ before, (fun b => decide (b < W.heap.size)) p.block = true := fun p hp => by simpa using hlt p hp
  refine ⟨ds, gs, before, [], pa, pv, hW, hres _ _ _, hargs _ hold, hvars _ hold, World.keptBut_mono (fun p hp => ⟨hp, ?_⟩) (hb.frame (· ∈ before)), fun _ => ?_⟩
  · rw [hps, List.mem_append] at hp
    exact Or.inr hp
  · obtain ⟨_, _, _, _, _, hz, hn⟩ := hW
    refine ⟨hok, _, _, ([] ++ pa) ++ pv, ⟨[] ++ pa, pv, trodAll_append (hargs _ (fun _ _ => rfl)) (hres _ _ _), hvars _ (fun _ _ => rfl), rfl, ?_, ?_⟩, ?_⟩
    · intro b off hp
      have hin : MemPlace.cell b off ∈ before := by rw [hps]; simpa using hp
      rw [hb.frozen (hlt _ hin)]
      exact hz b off hin
    · intro ha
      have := hn ha
      rw [hps] at this
      simpa using this
    · intro p hp _
      rw [hps]
      simpa using hp

theorem trodAll_stays (hl : laidOutB P = true) {W W' : World} {sp : Nat → Bool} (ts : List TypeId) : ∀ {vs : List Value} {ds : List (DataW H)} {ps : List MemPlace}, (∀ t ∈ ts, P.readableRec t = true ∧ t < P.types.size) →
    DataW.TrodAll enc P W 0 (fun _ => true) true ts vs ds ps → (∀ p ∈ ps, W.sameAt W' p) → (∀ p ∈ ps, sp p.block = true) → DataW.TrodAll enc P W' 0 sp true ts vs ds ps := by
  induction ts with
  | nil =>
    intro vs ds ps _ hT _ _
    obtain ⟨rfl, rfl, rfl⟩ := trodAll_nil hT
    exact rfl
  | cons t ts ih =>
    intro vs ds ps hr hT h1 h2
    obtain ⟨v, vs1, d, ds1, p, q, rfl, rfl, rfl, g1, g2⟩ := trodAll_cons hT
    have ht := hr t (by simp)
    exact ⟨p, q, WideElems.Trod_stays hl ht.1 ht.2 g1 (fun x hx => h1 x (by simp [hx])) (fun x hx => h2 x (by simp [hx])), ih (fun t ht => hr t (by simp [ht])) g2 (fun x hx => h1 x (by simp [hx])) (fun x hx => h2 x (by simp [hx])), rfl⟩

theorem law_contract {fn : Func} {f : Nat} {s : ChangeSpec} {tb : TypeId} {Xs : List (List AV → Prop)} {fresh handsOn again : Bool} (hv : s.vars = []) (hrt : fn.resultTypes = #[tb]) (htb : P.underlying tb = some .bool)
    (hl : laidOutB P = true) (hrd : ∀ t ∈ fn.params.toList, P.readableRec t = true ∧ t < P.types.size) (hO : OpensA P fn.params.toList Xs) (hS : ∀ avs, ArgsX P fn.params.toList Xs avs → Says P f avs (sb true))
    (hspec : ∀ ds : List (DataW H), ds.length = fn.params.toList.length → s.fn H ds = { results := [.lit (.bool true)], args := ds })
    {W : World} {base : Nat} {args : Array Value} {ds gs : List (DataW H)} {before : List MemPlace}
    (hval : ∀ (j : Nat) t v, fn.params[j]? = some t → args[j]? = some v → Value.okWide P W .any base t v) (hW : DataW.Whole enc P fn.params.toList s.vars false W args.toList ds gs before)
    (hwt : (DataW.weightsEach P (fn.params.toList ++ s.plain.varTypes P) (ds ++ gs)).all (· ≤ reachBytes) = true) :
    Calls P f args W fun e W' => ∃ v, e = .returned v ∧ s.post enc P fn false fresh handsOn again W args v W' := by
  have hW' := hW
  obtain ⟨p, q, hA, hV, rfl, hfz, hnd⟩ := hW
  rw [hv] at hV
  obtain ⟨rfl, rfl⟩ := trodVars_none hV
  simp only [List.append_nil] at hW' hwt
  have hlds : ds.length = fn.params.toList.length := by
    have : ∀ (ts : List TypeId) {vs : List Value} {ds : List (DataW H)} {ps : List MemPlace}, DataW.TrodAll enc P W 0 (fun _ => true) true ts vs ds ps → ds.length = ts.length := by
      intro ts
      induction ts with
      | nil => intro vs ds ps h; obtain ⟨rfl, rfl, rfl⟩ := trodAll_nil h; rfl
      | cons t ts ih => intro vs ds ps h; obtain ⟨v, vs1, d, ds1, p, q, rfl, rfl, rfl, g1, g2⟩ := trodAll_cons h; simp [ih g2]
    exact this _ hA
  have hwts : ∀ n ∈ DataW.weightsEach P fn.params.toList ds, n ≤ reachBytes := by
    have key : ∀ (ts us : List TypeId) (ds : List (DataW H)), ds.length = ts.length → DataW.weightsEach P (ts ++ us) ds = DataW.weightsEach P ts ds := by
      intro ts
      induction ts with
      | nil =>
        intro us ds h
        obtain rfl : ds = [] := List.eq_nil_of_length_eq_zero h
        cases us <;> rfl
      | cons t ts ih =>
        intro us ds h
        cases ds with
        | nil => simp at h
        | cons d ds => simp only [List.cons_append, DataW.weightsEach]; rw [ih us ds (by simpa using h)]
    rw [key _ _ _ hlds] at hwt
    simpa using hwt
  obtain ⟨avs, hX, hlen, hfzv⟩ := args_open (base := base) fn.params.toList Xs args.toList ds p hO hA (fun j t v h1 h2 => hval j t v (by simpa using h1) (by simpa using h2)) hwts
  -- the call
  have hds : ∃ Ds : List DV, Ds.map DV.er = avs ∧ Ds.map DV.ann = args.toList ∧ OkL W (Old W) Ds (fun _ => False) := by
    obtain ⟨Ds, d1, d2, d3⟩ := fz_trees (w := W) (S := Old W) avs args.toList hlen.symm (fun i a v h1 h2 => fz_tree (hfzv i a v h1 h2))
    exact ⟨Ds, d1, d2, OkL_empty d3⟩
  obtain ⟨Ds, d1, d2, d3⟩ := hds
  have hcalls := hS avs hX W (Old W) Ds (fun _ => False) d1 (Ok_tup_iff.2 d3) (fun b hb => hb)
  rw [d2] at hcalls
  have harr : args.toList.toArray = args := by simp
  rw [harr] at hcalls
  refine hcalls.mono ?_
  rintro e W' ⟨r, os, S', F', rfl, hre, _, _, hok, hext, _⟩
  obtain ⟨Fa, Fb, hra, _⟩ := Ok_tup_iff.1 hok
  have hrv : r.ann = .bool true := by
    cases hra with
    | lf a v _ ha hF => rw [er_lf] at hre; subst hre; simpa using ha.1
    | nil => simp at hre
    | own => simp at hre
    | agg => simp at hre
    | tup => simp at hre
  have hb : Below W.heap.size W W' := ⟨hext.os, hext.tape, hext.output, hext.size, fun k hk => hext.block k hk id⟩
  rw [hrv]
  refine ⟨_, rfl, post_of_below (pa := p) (pv := []) hW' ?_ ?_ ?_ (by simp) hb ?_⟩
  · intro b sp hd
    rw [List.append_nil, hspec ds hlds, hrt]
    exact trodAll_cons_mk (shut_bool htb _) trodAll_mk0
  · intro sp hsp
    rw [List.append_nil, hspec ds hlds]
    exact trodAll_stays hl _ hrd hA (fun x hx => hb.same (hW'.lt x hx)) (fun x hx => hsp x hx)
  · intro sp hsp
    rw [List.append_nil, hspec ds hlds, hv]
    exact rfl
  · exact ok_one hrt rfl (okWide_bool_mk htb _)
end
end Go.Abs
