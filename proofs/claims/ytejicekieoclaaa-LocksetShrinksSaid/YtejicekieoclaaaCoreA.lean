/- Abstract values of Go memory, the code with its types resolved, and a calculus of abstract states. -/
import Derived.Orders
import Derived.Deep.LoopGhost
namespace Go.Abs

abbrev Step := Nat × Nat × Nat

inductive AV where
  | sc (v : Value)
  | sl (x : Bool) (k : Nat) (rows : List (List AV))
  | own (b : Bool) (k : Nat) (rows : List (List AV))
  | agg (cs : List AV)
  | tup (cs : List AV)
  | al (r : Nat) (p : List Step)
  | adr (r : Nat) (p : List Step) (i j k : Nat)
  | fp (cs : List AV)
  | dead
  | un
  deriving Inhabited

abbrev Sg := Nat → AV

def upd {α : Type} (σ : Nat → α) (d : Nat) (v : α) : Nat → α := fun s => if s = d then v else σ s

theorem upd_same {α : Type} (σ : Nat → α) (d : Nat) (v : α) : upd σ d v d = v := by simp [upd]
theorem upd_ne {α : Type} (σ : Nat → α) {d s : Nat} (v : α) (h : s ≠ d) : upd σ d v s = σ s := by simp [upd, h]

def sub : AV → List Step → Option AV
  | a, [] => some a
  | .own _ _ rows, (i, j, _) :: p => match rows[i]? with
    | some row => match row[j]? with
      | some c => sub c p
      | none => none
    | none => none
  | .agg cs, (_, j, _) :: p => match cs[j]? with
    | some c => sub c p
    | none => none
  | .tup cs, (_, j, _) :: p => match cs[j]? with
    | some c => sub c p
    | none => none
  | _, _ :: _ => none

def put : AV → List Step → AV → Option AV
  | _, [], x => some x
  | .own b k rows, (i, j, _) :: p, x => match rows[i]? with
    | some row => match row[j]? with
      | some c => match put c p x with
        | some c' => some (.own b k (rows.set i (row.set j c')))
        | none => none
      | none => none
    | none => none
  | .agg cs, (_, j, _) :: p, x => match cs[j]? with
    | some c => match put c p x with
      | some c' => some (.agg (cs.set j c'))
      | none => none
    | none => none
  | .tup cs, (_, j, _) :: p, x => match cs[j]? with
    | some c => match put c p x with
      | some c' => some (.tup (cs.set j c'))
      | none => none
    | none => none
  | _, _ :: _, _ => none

inductive DV where
  | lf (a : AV) (v : Value)
  | own (h : Value) (b : Bool) (k : Nat) (rows : List (List DV))
  | agg (cs : List DV)
  | tup (cs : List DV)
  deriving Inhabited

mutual
def DV.er : DV → AV
  | .lf a _ => a
  | .own _ b k rows => .own b k (erR rows)
  | .agg cs => .agg (erL cs)
  | .tup cs => .tup (erL cs)
def erL : List DV → List AV
  | [] => []
  | d :: r => d.er :: erL r
def erR : List (List DV) → List (List AV)
  | [] => []
  | d :: r => erL d :: erR r
end

theorem erL_eq (l : List DV) : erL l = l.map DV.er := by
  induction l with
  | nil => rfl
  | cons d r ih => simp [erL, ih]
theorem erR_eq (l : List (List DV)) : erR l = l.map (·.map DV.er) := by
  induction l with
  | nil => rfl
  | cons d r ih => simp [erR, ih, erL_eq]

mutual
def DV.ann : DV → Value
  | .lf _ v => v
  | .own h _ _ _ => h
  | .agg cs => .agg (annL cs).toArray
  | .tup cs => .tuple (annL cs).toArray
def annL : List DV → List Value
  | [] => []
  | d :: r => d.ann :: annL r
end
theorem annL_eq (l : List DV) : annL l = l.map DV.ann := by
  induction l with
  | nil => rfl
  | cons d r ih => simp [annL, ih]

@[simp] theorem er_lf (a : AV) (v : Value) : (DV.lf a v).er = a := by simp [DV.er]
@[simp] theorem er_own (h : Value) (b : Bool) (k : Nat) (rows : List (List DV)) : (DV.own h b k rows).er = .own b k (rows.map (·.map DV.er)) := by simp [DV.er, erR_eq]
@[simp] theorem er_agg (cs : List DV) : (DV.agg cs).er = .agg (cs.map DV.er) := by simp [DV.er, erL_eq]
@[simp] theorem er_tup (cs : List DV) : (DV.tup cs).er = .tup (cs.map DV.er) := by simp [DV.er, erL_eq]
@[simp] theorem ann_lf (a : AV) (v : Value) : (DV.lf a v).ann = v := by simp [DV.ann]
@[simp] theorem ann_own (h : Value) (b : Bool) (k : Nat) (rows : List (List DV)) : (DV.own h b k rows).ann = h := by simp [DV.ann]
@[simp] theorem ann_agg (cs : List DV) : (DV.agg cs).ann = .agg (cs.map DV.ann).toArray := by simp [DV.ann, annL_eq]
@[simp] theorem ann_tup (cs : List DV) : (DV.tup cs).ann = .tuple (cs.map DV.ann).toArray := by simp [DV.ann, annL_eq]

def subD : DV → List Step → Option DV
  | a, [] => some a
  | .own _ _ _ rows, (i, j, _) :: p => match rows[i]? with
    | some row => match row[j]? with
      | some c => subD c p
      | none => none
    | none => none
  | .agg cs, (_, j, _) :: p => match cs[j]? with
    | some c => subD c p
    | none => none
  | .tup cs, (_, j, _) :: p => match cs[j]? with
    | some c => subD c p
    | none => none
  | _, _ :: _ => none

def putD : DV → List Step → DV → Option DV
  | _, [], x => some x
  | .own h b k rows, (i, j, _) :: p, x => match rows[i]? with
    | some row => match row[j]? with
      | some c => match putD c p x with
        | some c' => some (.own h b k (rows.set i (row.set j c')))
        | none => none
      | none => none
    | none => none
  | .agg cs, (_, j, _) :: p, x => match cs[j]? with
    | some c => match putD c p x with
      | some c' => some (.agg (cs.set j c'))
      | none => none
    | none => none
  | .tup cs, (_, j, _) :: p, x => match cs[j]? with
    | some c => match putD c p x with
      | some c' => some (.tup (cs.set j c'))
      | none => none
    | none => none
  | _, _ :: _, _ => none

def leafy : AV → Bool
  | .own .. | .agg _ | .tup _ => false
  | _ => true

inductive Lfy : DV → Prop
  | lf (a v) (h : leafy a = true) : Lfy (.lf a v)
  | own (h b k rows) (hr : ∀ (i j : Nat) row d, rows[i]? = some row → row[j]? = some d → Lfy d) : Lfy (.own h b k rows)
  | agg (cs) (hr : ∀ (i : Nat) d, cs[i]? = some d → Lfy d) : Lfy (.agg cs)
  | tup (cs) (hr : ∀ (i : Nat) d, cs[i]? = some d → Lfy d) : Lfy (.tup cs)

theorem Lfy.subD {d x : DV} {p : List Step} (h : Lfy d) (hs : subD d p = some x) : Lfy x := by
  induction p generalizing d with
  | nil => simp only [Abs.subD, Option.some.injEq] at hs; exact hs ▸ h
  | cons s p ih =>
    obtain ⟨i, j, k⟩ := s
    cases h with
    | lf a v h => simp [Abs.subD] at hs
    | own hh b k' rows hr =>
      simp only [Abs.subD] at hs
      split at hs
      · split at hs
        · rename_i row hrow _ c hc; exact ih (hr i j row c hrow hc) hs
        · cases hs
      · cases hs
    | agg cs hr =>
      simp only [Abs.subD] at hs
      split at hs
      · rename_i c hc; exact ih (hr j c hc) hs
      · cases hs
    | tup cs hr =>
      simp only [Abs.subD] at hs
      split at hs
      · rename_i c hc; exact ih (hr j c hc) hs
      · cases hs

theorem subD_of_sub {d : DV} {p : List Step} {a : AV} (h : Lfy d) (hs : sub d.er p = some a) : ∃ x, subD d p = some x ∧ x.er = a := by
  induction p generalizing d with
  | nil => simp only [sub, Option.some.injEq] at hs; exact ⟨d, rfl, hs⟩
  | cons s p ih =>
    obtain ⟨i, j, k⟩ := s
    cases h with
    | lf b v h => cases b <;> simp_all [sub, leafy]
    | own hh b k' rows hr =>
      simp only [er_own, sub, List.getElem?_map] at hs
      cases hi : rows[i]? with
      | none => simp [hi] at hs
      | some row =>
        simp only [hi, Option.map_some, List.getElem?_map] at hs
        cases hj : row[j]? with
        | none => simp [hj] at hs
        | some c =>
          simp only [hj, Option.map_some] at hs
          obtain ⟨x, hx, he⟩ := ih (hr i j row c hi hj) hs
          exact ⟨x, by simp [subD, hi, hj, hx], he⟩
    | agg cs hr =>
      simp only [er_agg, sub, List.getElem?_map] at hs
      cases hj : cs[j]? with
      | none => simp [hj] at hs
      | some c =>
        simp only [hj, Option.map_some] at hs
        obtain ⟨x, hx, he⟩ := ih (hr j c hj) hs
        exact ⟨x, by simp [subD, hj, hx], he⟩
    | tup cs hr =>
      simp only [er_tup, sub, List.getElem?_map] at hs
      cases hj : cs[j]? with
      | none => simp [hj] at hs
      | some c =>
        simp only [hj, Option.map_some] at hs
        obtain ⟨x, hx, he⟩ := ih (hr j c hj) hs
        exact ⟨x, by simp [subD, hj, hx], he⟩

theorem putD_of_put {d : DV} {p : List Step} {a : AV} (x : DV) (h : Lfy d) (hs : put d.er p x.er = some a) : ∃ t, putD d p x = some t ∧ t.er = a := by
  induction p generalizing d a with
  | nil => simp only [put, Option.some.injEq] at hs; exact ⟨x, rfl, hs⟩
  | cons s p ih =>
    obtain ⟨i, j, k⟩ := s
    cases h with
    | lf b v h => cases b <;> simp_all [put, leafy]
    | own hh b k' rows hr =>
      simp only [er_own, put, List.getElem?_map] at hs
      cases hi : rows[i]? with
      | none => simp [hi] at hs
      | some row =>
        simp only [hi, Option.map_some, List.getElem?_map] at hs
        cases hj : row[j]? with
        | none => simp [hj] at hs
        | some c =>
          simp only [hj, Option.map_some] at hs
          cases hp : put c.er p x.er with
          | none => simp [hp] at hs
          | some c' =>
            simp only [hp, Option.some.injEq] at hs
            obtain ⟨t, ht, he⟩ := ih (hr i j row c hi hj) hp
            refine ⟨.own hh b k' (rows.set i (row.set j t)), by simp [putD, hi, hj, ht], ?_⟩
            rw [← hs, ← he]
            simp [List.map_set]
    | agg cs hr =>
      simp only [er_agg, put, List.getElem?_map] at hs
      cases hj : cs[j]? with
      | none => simp [hj] at hs
      | some c =>
        simp only [hj, Option.map_some] at hs
        cases hp : put c.er p x.er with
        | none => simp [hp] at hs
        | some c' =>
          simp only [hp, Option.some.injEq] at hs
          obtain ⟨t, ht, he⟩ := ih (hr j c hj) hp
          refine ⟨.agg (cs.set j t), by simp [putD, hj, ht], ?_⟩
          rw [← hs, ← he]
          simp [List.map_set]
    | tup cs hr =>
      simp only [er_tup, put, List.getElem?_map] at hs
      cases hj : cs[j]? with
      | none => simp [hj] at hs
      | some c =>
        simp only [hj, Option.map_some] at hs
        cases hp : put c.er p x.er with
        | none => simp [hp] at hs
        | some c' =>
          simp only [hp, Option.some.injEq] at hs
          obtain ⟨t, ht, he⟩ := ih (hr j c hj) hp
          refine ⟨.tup (cs.set j t), by simp [putD, hj, ht], ?_⟩
          rw [← hs, ← he]
          simp [List.map_set]
end Go.Abs
namespace Go.Abs

def plainV : Value → Bool
  | .agg _ | .tuple _ => false
  | _ => true

def hdr (bx : Bool) (b n c : Nat) : Value := if bx then .pointer (some ⟨b, 0, none⟩) else .slice (some ⟨b, 0, none⟩) n c

inductive Fz (w : World) (S : Nat → Prop) : AV → Value → Prop
  | sc (v : Value) (hp : plainV v = true) : Fz w S (.sc v) v
  | dead (v : Value) : Fz w S .dead v
  | nil (x : Bool) (k : Nat) (a : Option Addr) (c : Nat) (hx : x = true → c = 0) : Fz w S (.sl x k []) (.slice a 0 c)
  | sl (x : Bool) (k : Nat) (rows : List (List AV)) (b off c : Nat) (vs : Nat → Nat → Value) (hx : x = true → c = rows.length) (hlc : rows.length ≤ c) (hS : S b)
      (hk : ∀ row ∈ rows, row.length = k)
      (hc : ∀ i j row a, rows[i]? = some row → row[j]? = some a → w.cell? ⟨b, off + (i * k + j), none⟩ = some (vs i j))
      (hr : ∀ i j row a, rows[i]? = some row → row[j]? = some a → Fz w S a (vs i j)) : Fz w S (.sl x k rows) (.slice (some ⟨b, off, none⟩) rows.length c)
  | agg (cs : List AV) (vs : List Value) (hs : vs.length = cs.length) (h : ∀ (i : Nat) a v, cs[i]? = some a → vs[i]? = some v → Fz w S a v) : Fz w S (.agg cs) (.agg vs.toArray)
  | tup (cs : List AV) (vs : List Value) (hs : vs.length = cs.length) (h : ∀ (i : Nat) a v, cs[i]? = some a → vs[i]? = some v → Fz w S a v) : Fz w S (.tup cs) (.tuple vs.toArray)

theorem Fz.mono {w w' : World} {S S' : Nat → Prop} {a : AV} {v : Value} (h : Fz w S a v) (hw : ∀ b, S b → w'.heap[b]? = w.heap[b]?) (hS : ∀ b, S b → S' b) : Fz w' S' a v := by
  induction h with
  | sc v hp => exact .sc v hp
  | dead v => exact .dead v
  | nil x k a c hx => exact .nil x k a c hx
  | sl x k rows b off c vs hx hlc hb hk hc hr ih =>
    refine .sl x k rows b off c vs hx hlc (hS b hb) hk (fun i j row a h1 h2 => ?_) (fun i j row a h1 h2 => ih i j row a h1 h2)
    rw [← hc i j row a h1 h2]
    simp only [World.cell?, hw b hb]
  | agg cs vs hs h ih => exact .agg cs vs hs ih
  | tup cs vs hs h ih => exact .tup cs vs hs ih

def LeafOK (w : World) (S : Nat → Prop) : AV → Value → Prop
  | .sc u, v => v = u ∧ plainV u = true
  | .sl x k rows, v => Fz w S (.sl x k rows) v
  | .fp cs, v => ∃ b off, v = .pointer (some ⟨b, off, none⟩) ∧ S b ∧ ∀ (j : Nat) a, cs[j]? = some a → ∃ u, w.cell? ⟨b, off + j, none⟩ = some u ∧ Fz w S a u
  | .un, v => v = undef
  | .al .., _ => True
  | .adr .., _ => True
  | .dead, _ => True
  | _, _ => False

theorem LeafOK.leafy {w : World} {S : Nat → Prop} {a : AV} {v : Value} (h : LeafOK w S a v) : leafy a = true := by
  cases a <;> simp_all [LeafOK, Abs.leafy]

theorem LeafOK.mono {w w' : World} {S S' : Nat → Prop} {a : AV} {v : Value} (h : LeafOK w S a v) (hw : ∀ b, S b → w'.heap[b]? = w.heap[b]?) (hS : ∀ b, S b → S' b) : LeafOK w' S' a v := by
  cases a with
  | sl x k rows => exact Fz.mono h hw hS
  | fp cs =>
    obtain ⟨b, off, rfl, hb, hc⟩ := h
    refine ⟨b, off, rfl, hS b hb, fun j a hj => ?_⟩
    obtain ⟨u, hu, hf⟩ := hc j a hj
    refine ⟨u, ?_, hf.mono hw hS⟩
    rw [← hu]
    simp only [World.cell?, hw b hb]
  | sc u => exact h
  | own => exact h
  | agg => exact h
  | tup => exact h
  | al => exact h
  | adr => exact h
  | dead => exact h
  | un => exact h

inductive Ok (w : World) (S : Nat → Prop) : DV → (Nat → Prop) → Prop
  | lf (a : AV) (v : Value) (F : Nat → Prop) (ha : LeafOK w S a v) (hF : ∀ x, ¬ F x) : Ok w S (.lf a v) F
  | nil (k : Nat) (F : Nat → Prop) (hF : ∀ x, ¬ F x) : Ok w S (.own (.slice none 0 0) false k []) F
  | own (bx : Bool) (k : Nat) (rows : List (List DV)) (b c : Nat) (arr : Array Value) (E : TypeId) (Fs : Nat → Nat → Nat → Prop) (F : Nat → Prop)
      (hb : w.heap[b]? = some (.cells arr E (0, 0))) (hk : ∀ row ∈ rows, row.length = k)
      (hcap : if bx then rows.length = 1 ∧ arr.size = k else c * k = arr.size ∧ rows.length ≤ c) (hS : ¬ S b)
      (hv : ∀ (i j : Nat) row d, rows[i]? = some row → row[j]? = some d → arr[i * k + j]? = some d.ann)
      (hr : ∀ (i j : Nat) row d, rows[i]? = some row → row[j]? = some d → Ok w S d (Fs i j))
      (hd : ∀ i j i' j' x, Fs i j x → Fs i' j' x → i = i' ∧ j = j')
      (hval : ∀ i j x, Fs i j x → ∃ row d, rows[i]? = some row ∧ row[j]? = some d) (hbF : ∀ i j, ¬ Fs i j b)
      (hF : ∀ x, F x ↔ x = b ∨ ∃ i j, Fs i j x) : Ok w S (.own (hdr bx b rows.length c) bx k rows) F
  | agg (cs : List DV) (Fs : Nat → Nat → Prop) (F : Nat → Prop) (hr : ∀ (i : Nat) d, cs[i]? = some d → Ok w S d (Fs i))
      (hd : ∀ i i' x, Fs i x → Fs i' x → i = i') (hval : ∀ i x, Fs i x → ∃ d, cs[i]? = some d) (hF : ∀ x, F x ↔ ∃ i, Fs i x) : Ok w S (.agg cs) F
  | tup (cs : List DV) (Fs : Nat → Nat → Prop) (F : Nat → Prop) (hr : ∀ (i : Nat) d, cs[i]? = some d → Ok w S d (Fs i))
      (hd : ∀ i i' x, Fs i x → Fs i' x → i = i') (hval : ∀ i x, Fs i x → ∃ d, cs[i]? = some d) (hF : ∀ x, F x ↔ ∃ i, Fs i x) : Ok w S (.tup cs) F

variable {w w' : World} {S S' : Nat → Prop} {d : DV} {F F' : Nat → Prop}

theorem Ok.lfy (h : Ok w S d F) : Lfy d := by
  induction h with
  | lf a v F ha hF => exact .lf a v ha.leafy
  | nil k F hF => exact .own _ _ _ _ (by simp)
  | own bx k rows b c arr E Fs F hb hk hcap hS hv hr hd hval hbF hF ih => exact .own _ _ _ _ ih
  | agg cs Fs F hr hd hval hF ih => exact .agg cs ih
  | tup cs Fs F hr hd hval hF ih => exact .tup cs ih

theorem Ok.notS (h : Ok w S d F) : ∀ x, F x → ¬ S x := by
  induction h with
  | lf a v F ha hF => exact fun x hx => absurd hx (hF x)
  | nil k F hF => exact fun x hx => absurd hx (hF x)
  | own bx k rows b c arr E Fs F hb hk hcap hS hv hr hd hval hbF hF ih =>
    intro x hx
    rcases (hF x).1 hx with rfl | ⟨i, j, h⟩
    · exact hS
    · obtain ⟨row, d, h1, h2⟩ := hval i j x h
      exact ih i j row d h1 h2 x h
  | agg cs Fs F hr hd hval hF ih =>
    intro x hx
    obtain ⟨i, h⟩ := (hF x).1 hx
    obtain ⟨d, h1⟩ := hval i x h
    exact ih i d h1 x h
  | tup cs Fs F hr hd hval hF ih =>
    intro x hx
    obtain ⟨i, h⟩ := (hF x).1 hx
    obtain ⟨d, h1⟩ := hval i x h
    exact ih i d h1 x h

theorem Ok.lt (h : Ok w S d F) : ∀ x, F x → x < w.heap.size := by
  induction h with
  | lf a v F ha hF => exact fun x hx => absurd hx (hF x)
  | nil k F hF => exact fun x hx => absurd hx (hF x)
  | own bx k rows b c arr E Fs F hb hk hcap hS hv hr hd hval hbF hF ih =>
    intro x hx
    rcases (hF x).1 hx with rfl | ⟨i, j, h⟩
    · exact (Array.getElem?_eq_some_iff.1 hb).1
    · obtain ⟨row, d, h1, h2⟩ := hval i j x h
      exact ih i j row d h1 h2 x h
  | agg cs Fs F hr hd hval hF ih =>
    intro x hx
    obtain ⟨i, h⟩ := (hF x).1 hx
    obtain ⟨d, h1⟩ := hval i x h
    exact ih i d h1 x h
  | tup cs Fs F hr hd hval hF ih =>
    intro x hx
    obtain ⟨i, h⟩ := (hF x).1 hx
    obtain ⟨d, h1⟩ := hval i x h
    exact ih i d h1 x h

theorem Ok.congr (h : Ok w S d F) (hF' : ∀ x, F' x ↔ F x) : Ok w S d F' := by
  have : F' = F := funext fun x => propext (hF' x)
  exact this ▸ h

theorem Ok.mono (h : Ok w S d F) (hw : ∀ b, S b → w'.heap[b]? = w.heap[b]?) (hf : ∀ b, F b → w'.heap[b]? = w.heap[b]?) (hS : ∀ b, S b → S' b) (hn : ∀ x, F x → ¬ S' x) : Ok w' S' d F := by
  induction h with
  | lf a v F ha hF => exact .lf a v F (ha.mono hw hS) hF
  | nil k F hF => exact .nil k F hF
  | own bx k rows b c arr E Fs F hb hk hcap hSb hv hr hd hval hbF hF ih =>
    refine .own bx k rows b c arr E Fs F ?_ hk hcap (hn b ((hF b).2 (.inl rfl))) hv (fun i j row d h1 h2 => ih i j row d h1 h2 ?_ ?_) hd hval hbF hF
    · rw [hf b ((hF b).2 (.inl rfl))]; exact hb
    · exact fun x hx => hf x ((hF x).2 (.inr ⟨i, j, hx⟩))
    · exact fun x hx => hn x ((hF x).2 (.inr ⟨i, j, hx⟩))
  | agg cs Fs F hr hd hval hF ih =>
    exact .agg cs Fs F (fun i d h1 => ih i d h1 (fun x hx => hf x ((hF x).2 ⟨i, hx⟩)) (fun x hx => hn x ((hF x).2 ⟨i, hx⟩))) hd hval hF
  | tup cs Fs F hr hd hval hF ih =>
    exact .tup cs Fs F (fun i d h1 => ih i d h1 (fun x hx => hf x ((hF x).2 ⟨i, hx⟩)) (fun x hx => hn x ((hF x).2 ⟨i, hx⟩))) hd hval hF

theorem Ok.subD {x : DV} {p : List Step} (h : Ok w S d F) (hs : subD d p = some x) : ∃ F', Ok w S x F' ∧ ∀ y, F' y → F y := by
  induction p generalizing d F with
  | nil => simp only [Abs.subD, Option.some.injEq] at hs; exact ⟨F, hs ▸ h, fun _ h => h⟩
  | cons s p ih =>
    obtain ⟨i, j, k⟩ := s
    cases h with
    | lf a v _ ha hF => simp [Abs.subD] at hs
    | nil k _ hF => simp [Abs.subD] at hs
    | own bx k rows b c arr E Fs _ hb hk hcap hSb hv hr hd hval hbF hF =>
      simp only [Abs.subD] at hs
      split at hs
      · split at hs
        · rename_i row hrow _ e he
          obtain ⟨F', h1, h2⟩ := ih (hr i j row e hrow he) hs
          exact ⟨F', h1, fun y hy => (hF y).2 (.inr ⟨i, j, h2 y hy⟩)⟩
        · cases hs
      · cases hs
    | agg cs Fs _ hr hd hval hF =>
      simp only [Abs.subD] at hs
      split at hs
      · rename_i e he
        obtain ⟨F', h1, h2⟩ := ih (hr j e he) hs
        exact ⟨F', h1, fun y hy => (hF y).2 ⟨j, h2 y hy⟩⟩
      · cases hs
    | tup cs Fs _ hr hd hval hF =>
      simp only [Abs.subD] at hs
      split at hs
      · rename_i e he
        obtain ⟨F', h1, h2⟩ := ih (hr j e he) hs
        exact ⟨F', h1, fun y hy => (hF y).2 ⟨j, h2 y hy⟩⟩
      · cases hs

mutual
def frz : AV → AV
  | .own false k rows => .sl false k (frzR rows)
  | .own true _ _ => .dead
  | .agg cs => .agg (frzL cs)
  | .tup cs => .tup (frzL cs)
  | .sc v => .sc v
  | .sl x k rows => .sl x k rows
  | _ => .dead
def frzL : List AV → List AV
  | [] => []
  | a :: r => frz a :: frzL r
def frzR : List (List AV) → List (List AV)
  | [] => []
  | a :: r => frzL a :: frzR r
end
theorem frzL_eq (l : List AV) : frzL l = l.map frz := by
  induction l with
  | nil => rfl
  | cons d r ih => simp [frzL, ih]
theorem frzR_eq (l : List (List AV)) : frzR l = l.map (·.map frz) := by
  induction l with
  | nil => rfl
  | cons d r ih => simp [frzR, ih, frzL_eq]
@[simp] theorem frz_vec (k : Nat) (rows : List (List AV)) : frz (.own false k rows) = .sl false k (rows.map (·.map frz)) := by simp [frz, frzR_eq]
@[simp] theorem frz_box (k : Nat) (rows : List (List AV)) : frz (.own true k rows) = .dead := by simp [frz]
@[simp] theorem frz_agg (cs : List AV) : frz (.agg cs) = .agg (cs.map frz) := by simp [frz, frzL_eq]
@[simp] theorem frz_tup (cs : List AV) : frz (.tup cs) = .tup (cs.map frz) := by simp [frz, frzL_eq]
@[simp] theorem frz_sc (v : Value) : frz (.sc v) = .sc v := by simp [frz]
@[simp] theorem frz_sl (x : Bool) (k : Nat) (rows : List (List AV)) : frz (.sl x k rows) = .sl x k rows := by simp [frz]

theorem frz_leaf {a : AV} {v : Value} (h : LeafOK w S a v) : Fz w S (frz a) v := by
  cases a with
  | sc u => obtain ⟨rfl, hp⟩ := h; simpa using Fz.sc v hp
  | sl x k rows => rw [frz_sl]; exact h
  | _ => first | exact h.elim | (simp only [frz]; exact .dead v)

theorem Ok.freeze (h : Ok w S d F) : Fz w (fun x => S x ∨ F x) (frz d.er) d.ann := by
  induction h with
  | lf a v F ha hF =>
    simp only [er_lf, ann_lf]
    exact (frz_leaf ha).mono (fun _ _ => rfl) (fun _ h => .inl h)
  | nil k F hF => simpa using Fz.nil false k none 0 (by simp)
  | own bx k rows b c arr E Fs F hb hk hcap hSb hv hr hd hval hbF hF ih =>
    cases bx with
    | true => simp only [er_own, frz_box]; exact .dead _
    | false =>
      simp only [er_own, frz_vec, ann_own, hdr, List.map_map]
      have hlen : ((rows.map ((fun x => x.map frz) ∘ fun x => x.map DV.er))).length = rows.length := by simp
      rw [show (Value.slice (some ⟨b, 0, none⟩) rows.length c) = Value.slice (some ⟨b, 0, none⟩) (rows.map ((fun x => x.map frz) ∘ fun x => x.map DV.er)).length c from by rw [hlen]]
      refine Fz.sl false k _ b 0 c (fun i j => (arr[i * k + j]?).getD undef) (by simp) (by rw [hlen]; simp at hcap; exact hcap.2) (.inr ((hF b).2 (.inl rfl))) ?_ ?_ ?_
      · intro row hrow
        obtain ⟨r0, h0, rfl⟩ := List.mem_map.1 hrow
        simpa using hk r0 h0
      · intro i j row a h1 h2
        simp only [List.getElem?_map, Option.map_eq_some_iff] at h1
        obtain ⟨r0, h0, rfl⟩ := h1
        simp only [Function.comp, List.map_map, List.getElem?_map, Option.map_eq_some_iff] at h2
        obtain ⟨d0, h3, rfl⟩ := h2
        simp [World.cell?, hb, hv i j r0 d0 h0 h3]
      · intro i j row a h1 h2
        simp only [List.getElem?_map, Option.map_eq_some_iff] at h1
        obtain ⟨r0, h0, rfl⟩ := h1
        simp only [Function.comp, List.map_map, List.getElem?_map, Option.map_eq_some_iff] at h2
        obtain ⟨d0, h3, rfl⟩ := h2
        simp only [hv i j r0 d0 h0 h3, Option.getD_some]
        refine (ih i j r0 d0 h0 h3).mono (fun _ _ => rfl) ?_
        rintro x (h | h)
        · exact .inl h
        · exact .inr ((hF x).2 (.inr ⟨i, j, h⟩))
  | agg cs Fs F hr hd hval hF ih =>
    simp only [er_agg, frz_agg, ann_agg]
    refine Fz.agg _ _ (by simp) ?_
    intro i a v h1 h2
    simp only [List.map_map, List.getElem?_map, Option.map_eq_some_iff] at h1 h2
    obtain ⟨d1, h1, rfl⟩ := h1
    obtain ⟨d2, h2, rfl⟩ := h2
    obtain rfl : d1 = d2 := by rw [h1] at h2; exact Option.some.inj h2
    refine (ih i d1 h1).mono (fun _ _ => rfl) ?_
    rintro x (h | h)
    · exact .inl h
    · exact .inr ((hF x).2 ⟨i, h⟩)
  | tup cs Fs F hr hd hval hF ih =>
    simp only [er_tup, frz_tup, ann_tup]
    refine Fz.tup _ _ (by simp) ?_
    intro i a v h1 h2
    simp only [List.map_map, List.getElem?_map, Option.map_eq_some_iff] at h1 h2
    obtain ⟨d1, h1, rfl⟩ := h1
    obtain ⟨d2, h2, rfl⟩ := h2
    obtain rfl : d1 = d2 := by rw [h1] at h2; exact Option.some.inj h2
    refine (ih i d1 h1).mono (fun _ _ => rfl) ?_
    rintro x (h | h)
    · exact .inl h
    · exact .inr ((hF x).2 ⟨i, h⟩)
end Go.Abs
namespace Go.Abs
variable {w w' : World} {S S' : Nat → Prop} {d : DV} {F F' : Nat → Prop}

def hblk : Value → Option Nat
  | .slice (some a) _ _ => some a.block
  | .pointer (some a) => some a.block
  | _ => none

@[simp] theorem hblk_hdr (bx : Bool) (b n c : Nat) : hblk (hdr bx b n c) = some b := by cases bx <;> rfl

theorem idx_inj {k i j i' j' : Nat} (hj : j < k) (hj' : j' < k) (h : i * k + j = i' * k + j') : i = i' ∧ j = j' := by
  have hk : 0 < k := by omega
  have h1 : (i * k + j) / k = i := by rw [Nat.mul_comm, Nat.mul_add_div hk, Nat.div_eq_of_lt hj]; rfl
  have h2 : (i' * k + j') / k = i' := by rw [Nat.mul_comm, Nat.mul_add_div hk, Nat.div_eq_of_lt hj']; rfl
  have h3 : i = i' := by rw [← h1, ← h2, h]
  subst h3
  exact ⟨rfl, by omega⟩

theorem setCell_block (w : World) (b o : Nat) (v : Value) (arr : Array Value) (E : TypeId) (fz : Nat × Nat) (hb : w.heap[b]? = some (.cells arr E fz)) :
    (w.setCell ⟨b, o, none⟩ v).heap[b]? = some (.cells (arr.setIfInBounds o v) E fz) := by
  simp [World.setCell, Array.getElem?_modify, hb]

theorem setCell_other (w : World) (b o x : Nat) (v : Value) (h : x ≠ b) : (w.setCell ⟨b, o, none⟩ v).heap[x]? = w.heap[x]? := by
  simp only [World.setCell, Array.getElem?_modify]
  rw [if_neg (by omega)]

theorem row_lt {α : Type} {rows : List (List α)} {k i j : Nat} {row : List α} {x : α} (hk : ∀ row ∈ rows, row.length = k) (h1 : rows[i]? = some row) (h2 : row[j]? = some x) : j < k := by
  have := hk row (List.mem_of_getElem? h1)
  have := (List.getElem?_eq_some_iff.1 h2).1
  omega

theorem Ok.store {new : DV} {Fn : Nat → Prop} {k i j : Nat} {bx : Bool} {rows : List (List DV)} {row : List DV} {old : DV} {hv : Value} {b : Nat} (p : List Step)
    (h : Ok w S d F) (hs : Abs.subD d p = some (.own hv bx k rows)) (h1 : rows[i]? = some row) (h2 : row[j]? = some old) (hb : hblk hv = some b)
    (hn : Ok (w.setCell ⟨b, i * k + j, none⟩ new.ann) S new Fn) (hdis : ∀ x, Fn x → ¬ F x) :
    ∃ t F', putD d (p ++ [(i, j, k)]) new = some t ∧ Ok (w.setCell ⟨b, i * k + j, none⟩ new.ann) S t F' ∧ (∀ x, F' x → F x ∨ Fn x) ∧ t.ann = d.ann ∧ F b := by
  induction p generalizing d F with
  | nil =>
    simp only [Abs.subD, Option.some.injEq] at hs
    subst hs
    generalize hvv : hv = hv' at h
    cases h with
    | nil k _ hF => simp at h1
    | own _ _ _ b' c arr E Fs _ hbb hk hcap hSb hv hr hd hval hbF hF =>
      subst hvv
      simp only [hblk_hdr, Option.some.injEq] at hb
      subst hb
      have hjk := row_lt hk h1 h2
      have hlt := (List.getElem?_eq_some_iff.1 h1).1
      have hji := (List.getElem?_eq_some_iff.1 h2).1
      have hin : i * k + j < arr.size := by
        have := hv i j row old h1 h2
        exact (Array.getElem?_eq_some_iff.1 this).1
      refine ⟨.own (hdr bx b' rows.length c) bx k (rows.set i (row.set j new)), fun x => x = b' ∨ ∃ i' j', (if i' = i ∧ j' = j then Fn else Fs i' j') x, ?_, ?_, ?_, by simp, (hF b').2 (.inl rfl)⟩
      · simp [putD, h1, h2]
      · rw [show (hdr bx b' rows.length c) = hdr bx b' (rows.set i (row.set j new)).length c from by simp]
        refine Ok.own bx k _ b' c (arr.setIfInBounds (i * k + j) new.ann) E (fun i' j' => if i' = i ∧ j' = j then Fn else Fs i' j') _ (setCell_block _ _ _ _ _ _ _ hbb) ?_ ?_ hSb ?_ ?_ ?_ ?_ ?_ (fun x => Iff.rfl)
        · intro r hr'
          rcases List.mem_or_eq_of_mem_set hr' with h | rfl
          · exact hk r h
          · simp [hk row (List.mem_of_getElem? h1)]
        · simpa using hcap
        · intro i' j' r e h3 h4
          by_cases hi : i' = i
          · subst hi
            rw [List.getElem?_set_self hlt] at h3
            obtain rfl := Option.some.inj h3
            by_cases hj : j' = j
            · subst hj
              rw [List.getElem?_set_self hji] at h4
              obtain rfl := Option.some.inj h4
              simp [hin]
            · rw [List.getElem?_set_ne (by omega)] at h4
              rw [Array.getElem?_setIfInBounds_ne (by have := row_lt hk h1 h4; omega)]
              exact hv i' j' row e h1 h4
          · rw [List.getElem?_set_ne (by omega)] at h3
            rw [Array.getElem?_setIfInBounds_ne]
            · exact hv i' j' r e h3 h4
            · intro he
              exact hi (idx_inj (row_lt hk h3 h4) hjk he.symm).1
        · intro i' j' r e h3 h4
          by_cases hij : i' = i ∧ j' = j
          · obtain ⟨rfl, rfl⟩ := hij
            rw [List.getElem?_set_self hlt] at h3
            obtain rfl := Option.some.inj h3
            rw [List.getElem?_set_self hji] at h4
            obtain rfl := Option.some.inj h4
            simpa using hn
          · simp only [hij, if_false]
            have hold : Ok w S e (Fs i' j') := by
              by_cases hi : i' = i
              · subst hi
                have hj : j' ≠ j := fun e => hij ⟨rfl, e⟩
                rw [List.getElem?_set_self hlt] at h3
                obtain rfl := Option.some.inj h3
                rw [List.getElem?_set_ne (by omega)] at h4
                exact hr i' j' row e h1 h4
              · rw [List.getElem?_set_ne (by omega)] at h3
                exact hr i' j' r e h3 h4
            refine hold.mono (fun x hx => setCell_other _ _ _ _ _ ?_) (fun x hx => setCell_other _ _ _ _ _ ?_) (fun _ h => h) hold.notS
            · rintro rfl; exact hSb hx
            · rintro rfl; exact hbF _ _ hx
        · intro i1 j1 i2 j2 x hx hy
          split at hx <;> split at hy
          · rename_i a b; omega
          · exact absurd ((hF x).2 (.inr ⟨i2, j2, hy⟩)) (hdis x hx)
          · exact absurd ((hF x).2 (.inr ⟨i1, j1, hx⟩)) (hdis x hy)
          · exact hd _ _ _ _ x hx hy
        · intro i1 j1 x hx
          split at hx
          · rename_i hij
            obtain ⟨rfl, rfl⟩ := hij
            exact ⟨_, new, List.getElem?_set_self hlt, List.getElem?_set_self hji⟩
          · obtain ⟨r, e, h3, h4⟩ := hval i1 j1 x hx
            by_cases hi : i1 = i
            · subst hi
              rename_i hne
              have hj : j1 ≠ j := fun e => hne ⟨rfl, e⟩
              obtain rfl : row = r := by rw [h1] at h3; exact Option.some.inj h3
              exact ⟨_, e, List.getElem?_set_self hlt, by rw [List.getElem?_set_ne (by omega)]; exact h4⟩
            · exact ⟨r, e, by rw [List.getElem?_set_ne (by omega)]; exact h3, h4⟩
        · intro i1 j1 hx
          split at hx
          · exact hdis b' hx ((hF b').2 (.inl rfl))
          · exact hbF _ _ hx
      · rintro x (rfl | ⟨i1, j1, hx⟩)
        · exact .inl ((hF x).2 (.inl rfl))
        · split at hx
          · exact .inr hx
          · exact .inl ((hF x).2 (.inr ⟨i1, j1, hx⟩))
  | cons s p ih =>
    obtain ⟨i0, j0, k0⟩ := s
    cases h with
    | lf a v _ ha hF => simp [Abs.subD] at hs
    | nil k _ hF => simp [Abs.subD] at hs
    | own bx0 k1 rows0 b0 c arr E Fs _ hbb hk hcap hSb hv hr hd hval hbF hF =>
      simp only [Abs.subD] at hs
      split at hs
      · split at hs
        · rename_i row0 hrow0 _ e0 he0
          obtain ⟨t, F0, ht, hok, hsub, hann, hFb⟩ := ih (hr i0 j0 row0 e0 hrow0 he0) hs (fun x hx hf => hdis x hx ((hF x).2 (.inr ⟨i0, j0, hf⟩)))
          have hne : b0 ≠ b := by rintro rfl; exact hbF _ _ hFb
          have hlt := (List.getElem?_eq_some_iff.1 hrow0).1
          have hji := (List.getElem?_eq_some_iff.1 he0).1
          refine ⟨.own (hdr bx0 b0 rows0.length c) bx0 k1 (rows0.set i0 (row0.set j0 t)), fun x => x = b0 ∨ ∃ i' j', (if i' = i0 ∧ j' = j0 then F0 else Fs i' j') x, ?_, ?_, ?_, by simp, (hF b).2 (.inr ⟨i0, j0, hFb⟩)⟩
          · simp [putD, hrow0, he0, ht]
          · rw [show (hdr bx0 b0 rows0.length c) = hdr bx0 b0 (rows0.set i0 (row0.set j0 t)).length c from by simp]
            refine Ok.own bx0 k1 _ b0 c arr E (fun i' j' => if i' = i0 ∧ j' = j0 then F0 else Fs i' j') _ (by rw [setCell_other _ _ _ _ _ hne]; exact hbb) ?_ (by simpa using hcap) hSb ?_ ?_ ?_ ?_ ?_ (fun x => Iff.rfl)
            · intro r hr'
              rcases List.mem_or_eq_of_mem_set hr' with h | rfl
              · exact hk r h
              · simp [hk row0 (List.mem_of_getElem? hrow0)]
            · intro i' j' r e h3 h4
              by_cases hi : i' = i0
              · subst hi
                rw [List.getElem?_set_self hlt] at h3
                obtain rfl := Option.some.inj h3
                by_cases hj : j' = j0
                · subst hj
                  rw [List.getElem?_set_self hji] at h4
                  obtain rfl := Option.some.inj h4
                  rw [hann]
                  exact hv i' j' row0 e0 hrow0 he0
                · rw [List.getElem?_set_ne (by omega)] at h4
                  exact hv i' j' row0 e hrow0 h4
              · rw [List.getElem?_set_ne (by omega)] at h3
                exact hv i' j' r e h3 h4
            · intro i' j' r e h3 h4
              by_cases hij : i' = i0 ∧ j' = j0
              · obtain ⟨rfl, rfl⟩ := hij
                rw [List.getElem?_set_self hlt] at h3
                obtain rfl := Option.some.inj h3
                rw [List.getElem?_set_self hji] at h4
                obtain rfl := Option.some.inj h4
                simpa using hok
              · simp only [hij, if_false]
                have hold : Ok w S e (Fs i' j') := by
                  by_cases hi : i' = i0
                  · subst hi
                    have hj : j' ≠ j0 := fun e => hij ⟨rfl, e⟩
                    rw [List.getElem?_set_self hlt] at h3
                    obtain rfl := Option.some.inj h3
                    rw [List.getElem?_set_ne (by omega)] at h4
                    exact hr i' j' row0 e hrow0 h4
                  · rw [List.getElem?_set_ne (by omega)] at h3
                    exact hr i' j' r e h3 h4
                refine hold.mono (fun x hx => setCell_other _ _ _ _ _ ?_) (fun x hx => setCell_other _ _ _ _ _ ?_) (fun _ h => h) hold.notS
                · rintro rfl; exact (hr i0 j0 row0 e0 hrow0 he0).notS x hFb hx
                · rintro rfl; exact hij (hd _ _ _ _ x hx hFb)
            · intro i1 j1 i2 j2 x hx hy
              split at hx <;> split at hy
              · rename_i a b; omega
              · rename_i a b
                rcases hsub x hx with h | h
                · exact absurd (hd _ _ _ _ x hy h) b
                · exact absurd ((hF x).2 (.inr ⟨i2, j2, hy⟩)) (hdis x h)
              · rename_i a b
                rcases hsub x hy with h | h
                · exact absurd (hd _ _ _ _ x hx h) a
                · exact absurd ((hF x).2 (.inr ⟨i1, j1, hx⟩)) (hdis x h)
              · exact hd _ _ _ _ x hx hy
            · intro i1 j1 x hx
              split at hx
              · rename_i hij
                obtain ⟨rfl, rfl⟩ := hij
                exact ⟨_, t, List.getElem?_set_self hlt, List.getElem?_set_self hji⟩
              · obtain ⟨r, e, h3, h4⟩ := hval i1 j1 x hx
                by_cases hi : i1 = i0
                · subst hi
                  rename_i hne
                  have hj : j1 ≠ j0 := fun e => hne ⟨rfl, e⟩
                  obtain rfl : row0 = r := by rw [hrow0] at h3; exact Option.some.inj h3
                  exact ⟨_, e, List.getElem?_set_self hlt, by rw [List.getElem?_set_ne (by omega)]; exact h4⟩
                · exact ⟨r, e, by rw [List.getElem?_set_ne (by omega)]; exact h3, h4⟩
            · intro i1 j1 hx
              split at hx
              · rcases hsub b0 hx with h | h
                · exact hbF _ _ h
                · exact hdis b0 h ((hF b0).2 (.inl rfl))
              · exact hbF _ _ hx
          · rintro x (rfl | ⟨i1, j1, hx⟩)
            · exact .inl ((hF x).2 (.inl rfl))
            · split at hx
              · rcases hsub x hx with h | h
                · exact .inl ((hF x).2 (.inr ⟨i0, j0, h⟩))
                · exact .inr h
              · exact .inl ((hF x).2 (.inr ⟨i1, j1, hx⟩))
        · cases hs
      · cases hs
    | agg cs Fs _ hr hd hval hF =>
      simp only [Abs.subD] at hs
      split at hs
      · rename_i e0 he0
        obtain ⟨t, F0, ht, hok, hsub, hann, hFb⟩ := ih (hr j0 e0 he0) hs (fun x hx hf => hdis x hx ((hF x).2 ⟨j0, hf⟩))
        have hji := (List.getElem?_eq_some_iff.1 he0).1
        refine ⟨.agg (cs.set j0 t), fun x => ∃ i', (if i' = j0 then F0 else Fs i') x, by simp [putD, he0, ht], ?_, ?_, ?_, (hF b).2 ⟨j0, hFb⟩⟩
        · refine Ok.agg _ (fun i' => if i' = j0 then F0 else Fs i') _ ?_ ?_ ?_ (fun x => Iff.rfl)
          · intro i' e h4
            by_cases hi : i' = j0
            · subst hi
              rw [List.getElem?_set_self hji] at h4
              obtain rfl := Option.some.inj h4
              simpa using hok
            · simp only [hi, if_false]
              rw [List.getElem?_set_ne (by omega)] at h4
              refine (hr i' e h4).mono (fun x hx => setCell_other _ _ _ _ _ ?_) (fun x hx => setCell_other _ _ _ _ _ ?_) (fun _ h => h) (hr i' e h4).notS
              · rintro rfl; exact (hr j0 e0 he0).notS x hFb hx
              · rintro rfl; exact hi (hd _ _ x hx hFb)
          · intro i1 i2 x hx hy
            split at hx <;> split at hy
            · omega
            · rename_i a b
              rcases hsub x hx with h | h
              · exact absurd (hd _ _ x hy h) b
              · exact absurd ((hF x).2 ⟨i2, hy⟩) (hdis x h)
            · rename_i a b
              rcases hsub x hy with h | h
              · exact absurd (hd _ _ x hx h) a
              · exact absurd ((hF x).2 ⟨i1, hx⟩) (hdis x h)
            · exact hd _ _ x hx hy
          · intro i1 x hx
            split at hx
            · rename_i hij; subst hij; exact ⟨t, List.getElem?_set_self hji⟩
            · rename_i hij
              obtain ⟨e, h3⟩ := hval i1 x hx
              exact ⟨e, by rw [List.getElem?_set_ne (by omega)]; exact h3⟩
        · rintro x ⟨i1, hx⟩
          split at hx
          · rcases hsub x hx with h | h
            · exact .inl ((hF x).2 ⟨j0, h⟩)
            · exact .inr h
          · exact .inl ((hF x).2 ⟨i1, hx⟩)
        · simp only [ann_agg, List.map_set, hann]
          congr 2
          apply List.ext_getElem?
          intro n
          by_cases hn : n = j0
          · subst hn; rw [List.getElem?_set_self (by simpa using hji)]; simp [he0]
          · rw [List.getElem?_set_ne (by omega)]
      · cases hs
    | tup cs Fs _ hr hd hval hF =>
      simp only [Abs.subD] at hs
      split at hs
      · rename_i e0 he0
        obtain ⟨t, F0, ht, hok, hsub, hann, hFb⟩ := ih (hr j0 e0 he0) hs (fun x hx hf => hdis x hx ((hF x).2 ⟨j0, hf⟩))
        have hji := (List.getElem?_eq_some_iff.1 he0).1
        refine ⟨.tup (cs.set j0 t), fun x => ∃ i', (if i' = j0 then F0 else Fs i') x, by simp [putD, he0, ht], ?_, ?_, ?_, (hF b).2 ⟨j0, hFb⟩⟩
        · refine Ok.tup _ (fun i' => if i' = j0 then F0 else Fs i') _ ?_ ?_ ?_ (fun x => Iff.rfl)
          · intro i' e h4
            by_cases hi : i' = j0
            · subst hi
              rw [List.getElem?_set_self hji] at h4
              obtain rfl := Option.some.inj h4
              simpa using hok
            · simp only [hi, if_false]
              rw [List.getElem?_set_ne (by omega)] at h4
              refine (hr i' e h4).mono (fun x hx => setCell_other _ _ _ _ _ ?_) (fun x hx => setCell_other _ _ _ _ _ ?_) (fun _ h => h) (hr i' e h4).notS
              · rintro rfl; exact (hr j0 e0 he0).notS x hFb hx
              · rintro rfl; exact hi (hd _ _ x hx hFb)
          · intro i1 i2 x hx hy
            split at hx <;> split at hy
            · omega
            · rename_i a b
              rcases hsub x hx with h | h
              · exact absurd (hd _ _ x hy h) b
              · exact absurd ((hF x).2 ⟨i2, hy⟩) (hdis x h)
            · rename_i a b
              rcases hsub x hy with h | h
              · exact absurd (hd _ _ x hx h) a
              · exact absurd ((hF x).2 ⟨i1, hx⟩) (hdis x h)
            · exact hd _ _ x hx hy
          · intro i1 x hx
            split at hx
            · rename_i hij; subst hij; exact ⟨t, List.getElem?_set_self hji⟩
            · rename_i hij
              obtain ⟨e, h3⟩ := hval i1 x hx
              exact ⟨e, by rw [List.getElem?_set_ne (by omega)]; exact h3⟩
        · rintro x ⟨i1, hx⟩
          split at hx
          · rcases hsub x hx with h | h
            · exact .inl ((hF x).2 ⟨j0, h⟩)
            · exact .inr h
          · exact .inl ((hF x).2 ⟨i1, hx⟩)
        · simp only [ann_tup, List.map_set, hann]
          congr 2
          apply List.ext_getElem?
          intro n
          by_cases hn : n = j0
          · subst hn; rw [List.getElem?_set_self (by simpa using hji)]; simp [he0]
          · rw [List.getElem?_set_ne (by omega)]
      · cases hs
end Go.Abs
namespace Go.Abs

structure Gi where
  rt : List (Nat × List Nat)

def Gi.rtOf (G : Gi) (s : Nat) : List Nat := match G.rt.find? (·.1 == s) with
  | some x => x.2
  | none => []

def Gi.als (G : Gi) (d : Nat) : List Nat := (G.rt.filter (fun x => x.2.contains d)).map (·.1)

theorem Gi.mem_als {G : Gi} {s d : Nat} (h : d ∈ G.rtOf s) : s ∈ G.als d := by
  unfold Gi.rtOf at h
  split at h
  · rename_i x hx
    have h1 := List.find?_some hx
    have h2 := List.mem_of_find?_eq_some hx
    simp only [beq_iff_eq] at h1
    subst h1
    simp only [Gi.als, List.mem_map, List.mem_filter]
    exact ⟨x, ⟨h2, by simpa using h⟩, rfl⟩
  · cases h

mutual
def rin (L : List Nat) : AV → Bool
  | .al r _ => L.contains r
  | .adr r _ _ _ _ => L.contains r
  | .agg cs => rinL L cs
  | .tup cs => rinL L cs
  | _ => true
def rinL (L : List Nat) : List AV → Bool
  | [] => true
  | a :: r => rin L a && rinL L r
end
theorem rinL_eq (L : List Nat) (l : List AV) : rinL L l = l.all (rin L) := by
  induction l with
  | nil => rfl
  | cons d r ih => simp [rinL, ih]
mutual
def nroot (d : Nat) : AV → Bool
  | .al r _ => r != d
  | .adr r _ _ _ _ => r != d
  | .agg cs => nrootL d cs
  | .tup cs => nrootL d cs
  | _ => true
def nrootL (d : Nat) : List AV → Bool
  | [] => true
  | a :: r => nroot d a && nrootL d r
end
theorem nrootL_eq (d : Nat) (l : List AV) : nrootL d l = l.all (nroot d) := by
  induction l with
  | nil => rfl
  | cons a r ih => simp [nrootL, ih]
mutual
def killr (d : Nat) : AV → AV
  | .al r p => if r = d then .dead else .al r p
  | .adr r p i j k => if r = d then .dead else .adr r p i j k
  | .agg cs => .agg (killrL d cs)
  | .tup cs => .tup (killrL d cs)
  | a => a
def killrL (d : Nat) : List AV → List AV
  | [] => []
  | a :: r => killr d a :: killrL d r
end
theorem killrL_eq (d : Nat) (l : List AV) : killrL d l = l.map (killr d) := by
  induction l with
  | nil => rfl
  | cons a r ih => simp [killrL, ih]

@[simp] theorem rin_sc (L : List Nat) (v : Value) : rin L (.sc v) = true := by simp [rin]
@[simp] theorem rin_sl (L : List Nat) (x : Bool) (k : Nat) (rows : List (List AV)) : rin L (.sl x k rows) = true := by simp [rin]
@[simp] theorem rin_own (L : List Nat) (x : Bool) (k : Nat) (rows : List (List AV)) : rin L (.own x k rows) = true := by simp [rin]
@[simp] theorem rin_fp (L : List Nat) (cs : List AV) : rin L (.fp cs) = true := by simp [rin]
@[simp] theorem rin_dead (L : List Nat) : rin L .dead = true := by simp [rin]
@[simp] theorem rin_un (L : List Nat) : rin L .un = true := by simp [rin]
@[simp] theorem rin_al (L : List Nat) (r : Nat) (p : List Step) : rin L (.al r p) = L.contains r := by simp [rin]
@[simp] theorem rin_adr (L : List Nat) (r : Nat) (p : List Step) (i j k : Nat) : rin L (.adr r p i j k) = L.contains r := by simp [rin]
@[simp] theorem rin_agg (L : List Nat) (cs : List AV) : rin L (.agg cs) = cs.all (rin L) := by simp [rin, rinL_eq]
@[simp] theorem rin_tup (L : List Nat) (cs : List AV) : rin L (.tup cs) = cs.all (rin L) := by simp [rin, rinL_eq]
@[simp] theorem killr_sc (d : Nat) (v : Value) : killr d (.sc v) = .sc v := by simp [killr]
@[simp] theorem killr_sl (d : Nat) (x : Bool) (k : Nat) (rows : List (List AV)) : killr d (.sl x k rows) = .sl x k rows := by simp [killr]
@[simp] theorem killr_own (d : Nat) (x : Bool) (k : Nat) (rows : List (List AV)) : killr d (.own x k rows) = .own x k rows := by simp [killr]
@[simp] theorem killr_fp (d : Nat) (cs : List AV) : killr d (.fp cs) = .fp cs := by simp [killr]
@[simp] theorem killr_dead (d : Nat) : killr d .dead = .dead := by simp [killr]
@[simp] theorem killr_un (d : Nat) : killr d .un = .un := by simp [killr]
@[simp] theorem killr_al (d r : Nat) (p : List Step) : killr d (.al r p) = if r = d then .dead else .al r p := by simp [killr]
@[simp] theorem killr_adr (d r : Nat) (p : List Step) (i j k : Nat) : killr d (.adr r p i j k) = if r = d then .dead else .adr r p i j k := by simp [killr]
@[simp] theorem killr_agg (d : Nat) (cs : List AV) : killr d (.agg cs) = .agg (cs.map (killr d)) := by simp [killr, killrL_eq]
@[simp] theorem killr_tup (d : Nat) (cs : List AV) : killr d (.tup cs) = .tup (cs.map (killr d)) := by simp [killr, killrL_eq]
@[simp] theorem nroot_agg (d : Nat) (cs : List AV) : nroot d (.agg cs) = cs.all (nroot d) := by simp [nroot, nrootL_eq]
@[simp] theorem nroot_tup (d : Nat) (cs : List AV) : nroot d (.tup cs) = cs.all (nroot d) := by simp [nroot, nrootL_eq]
@[simp] theorem nroot_al (d r : Nat) (p : List Step) : nroot d (.al r p) = (r != d) := by simp [nroot]
@[simp] theorem nroot_adr (d r : Nat) (p : List Step) (i j k : Nat) : nroot d (.adr r p i j k) = (r != d) := by simp [nroot]

mutual
def killD (d : Nat) : DV → DV
  | .lf a v => .lf (killr d a) v
  | .own h b k rows => .own h b k rows
  | .agg cs => .agg (killDL d cs)
  | .tup cs => .tup (killDL d cs)
def killDL (d : Nat) : List DV → List DV
  | [] => []
  | a :: r => killD d a :: killDL d r
end
theorem killDL_eq (d : Nat) (l : List DV) : killDL d l = l.map (killD d) := by
  induction l with
  | nil => rfl
  | cons a r ih => simp [killDL, ih]
@[simp] theorem killD_lf (d : Nat) (a : AV) (v : Value) : killD d (.lf a v) = .lf (killr d a) v := by simp [killD]
@[simp] theorem killD_own (d : Nat) (h : Value) (b : Bool) (k : Nat) (rows : List (List DV)) : killD d (.own h b k rows) = .own h b k rows := by simp [killD]
@[simp] theorem killD_agg (d : Nat) (cs : List DV) : killD d (.agg cs) = .agg (cs.map (killD d)) := by simp [killD, killDL_eq]
@[simp] theorem killD_tup (d : Nat) (cs : List DV) : killD d (.tup cs) = .tup (cs.map (killD d)) := by simp [killD, killDL_eq]

variable {w w' : World} {S S' : Nat → Prop} {x : DV} {F F' : Nat → Prop}

theorem killD_facts (d : Nat) (h : Ok w S x F) : (killD d x).er = killr d x.er ∧ (killD d x).ann = x.ann ∧ Ok w S (killD d x) F ∧ nroot d (killD d x).er = true := by
  induction h with
  | lf a v F ha hF =>
    refine ⟨by simp, by simp, ?_, ?_⟩
    · rw [killD_lf]
      refine .lf _ v F ?_ hF
      cases a with
      | al r p => rw [killr_al]; by_cases h : r = d <;> simp [h, LeafOK]
      | adr r p i j k => rw [killr_adr]; by_cases h : r = d <;> simp [h, LeafOK]
      | agg cs => exact ha.elim
      | tup cs => exact ha.elim
      | own => exact ha.elim
      | _ => simpa using ha
    · have := ha.leafy
      cases a with
      | al r p => by_cases h : r = d <;> simp [h, nroot]
      | adr r p i j k => by_cases h : r = d <;> simp [h, nroot]
      | agg cs => exact ha.elim
      | tup cs => exact ha.elim
      | own => exact ha.elim
      | _ => simp [nroot]
  | nil k F hF => exact ⟨by simp, by simp, by rw [killD_own]; exact .nil k F hF, by simp [nroot]⟩
  | own bx k rows b c arr E Fs F hb hk hcap hSb hv hr hd hval hbF hF ih =>
    exact ⟨by simp, by simp, by rw [killD_own]; exact .own bx k rows b c arr E Fs F hb hk hcap hSb hv hr hd hval hbF hF, by simp [nroot]⟩
  | agg cs Fs F hr hd hval hF ih =>
    have key : ∀ e ∈ cs, (killD d e).er = killr d e.er ∧ (killD d e).ann = e.ann ∧ nroot d (killD d e).er = true := by
      intro e he
      obtain ⟨i, hi⟩ := List.getElem?_of_mem he
      exact ⟨(ih i e hi).1, (ih i e hi).2.1, (ih i e hi).2.2.2⟩
    refine ⟨?_, ?_, ?_, ?_⟩
    · simp only [killD_agg, er_agg, killr_agg, List.map_map, AV.agg.injEq]
      exact List.map_congr_left fun e he => (key e he).1
    · simp only [killD_agg, ann_agg, List.map_map]
      congr 2
      exact List.map_congr_left fun e he => (key e he).2.1
    · rw [killD_agg]
      refine .agg _ Fs F ?_ hd ?_ hF
      · intro i e h1
        simp only [List.getElem?_map, Option.map_eq_some_iff] at h1
        obtain ⟨e0, h0, rfl⟩ := h1
        exact (ih i e0 h0).2.2.1
      · intro i x hx
        obtain ⟨e, h1⟩ := hval i x hx
        exact ⟨killD d e, by simp [h1]⟩
    · simp only [killD_agg, er_agg, nroot_agg, List.map_map, List.all_map, List.all_eq_true]
      exact fun e he => (key e he).2.2
  | tup cs Fs F hr hd hval hF ih =>
    have key : ∀ e ∈ cs, (killD d e).er = killr d e.er ∧ (killD d e).ann = e.ann ∧ nroot d (killD d e).er = true := by
      intro e he
      obtain ⟨i, hi⟩ := List.getElem?_of_mem he
      exact ⟨(ih i e hi).1, (ih i e hi).2.1, (ih i e hi).2.2.2⟩
    refine ⟨?_, ?_, ?_, ?_⟩
    · simp only [killD_tup, er_tup, killr_tup, List.map_map, AV.tup.injEq]
      exact List.map_congr_left fun e he => (key e he).1
    · simp only [killD_tup, ann_tup, List.map_map]
      congr 2
      exact List.map_congr_left fun e he => (key e he).2.1
    · rw [killD_tup]
      refine .tup _ Fs F ?_ hd ?_ hF
      · intro i e h1
        simp only [List.getElem?_map, Option.map_eq_some_iff] at h1
        obtain ⟨e0, h0, rfl⟩ := h1
        exact (ih i e0 h0).2.2.1
      · intro i x hx
        obtain ⟨e, h1⟩ := hval i x hx
        exact ⟨killD d e, by simp [h1]⟩
    · simp only [killD_tup, er_tup, nroot_tup, List.map_map, List.all_map, List.all_eq_true]
      exact fun e he => (key e he).2.2

def AlLeaf (δ : Nat → DV) : AV → Value → Prop
  | .al r p, v => ∃ bx k rows, subD (δ r) p = some (.own v bx k rows)
  | .adr r p i j k, v => ∃ h bx rows b, subD (δ r) p = some (.own h bx k rows) ∧ hblk h = some b ∧ v = .pointer (some ⟨b, i * k + j, none⟩)
  | _, _ => True

inductive AlOK (δ : Nat → DV) : DV → Prop
  | lf (a v) (h : AlLeaf δ a v) : AlOK δ (.lf a v)
  | own (h b k rows) : AlOK δ (.own h b k rows)
  | agg (cs) (hr : ∀ (i : Nat) d, cs[i]? = some d → AlOK δ d) : AlOK δ (.agg cs)
  | tup (cs) (hr : ∀ (i : Nat) d, cs[i]? = some d → AlOK δ d) : AlOK δ (.tup cs)

theorem AlOK.mono {δ δ' : Nat → DV} {L : List Nat} (h : AlOK δ x) (hr : rin L x.er = true)
    (hk : ∀ r ∈ L, ∀ p v bx k rows, subD (δ r) p = some (.own v bx k rows) → ∃ rows', subD (δ' r) p = some (.own v bx k rows')) : AlOK δ' x := by
  induction h with
  | lf a v h =>
    refine .lf a v ?_
    cases a with
    | al r p =>
      obtain ⟨bx, k, rows, h⟩ := h
      obtain ⟨rows', h'⟩ := hk r (by simpa using hr) p v bx k rows h
      exact ⟨bx, k, rows', h'⟩
    | adr r p i j k =>
      obtain ⟨hh, bx, rows, b, h, hb, rfl⟩ := h
      obtain ⟨rows', h'⟩ := hk r (by simpa using hr) p hh bx k rows h
      exact ⟨hh, bx, rows', b, h', hb, rfl⟩
    | _ => trivial
  | own => exact .own _ _ _ _
  | agg cs _ ih =>
    refine .agg cs fun i d hd => ih i d hd ?_
    simp only [er_agg, rin_agg, List.all_map, List.all_eq_true] at hr
    exact hr d (List.mem_of_getElem? hd)
  | tup cs _ ih =>
    refine .tup cs fun i d hd => ih i d hd ?_
    simp only [er_tup, rin_tup, List.all_map, List.all_eq_true] at hr
    exact hr d (List.mem_of_getElem? hd)

theorem rin_nroot {L : List Nat} {d : Nat} {a : AV} : rin L a = true → d ∉ L → nroot d a = true := by
  refine AV.rec (motive_1 := fun a => rin L a = true → d ∉ L → nroot d a = true) (motive_2 := fun _ => True) (motive_3 := fun l => rinL L l = true → d ∉ L → nrootL d l = true)
    ?_ ?_ ?_ ?_ ?_ ?_ ?_ ?_ ?_ ?_ ?_ ?_ ?_ ?_ a
  all_goals intros
  all_goals first | trivial | simp [nroot]; done | skip
  all_goals simp_all [rin, rinL, nrootL, nroot]
  all_goals (rintro rfl; simp_all)

theorem killr_rin {L : List Nat} {d : Nat} {a : AV} : rin L a = true → rin L (killr d a) = true := by
  refine AV.rec (motive_1 := fun a => rin L a = true → rin L (killr d a) = true) (motive_2 := fun _ => True) (motive_3 := fun l => rinL L l = true → rinL L (killrL d l) = true)
    ?_ ?_ ?_ ?_ ?_ ?_ ?_ ?_ ?_ ?_ ?_ ?_ ?_ ?_ a
  all_goals intros
  all_goals first | trivial | (simp_all [rin, rinL, killr, killrL]; done) | skip
  all_goals first
    | (simp only [killr]; split <;> simp_all [rin]; done)
    | (rename_i ih h; simp only [killr, rin] at h ⊢; exact ih h)
end Go.Abs
namespace Go.Abs
variable {w w' : World} {S S' : Nat → Prop} {d : DV} {F F' : Nat → Prop}

theorem Ok.replace {n : DV} (p : List Step) (h : Ok w S d F) (hs : Abs.subD d p = some n) :
    ∃ Fo, Ok w S n Fo ∧ (∀ x, Fo x → F x) ∧ ∀ (w' : World) (S' : Nat → Prop) (new : DV) (Fn : Nat → Prop), new.ann = n.ann → Ok w' S' new Fn →
      (∀ x, Fn x → F x → Fo x) → (∀ b, S b → w'.heap[b]? = w.heap[b]?) → (∀ b, F b → ¬ Fo b → w'.heap[b]? = w.heap[b]?) → (∀ b, S b → S' b) → (∀ b, F b → ¬ Fo b → ¬ S' b) →
      ∃ t F', putD d p new = some t ∧ Ok w' S' t F' ∧ (∀ x, F' x ↔ (F x ∧ ¬ Fo x) ∨ Fn x) ∧ t.ann = d.ann := by
  induction p generalizing d F with
  | nil =>
    simp only [Abs.subD, Option.some.injEq] at hs
    subst hs
    refine ⟨F, h, fun _ h => h, fun w' S' new Fn ha hn _ _ _ _ _ => ⟨new, Fn, rfl, hn, fun x => ⟨.inr, ?_⟩, ha⟩⟩
    rintro (⟨h1, h2⟩ | h)
    · exact absurd h1 h2
    · exact h
  | cons s p ih =>
    obtain ⟨i0, j0, k0⟩ := s
    cases h with
    | lf a v _ ha hF => simp [Abs.subD] at hs
    | nil k _ hF => simp [Abs.subD] at hs
    | own bx0 k1 rows0 b0 c arr E Fs _ hbb hk hcap hSb hv hr hd hval hbF hF =>
      simp only [Abs.subD] at hs
      split at hs
      · split at hs
        · rename_i row0 hrow0 _ e0 he0
          obtain ⟨Fo, ho, hsub, hrep⟩ := ih (hr i0 j0 row0 e0 hrow0 he0) hs
          have hFo : ∀ x, Fo x → F x := fun x hx => (hF x).2 (.inr ⟨i0, j0, hsub x hx⟩)
          refine ⟨Fo, ho, hFo, ?_⟩
          intro w' S' new Fn ha hn hnF hS hf hSS hfS
          have hlt := (List.getElem?_eq_some_iff.1 hrow0).1
          have hji := (List.getElem?_eq_some_iff.1 he0).1
          obtain ⟨t, F0, ht, hok, hiff, hann⟩ := hrep w' S' new Fn ha hn (fun x hx hy => hnF x hx ((hF x).2 (.inr ⟨i0, j0, hy⟩))) hS
            (fun b hb => hf b ((hF b).2 (.inr ⟨i0, j0, hb⟩))) hSS (fun b hb => hfS b ((hF b).2 (.inr ⟨i0, j0, hb⟩)))
          have hb0 : ¬ Fo b0 := fun h => hbF _ _ (hsub _ h)
          have hFb0 : F b0 := (hF b0).2 (.inl rfl)
          have hother : ∀ i j, ¬ (i = i0 ∧ j = j0) → ∀ x, Fs i j x → ¬ Fo x := fun i j hij x hx ho' => hij (hd _ _ _ _ x hx (hsub x ho'))
          refine ⟨.own (hdr bx0 b0 rows0.length c) bx0 k1 (rows0.set i0 (row0.set j0 t)), fun x => x = b0 ∨ ∃ i' j', (if i' = i0 ∧ j' = j0 then F0 else Fs i' j') x, ?_, ?_, ?_, by simp⟩
          · simp [putD, hrow0, he0, ht]
          · rw [show (hdr bx0 b0 rows0.length c) = hdr bx0 b0 (rows0.set i0 (row0.set j0 t)).length c from by simp]
            refine Ok.own bx0 k1 _ b0 c arr E (fun i' j' => if i' = i0 ∧ j' = j0 then F0 else Fs i' j') _ (by rw [hf b0 hFb0 hb0]; exact hbb) ?_ (by simpa using hcap) (hfS b0 hFb0 hb0) ?_ ?_ ?_ ?_ ?_ (fun x => Iff.rfl)
            · intro r hr'
              rcases List.mem_or_eq_of_mem_set hr' with h | rfl
              · exact hk r h
              · simp [hk row0 (List.mem_of_getElem? hrow0)]
            · intro i' j' r e h3 h4
              by_cases hi : i' = i0
              · subst hi
                rw [List.getElem?_set_self hlt] at h3
                obtain rfl := Option.some.inj h3
                by_cases hj : j' = j0
                · subst hj
                  rw [List.getElem?_set_self hji] at h4
                  obtain rfl := Option.some.inj h4
                  rw [hann]
                  exact hv i' j' row0 e0 hrow0 he0
                · rw [List.getElem?_set_ne (by omega)] at h4
                  exact hv i' j' row0 e hrow0 h4
              · rw [List.getElem?_set_ne (by omega)] at h3
                exact hv i' j' r e h3 h4
            · intro i' j' r e h3 h4
              by_cases hij : i' = i0 ∧ j' = j0
              · obtain ⟨rfl, rfl⟩ := hij
                rw [List.getElem?_set_self hlt] at h3
                obtain rfl := Option.some.inj h3
                rw [List.getElem?_set_self hji] at h4
                obtain rfl := Option.some.inj h4
                simpa using hok
              · simp only [hij, if_false]
                have hold : Ok w S e (Fs i' j') := by
                  by_cases hi : i' = i0
                  · subst hi
                    have hj : j' ≠ j0 := fun e => hij ⟨rfl, e⟩
                    rw [List.getElem?_set_self hlt] at h3
                    obtain rfl := Option.some.inj h3
                    rw [List.getElem?_set_ne (by omega)] at h4
                    exact hr i' j' row0 e hrow0 h4
                  · rw [List.getElem?_set_ne (by omega)] at h3
                    exact hr i' j' r e h3 h4
                have hin : ∀ x, Fs i' j' x → F x ∧ ¬ Fo x := fun x hx => ⟨(hF x).2 (.inr ⟨i', j', hx⟩), hother i' j' hij x hx⟩
                exact hold.mono hS (fun x hx => hf x (hin x hx).1 (hin x hx).2) hSS (fun x hx => hfS x (hin x hx).1 (hin x hx).2)
            · intro i1 j1 i2 j2 x hx hy
              have aux : ∀ i j, ¬ (i = i0 ∧ j = j0) → Fs i j x → ¬ F0 x := by
                intro i j hij h1 h2
                rcases (hiff x).1 h2 with ⟨h3, h4⟩ | h3
                · exact hij (hd _ _ _ _ x h1 h3)
                · exact hother i j hij x h1 (hnF x h3 ((hF x).2 (.inr ⟨i, j, h1⟩)))
              split at hx <;> split at hy
              · rename_i a b; omega
              · rename_i a b; exact absurd hx (aux _ _ b hy)
              · rename_i a b; exact absurd hy (aux _ _ a hx)
              · exact hd _ _ _ _ x hx hy
            · intro i1 j1 x hx
              split at hx
              · rename_i hij
                obtain ⟨rfl, rfl⟩ := hij
                exact ⟨_, t, List.getElem?_set_self hlt, List.getElem?_set_self hji⟩
              · obtain ⟨r, e, h3, h4⟩ := hval i1 j1 x hx
                by_cases hi : i1 = i0
                · subst hi
                  rename_i hne
                  have hj : j1 ≠ j0 := fun e => hne ⟨rfl, e⟩
                  obtain rfl : row0 = r := by rw [hrow0] at h3; exact Option.some.inj h3
                  exact ⟨_, e, List.getElem?_set_self hlt, by rw [List.getElem?_set_ne (by omega)]; exact h4⟩
                · exact ⟨r, e, by rw [List.getElem?_set_ne (by omega)]; exact h3, h4⟩
            · intro i1 j1 hx
              split at hx
              · rcases (hiff b0).1 hx with h | h
                · exact hbF _ _ h.1
                · exact hb0 (hnF b0 h hFb0)
              · exact hbF _ _ hx
          · intro x
            constructor
            · rintro (rfl | ⟨i1, j1, hx⟩)
              · exact .inl ⟨hFb0, hb0⟩
              · split at hx
                · rcases (hiff x).1 hx with h | h
                  · exact .inl ⟨(hF x).2 (.inr ⟨i0, j0, h.1⟩), h.2⟩
                  · exact .inr h
                · rename_i hij
                  exact .inl ⟨(hF x).2 (.inr ⟨i1, j1, hx⟩), hother _ _ hij x hx⟩
            · rintro (⟨h1, h2⟩ | h)
              · rcases (hF x).1 h1 with rfl | ⟨i1, j1, h3⟩
                · exact .inl rfl
                · by_cases hij : i1 = i0 ∧ j1 = j0
                  · obtain ⟨rfl, rfl⟩ := hij
                    exact .inr ⟨i1, j1, by simp; exact (hiff x).2 (.inl ⟨h3, h2⟩)⟩
                  · exact .inr ⟨i1, j1, by simp only [hij, if_false]; exact h3⟩
              · exact .inr ⟨i0, j0, by simp; exact (hiff x).2 (.inr h)⟩
        · cases hs
      · cases hs
    | agg cs Fs _ hr hd hval hF =>
      simp only [Abs.subD] at hs
      split at hs
      · rename_i e0 he0
        obtain ⟨Fo, ho, hsub, hrep⟩ := ih (hr j0 e0 he0) hs
        have hFo : ∀ x, Fo x → F x := fun x hx => (hF x).2 ⟨j0, hsub x hx⟩
        refine ⟨Fo, ho, hFo, ?_⟩
        intro w' S' new Fn ha hn hnF hS hf hSS hfS
        have hji := (List.getElem?_eq_some_iff.1 he0).1
        obtain ⟨t, F0, ht, hok, hiff, hann⟩ := hrep w' S' new Fn ha hn (fun x hx hy => hnF x hx ((hF x).2 ⟨j0, hy⟩)) hS
          (fun b hb => hf b ((hF b).2 ⟨j0, hb⟩)) hSS (fun b hb => hfS b ((hF b).2 ⟨j0, hb⟩))
        have hother : ∀ i, ¬ i = j0 → ∀ x, Fs i x → ¬ Fo x := fun i hij x hx ho' => hij (hd _ _ x hx (hsub x ho'))
        refine ⟨.agg (cs.set j0 t), fun x => ∃ i', (if i' = j0 then F0 else Fs i') x, by simp [putD, he0, ht], ?_, ?_, ?_⟩
        · refine Ok.agg _ (fun i' => if i' = j0 then F0 else Fs i') _ ?_ ?_ ?_ (fun x => Iff.rfl)
          · intro i' e h4
            by_cases hi : i' = j0
            · subst hi
              rw [List.getElem?_set_self hji] at h4
              obtain rfl := Option.some.inj h4
              simpa using hok
            · simp only [hi, if_false]
              rw [List.getElem?_set_ne (by omega)] at h4
              have hin : ∀ x, Fs i' x → F x ∧ ¬ Fo x := fun x hx => ⟨(hF x).2 ⟨i', hx⟩, hother i' hi x hx⟩
              exact (hr i' e h4).mono hS (fun x hx => hf x (hin x hx).1 (hin x hx).2) hSS (fun x hx => hfS x (hin x hx).1 (hin x hx).2)
          · intro i1 i2 x hx hy
            have aux : ∀ i, ¬ i = j0 → Fs i x → ¬ F0 x := by
              intro i hij h1 h2
              rcases (hiff x).1 h2 with ⟨h3, h4⟩ | h3
              · exact hij (hd _ _ x h1 h3)
              · exact hother i hij x h1 (hnF x h3 ((hF x).2 ⟨i, h1⟩))
            split at hx <;> split at hy
            · omega
            · rename_i a b; exact absurd hx (aux _ b hy)
            · rename_i a b; exact absurd hy (aux _ a hx)
            · exact hd _ _ x hx hy
          · intro i1 x hx
            split at hx
            · rename_i hij; subst hij; exact ⟨t, List.getElem?_set_self hji⟩
            · rename_i hij
              obtain ⟨e, h3⟩ := hval i1 x hx
              exact ⟨e, by rw [List.getElem?_set_ne (by omega)]; exact h3⟩
        · intro x
          constructor
          · rintro ⟨i1, hx⟩
            split at hx
            · rcases (hiff x).1 hx with h | h
              · exact .inl ⟨(hF x).2 ⟨j0, h.1⟩, h.2⟩
              · exact .inr h
            · rename_i hij
              exact .inl ⟨(hF x).2 ⟨i1, hx⟩, hother _ hij x hx⟩
          · rintro (⟨h1, h2⟩ | h)
            · obtain ⟨i1, h3⟩ := (hF x).1 h1
              by_cases hij : i1 = j0
              · subst hij
                exact ⟨i1, by simp; exact (hiff x).2 (.inl ⟨h3, h2⟩)⟩
              · exact ⟨i1, by simp only [hij, if_false]; exact h3⟩
            · exact ⟨j0, by simp; exact (hiff x).2 (.inr h)⟩
        · simp only [ann_agg, List.map_set, hann]
          congr 2
          apply List.ext_getElem?
          intro n
          by_cases hn : n = j0
          · subst hn; rw [List.getElem?_set_self (by simpa using hji)]; simp [he0]
          · rw [List.getElem?_set_ne (by omega)]
      · cases hs
    | tup cs Fs _ hr hd hval hF =>
      simp only [Abs.subD] at hs
      split at hs
      · rename_i e0 he0
        obtain ⟨Fo, ho, hsub, hrep⟩ := ih (hr j0 e0 he0) hs
        have hFo : ∀ x, Fo x → F x := fun x hx => (hF x).2 ⟨j0, hsub x hx⟩
        refine ⟨Fo, ho, hFo, ?_⟩
        intro w' S' new Fn ha hn hnF hS hf hSS hfS
        have hji := (List.getElem?_eq_some_iff.1 he0).1
        obtain ⟨t, F0, ht, hok, hiff, hann⟩ := hrep w' S' new Fn ha hn (fun x hx hy => hnF x hx ((hF x).2 ⟨j0, hy⟩)) hS
          (fun b hb => hf b ((hF b).2 ⟨j0, hb⟩)) hSS (fun b hb => hfS b ((hF b).2 ⟨j0, hb⟩))
        have hother : ∀ i, ¬ i = j0 → ∀ x, Fs i x → ¬ Fo x := fun i hij x hx ho' => hij (hd _ _ x hx (hsub x ho'))
        refine ⟨.tup (cs.set j0 t), fun x => ∃ i', (if i' = j0 then F0 else Fs i') x, by simp [putD, he0, ht], ?_, ?_, ?_⟩
        · refine Ok.tup _ (fun i' => if i' = j0 then F0 else Fs i') _ ?_ ?_ ?_ (fun x => Iff.rfl)
          · intro i' e h4
            by_cases hi : i' = j0
            · subst hi
              rw [List.getElem?_set_self hji] at h4
              obtain rfl := Option.some.inj h4
              simpa using hok
            · simp only [hi, if_false]
              rw [List.getElem?_set_ne (by omega)] at h4
              have hin : ∀ x, Fs i' x → F x ∧ ¬ Fo x := fun x hx => ⟨(hF x).2 ⟨i', hx⟩, hother i' hi x hx⟩
              exact (hr i' e h4).mono hS (fun x hx => hf x (hin x hx).1 (hin x hx).2) hSS (fun x hx => hfS x (hin x hx).1 (hin x hx).2)
          · intro i1 i2 x hx hy
            have aux : ∀ i, ¬ i = j0 → Fs i x → ¬ F0 x := by
              intro i hij h1 h2
              rcases (hiff x).1 h2 with ⟨h3, h4⟩ | h3
              · exact hij (hd _ _ x h1 h3)
              · exact hother i hij x h1 (hnF x h3 ((hF x).2 ⟨i, h1⟩))
            split at hx <;> split at hy
            · omega
            · rename_i a b; exact absurd hx (aux _ b hy)
            · rename_i a b; exact absurd hy (aux _ a hx)
            · exact hd _ _ x hx hy
          · intro i1 x hx
            split at hx
            · rename_i hij; subst hij; exact ⟨t, List.getElem?_set_self hji⟩
            · rename_i hij
              obtain ⟨e, h3⟩ := hval i1 x hx
              exact ⟨e, by rw [List.getElem?_set_ne (by omega)]; exact h3⟩
        · intro x
          constructor
          · rintro ⟨i1, hx⟩
            split at hx
            · rcases (hiff x).1 hx with h | h
              · exact .inl ⟨(hF x).2 ⟨j0, h.1⟩, h.2⟩
              · exact .inr h
            · rename_i hij
              exact .inl ⟨(hF x).2 ⟨i1, hx⟩, hother _ hij x hx⟩
          · rintro (⟨h1, h2⟩ | h)
            · obtain ⟨i1, h3⟩ := (hF x).1 h1
              by_cases hij : i1 = j0
              · subst hij
                exact ⟨i1, by simp; exact (hiff x).2 (.inl ⟨h3, h2⟩)⟩
              · exact ⟨i1, by simp only [hij, if_false]; exact h3⟩
            · exact ⟨j0, by simp; exact (hiff x).2 (.inr h)⟩
        · simp only [ann_tup, List.map_set, hann]
          congr 2
          apply List.ext_getElem?
          intro n
          by_cases hn : n = j0
          · subst hn; rw [List.getElem?_set_self (by simpa using hji)]; simp [he0]
          · rw [List.getElem?_set_ne (by omega)]
      · cases hs

theorem subD_putD_own {t t' new old : DV} (q' : List Step) (hp : putD t q' new = some t') (ho : Abs.subD t q' = some old) (hl : ∀ h b k rows, old ≠ .own h b k rows) (hl2 : ∀ cs, old ≠ .agg cs) (hl3 : ∀ cs, old ≠ .tup cs)
    (q : List Step) (v : Value) (bx : Bool) (k : Nat) (rows : List (List DV)) (hq : Abs.subD t q = some (.own v bx k rows)) : ∃ rows', Abs.subD t' q = some (.own v bx k rows') := by
  induction q' generalizing t t' q with
  | nil =>
    simp only [Abs.subD, Option.some.injEq] at ho
    subst ho
    cases q with
    | nil => simp only [Abs.subD, Option.some.injEq] at hq; exact absurd hq (hl _ _ _ _)
    | cons s q =>
      cases t with
      | lf a v => simp [Abs.subD] at hq
      | own h b k rows => exact absurd rfl (hl _ _ _ _)
      | agg cs => exact absurd rfl (hl2 _)
      | tup cs => exact absurd rfl (hl3 _)
  | cons s q' ih =>
    obtain ⟨i, j, k0⟩ := s
    cases t with
    | lf a v => simp [putD] at hp
    | own h b k1 rows1 =>
      simp only [putD] at hp
      simp only [Abs.subD] at ho
      cases hi : rows1[i]? with
      | none => simp [hi] at hp
      | some row =>
        simp only [hi] at hp ho
        cases hj : row[j]? with
        | none => simp [hj] at hp
        | some c =>
          simp only [hj] at hp ho
          cases hc : putD c q' new with
          | none => simp [hc] at hp
          | some c' =>
            simp only [hc, Option.some.injEq] at hp
            subst hp
            have hlt := (List.getElem?_eq_some_iff.1 hi).1
            have hji := (List.getElem?_eq_some_iff.1 hj).1
            cases q with
            | nil =>
              simp only [Abs.subD, Option.some.injEq, DV.own.injEq] at hq
              obtain ⟨rfl, rfl, rfl, _⟩ := hq
              exact ⟨_, rfl⟩
            | cons s2 q =>
              obtain ⟨i2, j2, k2⟩ := s2
              simp only [Abs.subD] at hq ⊢
              by_cases h1 : i2 = i
              · subst h1
                simp only [List.getElem?_set_self hlt]
                simp only [hi] at hq
                by_cases h2 : j2 = j
                · subst h2
                  simp only [List.getElem?_set_self hji]
                  simp only [hj] at hq
                  exact ih hc ho q hq
                · rw [List.getElem?_set_ne (by omega)]
                  exact ⟨rows, hq⟩
              · rw [List.getElem?_set_ne (by omega)]
                exact ⟨rows, hq⟩
    | agg cs =>
      simp only [putD] at hp
      simp only [Abs.subD] at ho
      cases hj : cs[j]? with
      | none => simp [hj] at hp
      | some c =>
        simp only [hj] at hp ho
        cases hc : putD c q' new with
        | none => simp [hc] at hp
        | some c' =>
          simp only [hc, Option.some.injEq] at hp
          subst hp
          have hji := (List.getElem?_eq_some_iff.1 hj).1
          cases q with
          | nil => simp [Abs.subD] at hq
          | cons s2 q =>
            obtain ⟨i2, j2, k2⟩ := s2
            simp only [Abs.subD] at hq ⊢
            by_cases h2 : j2 = j
            · subst h2
              simp only [List.getElem?_set_self hji]
              simp only [hj] at hq
              exact ih hc ho q hq
            · rw [List.getElem?_set_ne (by omega)]
              exact ⟨rows, hq⟩
    | tup cs =>
      simp only [putD] at hp
      simp only [Abs.subD] at ho
      cases hj : cs[j]? with
      | none => simp [hj] at hp
      | some c =>
        simp only [hj] at hp ho
        cases hc : putD c q' new with
        | none => simp [hc] at hp
        | some c' =>
          simp only [hc, Option.some.injEq] at hp
          subst hp
          have hji := (List.getElem?_eq_some_iff.1 hj).1
          cases q with
          | nil => simp [Abs.subD] at hq
          | cons s2 q =>
            obtain ⟨i2, j2, k2⟩ := s2
            simp only [Abs.subD] at hq ⊢
            by_cases h2 : j2 = j
            · subst h2
              simp only [List.getElem?_set_self hji]
              simp only [hj] at hq
              exact ih hc ho q hq
            · rw [List.getElem?_set_ne (by omega)]
              exact ⟨rows, hq⟩
end Go.Abs
namespace Go.Abs
variable {w w' : World} {S S' : Nat → Prop} {F F' : Nat → Prop}

structure St (G : Gi) (w : World) (S : Nat → Prop) (δ : Nat → DV) (F : Nat → Nat → Prop) : Prop where
  ok : ∀ s, Ok w S (δ s) (F s)
  dis : ∀ s t x, F s x → F t x → s = t
  al : ∀ s, AlOK δ (δ s)
  rt : ∀ s, rin (G.rtOf s) (δ s).er = true
  self : ∀ s, s ∉ G.rtOf s

def killS (G : Gi) (d : Nat) (σ : Sg) : Sg := fun s => if s ∈ G.als d then killr d (σ s) else σ s
def killδ (G : Gi) (d : Nat) (δ : Nat → DV) : Nat → DV := fun s => if s ∈ G.als d then killD d (δ s) else δ s

theorem subD_killD_own {t : DV} (d : Nat) (q : List Step) {v : Value} {bx : Bool} {k : Nat} {rows : List (List DV)} (hq : Abs.subD t q = some (.own v bx k rows)) : Abs.subD (killD d t) q = some (.own v bx k rows) := by
  induction q generalizing t with
  | nil => simp only [Abs.subD, Option.some.injEq] at hq; subst hq; simp [Abs.subD]
  | cons s q ih =>
    obtain ⟨i, j, k0⟩ := s
    cases t with
    | lf a v => simp [Abs.subD] at hq
    | own h b k1 rows1 => rw [killD_own]; exact hq
    | agg cs =>
      simp only [killD_agg, Abs.subD, List.getElem?_map] at hq ⊢
      cases hj : cs[j]? with
      | none => simp [hj] at hq
      | some c => simp only [hj, Option.map_some] at hq ⊢; exact ih hq
    | tup cs =>
      simp only [killD_tup, Abs.subD, List.getElem?_map] at hq ⊢
      cases hj : cs[j]? with
      | none => simp [hj] at hq
      | some c => simp only [hj, Option.map_some] at hq ⊢; exact ih hq

theorem AlOK.kill {δ : Nat → DV} {x : DV} (d : Nat) (h : AlOK δ x) (hl : Lfy x) : AlOK δ (killD d x) := by
  induction h with
  | lf a v h =>
    rw [killD_lf]
    refine .lf _ v ?_
    cases hl with
    | lf _ _ hl =>
      cases a with
      | al r p =>
        rw [killr_al]
        by_cases e : r = d
        · simp only [e, if_true]; trivial
        · simp only [e, if_false]; exact h
      | adr r p i j k =>
        rw [killr_adr]
        by_cases e : r = d
        · simp only [e, if_true]; trivial
        · simp only [e, if_false]; exact h
      | agg cs => simp [leafy] at hl
      | tup cs => simp [leafy] at hl
      | own => simp [leafy] at hl
      | _ => simp only [killr]; trivial
  | own => rw [killD_own]; exact .own _ _ _ _
  | agg cs _ ih =>
    rw [killD_agg]
    cases hl with
    | agg _ hl =>
      refine .agg _ fun i d' hd => ?_
      simp only [List.getElem?_map, Option.map_eq_some_iff] at hd
      obtain ⟨e, he, rfl⟩ := hd
      exact ih i e he (hl i e he)
  | tup cs _ ih =>
    rw [killD_tup]
    cases hl with
    | tup _ hl =>
      refine .tup _ fun i d' hd => ?_
      simp only [List.getElem?_map, Option.map_eq_some_iff] at hd
      obtain ⟨e, he, rfl⟩ := hd
      exact ih i e he (hl i e he)

variable {G : Gi} {δ : Nat → DV} {Fr : Nat → Nat → Prop}

theorem St.killδ_er (h : St G w S δ Fr) (d s : Nat) : (killδ G d δ s).er = killS G d (fun s => (δ s).er) s := by
  unfold killδ killS
  split
  · exact (killD_facts d (h.ok s)).1
  · rfl
theorem St.killδ_ann (h : St G w S δ Fr) (d s : Nat) : (killδ G d δ s).ann = (δ s).ann := by
  unfold killδ
  split
  · exact (killD_facts d (h.ok s)).2.1
  · rfl
theorem St.killδ_nroot (h : St G w S δ Fr) (d s : Nat) : nroot d (killδ G d δ s).er = true := by
  unfold killδ
  split
  · exact (killD_facts d (h.ok s)).2.2.2
  · rename_i hn
    exact rin_nroot (h.rt s) fun hm => hn (Gi.mem_als hm)
theorem St.killδ_ok (h : St G w S δ Fr) (d s : Nat) : Ok w S (killδ G d δ s) (Fr s) := by
  unfold killδ
  split
  · exact (killD_facts d (h.ok s)).2.2.1
  · exact h.ok s
theorem St.killδ_rt (h : St G w S δ Fr) (d s : Nat) : rin (G.rtOf s) (killδ G d δ s).er = true := by
  unfold killδ
  split
  · rw [(killD_facts d (h.ok s)).1]; exact killr_rin (h.rt s)
  · exact h.rt s
theorem St.killδ_al (h : St G w S δ Fr) (d s : Nat) : AlOK δ (killδ G d δ s) := by
  unfold killδ
  split
  · exact (h.al s).kill d (h.ok s).lfy
  · exact h.al s
theorem killδ_own (d r : Nat) (p : List Step) {v : Value} {bx : Bool} {k : Nat} {rows : List (List DV)} (hq : Abs.subD (δ r) p = some (.own v bx k rows)) : Abs.subD (killδ G d δ r) p = some (.own v bx k rows) := by
  unfold killδ
  split
  · exact subD_killD_own d p hq
  · exact hq

theorem nroot_rin {L : List Nat} {d : Nat} {a : AV} : rin L a = true → nroot d a = true → rin (L.filter (· != d)) a = true := by
  refine AV.rec (motive_1 := fun a => rin L a = true → nroot d a = true → rin (L.filter (· != d)) a = true) (motive_2 := fun _ => True) (motive_3 := fun l => rinL L l = true → nrootL d l = true → rinL (L.filter (· != d)) l = true)
    ?_ ?_ ?_ ?_ ?_ ?_ ?_ ?_ ?_ ?_ ?_ ?_ ?_ ?_ a
  all_goals intros
  all_goals first | trivial | (simp [rin]; done) | skip
  all_goals first
    | (simp_all [rin, nroot]; done)
    | (simp_all [rinL, nrootL]; done)
    | (rename_i ih h1 h2; simp only [rin, nroot] at h1 h2 ⊢; exact ih h1 h2)

theorem St.set (h : St G w S δ Fr) (d : Nat) (dn : DV) (Fn : Nat → Prop) (hw : ∀ b, S b → w'.heap[b]? = w.heap[b]?) (hf : ∀ s, s ≠ d → ∀ x, Fr s x → w'.heap[x]? = w.heap[x]?)
    (hSS : ∀ b, S b → S' b) (hfS : ∀ s, s ≠ d → ∀ x, Fr s x → ¬ S' x) (hn : Ok w' S' dn Fn) (hdis : ∀ s, s ≠ d → ∀ x, Fn x → ¬ Fr s x) (hrt : rin (G.rtOf d) dn.er = true) (hal : AlOK δ dn) :
    St G w' S' (upd (killδ G d δ) d dn) (upd Fr d Fn) := by
  have hkeep : ∀ (L : List Nat), d ∉ L → ∀ r ∈ L, ∀ p v bx k rows, Abs.subD (δ r) p = some (.own v bx k rows) → ∃ rows', Abs.subD (upd (killδ G d δ) d dn r) p = some (.own v bx k rows') := by
    intro L hL r hr p v bx k rows hq
    refine ⟨rows, ?_⟩
    rw [upd_ne _ _ (by rintro rfl; exact hL hr)]
    exact killδ_own d r p hq
  refine ⟨?_, ?_, ?_, ?_, h.self⟩
  · intro s
    by_cases hs : s = d
    · subst hs; rw [upd_same, upd_same]; exact hn
    · rw [upd_ne _ _ hs, upd_ne _ _ hs]
      exact (h.killδ_ok d s).mono hw (hf s hs) hSS (hfS s hs)
  · intro s t x h1 h2
    by_cases hs : s = d <;> by_cases ht : t = d
    · omega
    · subst hs
      rw [upd_same] at h1
      rw [upd_ne _ _ ht] at h2
      exact absurd h2 (hdis t ht x h1)
    · subst ht
      rw [upd_same] at h2
      rw [upd_ne _ _ hs] at h1
      exact absurd h1 (hdis s hs x h2)
    · rw [upd_ne _ _ hs] at h1
      rw [upd_ne _ _ ht] at h2
      exact h.dis s t x h1 h2
  · intro s
    by_cases hs : s = d
    · subst hs
      rw [upd_same]
      exact hal.mono hrt (hkeep _ (h.self s))
    · rw [upd_ne _ _ hs]
      refine (h.killδ_al d s).mono (nroot_rin (h.killδ_rt d s) (h.killδ_nroot d s)) (hkeep _ ?_)
      simp
  · intro s
    by_cases hs : s = d
    · subst hs; rw [upd_same]; exact hrt
    · rw [upd_ne _ _ hs]; exact h.killδ_rt d s

theorem St.poke (h : St G w S δ Fr) (d : Nat) (dn : DV) (Fn : Nat → Prop) (hw : ∀ b, S b → w'.heap[b]? = w.heap[b]?) (hf : ∀ s, s ≠ d → ∀ x, Fr s x → w'.heap[x]? = w.heap[x]?)
    (hn : Ok w' S dn Fn) (hdis : ∀ s, s ≠ d → ∀ x, Fn x → ¬ Fr s x) (hrt : rin (G.rtOf d) dn.er = true) (hal : AlOK δ dn)
    (hheads : ∀ p v bx k rows, Abs.subD (δ d) p = some (.own v bx k rows) → ∃ rows', Abs.subD dn p = some (.own v bx k rows')) :
    St G w' S (upd δ d dn) (upd Fr d Fn) := by
  have hkeep : ∀ (L : List Nat), ∀ r ∈ L, ∀ p v bx k rows, Abs.subD (δ r) p = some (.own v bx k rows) → ∃ rows', Abs.subD (upd δ d dn r) p = some (.own v bx k rows') := by
    intro L r _ p v bx k rows hq
    by_cases hr : r = d
    · subst hr; rw [upd_same]; exact hheads p v bx k rows hq
    · rw [upd_ne _ _ hr]; exact ⟨rows, hq⟩
  refine ⟨?_, ?_, ?_, ?_, h.self⟩
  · intro s
    by_cases hs : s = d
    · subst hs; rw [upd_same, upd_same]; exact hn
    · rw [upd_ne _ _ hs, upd_ne _ _ hs]
      exact (h.ok s).mono hw (hf s hs) (fun _ h => h) (h.ok s).notS
  · intro s t x h1 h2
    by_cases hs : s = d <;> by_cases ht : t = d
    · omega
    · subst hs
      rw [upd_same] at h1
      rw [upd_ne _ _ ht] at h2
      exact absurd h2 (hdis t ht x h1)
    · subst ht
      rw [upd_same] at h2
      rw [upd_ne _ _ hs] at h1
      exact absurd h1 (hdis s hs x h2)
    · rw [upd_ne _ _ hs] at h1
      rw [upd_ne _ _ ht] at h2
      exact h.dis s t x h1 h2
  · intro s
    by_cases hs : s = d
    · subst hs
      rw [upd_same]
      exact hal.mono hrt (hkeep _)
    · rw [upd_ne _ _ hs]
      exact (h.al s).mono (h.rt s) (hkeep _)
  · intro s
    by_cases hs : s = d
    · subst hs; rw [upd_same]; exact hrt
    · rw [upd_ne _ _ hs]; exact h.rt s

theorem St.world (h : St G w S δ Fr) (hw : ∀ b, S b → w'.heap[b]? = w.heap[b]?) (hf : ∀ s x, Fr s x → w'.heap[x]? = w.heap[x]?) (hSS : ∀ b, S b → S' b) (hfS : ∀ s x, Fr s x → ¬ S' x) : St G w' S' δ Fr :=
  ⟨fun s => (h.ok s).mono hw (hf s) hSS (hfS s), h.dis, h.al, h.rt, h.self⟩
end Go.Abs
namespace Go.Abs

inductive Ar where
  | t (s : Nat)
  | c (a : AV)
  deriving Inhabited

inductive IOp where
  | cp (x : Ar)
  | mv (x : Ar)
  | fz (x : Ar)
  | pick (c a b : Ar)
  | bx (n : Nat) (x : Ar)
  | bld (z : List AV) (ps : List (Nat × Nat × Ar))
  | bsl (k : Nat) (z : List (List AV)) (ps : List (Nat × Ar))
  | ld (agg : Bool) (n : Nat) (a : Ar)
  | st (n : Nat) (a v : Ar)
  | fad (off : Nat) (x : Ar)
  | fld (agg : Bool) (off n : Nat) (x : Ar)
  | iad (k : Nat) (x i : Ar)
  | aad (len k : Nat) (x i : Ar)
  | idx (agg : Bool) (len k : Nat) (x i : Ar)
  | bin (op : BinOp) (x y : Ar)
  | beq (neg : Bool) (x y : Ar)
  | un (op : UnOp) (x : Ar)
  | cvt (k : IntKind) (x : Ar)
  | len (x : Ar)
  | slen (x : Ar)
  | app (k bytes : Nat) (x y : Ar)
  | slc (k : Nat) (fr : Bool) (x : Ar) (lo hi mx : Option Ar)
  | ext (x : Ar) (i : Nat)
  | mk (k bytes : Nat) (z : List AV) (l c : Ar)
  | nchk (x : Ar)
  | call (f : Nat) (args : List Ar) (m : Nat)
  | bad
  deriving Inhabited

structure Dst where
  d : Nat
  kl : List Nat
  rs : List Nat
  deriving Inhabited

structure IOper where
  dst : Option Dst
  op : IOp
  guard : Option (Nat × Bool)
  deriving Inhabited

inductive XOp where
  | o (o : IOper)
  | nilq (d : Dst) (neg : Bool) (x : Ar)
  | lend (d : Option Dst) (f : Nat) (x : Ar) (rest : List Ar)
  deriving Inhabited

inductive IC where
  | skip
  | bad
  | rex (ops : List XOp)
  | gz (r : Nat) (p : List Step) (a : IC)
  | reg (ops : List IOper)
  | seq (a b : IC)
  | cond (c : Ar) (a b : IC)
  | block (id : Nat) (a : IC)
  | loop (a : IC)
  | exit (id : Nat)
  | ret
  deriving Inhabited

def ar (σ : Sg) : Ar → AV
  | .t s => σ s
  | .c a => a

def plainA : AV → Bool
  | .sc _ | .sl .. => true
  | _ => false
def plainC : AV → AV
  | .sc u => .sc u
  | .sl x k rows => .sl x k rows
  | _ => .dead
def cellA : AV → Bool
  | .sc _ | .sl .. | .own .. => true
  | _ => false

mutual
def view (r : Nat) : List Step → AV → AV
  | p, .own _ _ _ => .al r p
  | p, .agg cs => .agg (viewL r p 0 cs)
  | p, .tup cs => .tup (viewL r p 0 cs)
  | _, a => a
def viewL (r : Nat) (p : List Step) : Nat → List AV → List AV
  | _, [] => []
  | i, c :: cs => view r (p ++ [(0, i, 0)]) c :: viewL r p (i + 1) cs
end

def vC (r : Nat) (p : List Step) (i j k : Nat) : AV → AV
  | .own _ _ _ => .al r (p ++ [(i, j, k)])
  | .sc v => .sc v
  | .sl x k' rows => .sl x k' rows
  | _ => .dead
def vF (s j : Nat) : AV → AV
  | .own _ _ _ => .al s [(0, j, 0)]
  | a => a

def viewC (r : Nat) (p : List Step) (i k : Nat) : Nat → List AV → List AV
  | _, [] => []
  | j, c :: cs => vC r p i j k c :: viewC r p i k (j + 1) cs

def viewF (s : Nat) : Nat → List AV → List AV
  | _, [] => []
  | j, c :: cs => vF s j c :: viewF s (j + 1) cs

def kills (kl : List Nat) (d : Nat) (σ : Sg) : Sg := match kl with
  | [] => σ
  | _ => fun s => if s ∈ kl then killr d (σ s) else σ s

def wr (d : Dst) (v : AV) (σ : Sg) : Option Sg := if rin d.rs v = true then some (upd (kills d.kl d.d σ) d.d v) else none

def tk1 (G : Gi) (r : Nat) (p : List Step) (σ : Sg) : Option (AV × Sg) :=
  match sub (σ r) p with
  | some (.own b k rows) => match put (σ r) p .dead with
    | some t => some (.own b k rows, upd (killS G r σ) r t)
    | none => none
  | _ => none

def tkL (G : Gi) : List AV → Sg → Option (List AV × Sg)
  | [], σ => some ([], σ)
  | a :: cs, σ => match a with
    | .al r p => match tk1 G r p σ with
      | some (n, τ) => match tkL G cs τ with
        | some (l, τ') => some (n :: l, τ')
        | none => none
      | none => none
    | a => if cellA a = true then
        match tkL G cs σ with
        | some (l, τ) => some (a :: l, τ)
        | none => none
      else none

def tk (G : Gi) (x : Ar) (σ : Sg) : Option (AV × Sg) :=
  match x with
  | .c a => some (a, σ)
  | .t s => match σ s with
    | .al r p => tk1 G r p σ
    | .own b k rows => some (.own b k rows, upd (killS G s σ) s .dead)
    | .agg cs => if cs.all plainA = true then some (.agg cs, σ) else
        match tkL G cs (upd (killS G s σ) s .dead) with
        | some (l, τ) => some (.agg l, τ)
        | none => none
    | .sc v => some (.sc v, σ)
    | .sl e k rows => some (.sl e k rows, σ)
    | .adr r p i j k => some (.adr r p i j k, σ)
    | .fp cs => some (.fp cs, σ)
    | _ => none

def cellsOf : AV → List AV
  | .agg cs => cs
  | a => [a]

def hd (σ : Sg) (x : Ar) : Option (AV × Option (Nat × List Step)) :=
  match x with
  | .c a => match a with
    | .own b k rows => some (.own b k rows, none)
    | _ => none
  | .t s => match σ s with
    | .al r p => match sub (σ r) p with
      | some n => some (n, some (r, p))
      | none => none
    | .own b k rows => some (.own b k rows, some (s, []))
    | .sl e k rows => some (.sl e k rows, none)
    | _ => none

def fzAt (G : Gi) (r : Nat) (p : List Step) (σ : Sg) : Option (AV × Sg) :=
  match sub (σ r) p with
  | some (.own b k rows) => match put (σ r) p (frz (.own b k rows)) with
    | some t => some (frz (.own b k rows), upd (killS G r σ) r t)
    | none => none
  | _ => none

def asI : AV → Option Int
  | .sc (.int _ n) => some n
  | _ => none

def adrOf (σ : Sg) (x : Ar) : Option (Nat × List Step × Nat × Nat × Nat) :=
  match x with
  | .c _ => none
  | .t s => match σ s with
    | .adr r p i j k => some (r, p, i, j, k)
    | .own true k _ => some (s, [], 0, 0, k)
    | .al r p => match sub (σ r) p with
      | some (.own true k _) => some (r, p, 0, 0, k)
      | _ => none
    | _ => none

def binI (op : BinOp) (k : IntKind) (x y : Int) : Option Value :=
  match op with
  | .add => some (.int k (k.wrap (x + y)))
  | .sub => some (.int k (k.wrap (x - y)))
  | .mul => some (.int k (k.wrap (x * y)))
  | .quo => if y = 0 then none else some (.int k (k.wrap (x.tdiv y)))
  | .rem => if y = 0 then none else some (.int k (x.tmod y))
  | .eql => some (.bool (x == y))
  | .neq => some (.bool (x != y))
  | .lss => some (.bool (x < y))
  | .leq => some (.bool (x ≤ y))
  | .gtr => some (.bool (x > y))
  | .geq => some (.bool (x ≥ y))
  | _ => none

def binF (op : BinOp) : AV → AV → Option AV
  | .sc (.int k x), .sc (.int k' y) => if k = k' then (binI op k x y).map .sc else none
  | .sc (.string x), .sc (.string y) => match op with
    | .eql => some (.sc (.bool (x.toList == y.toList)))
    | .neq => some (.sc (.bool (!(x.toList == y.toList))))
    | _ => none
  | _, _ => none

def unF (op : UnOp) : AV → Option AV
  | .sc (.bool x) => match op with
    | .not => some (.sc (.bool (!x)))
    | _ => none
  | .sc (.int k x) => match op with
    | .neg => some (.sc (.int k (k.wrap (0 - x))))
    | _ => none
  | _ => none

def asCells (agg : Bool) (n : Nat) (cs : List AV) : Option AV :=
  if cs.length = n then (if agg = true then some (.agg cs) else match cs with | [c] => some c | _ => none) else none

def cutRows (rows : List (List AV)) (lo hi : Nat) : Option (List (List AV)) :=
  if lo ≤ hi ∧ hi ≤ rows.length then some ((rows.drop lo).take (hi - lo)) else none

def optI (σ : Sg) (x : Option Ar) (d : Nat) : Option Nat :=
  match x with
  | none => some d
  | some a => match asI (ar σ a) with
    | some n => if 0 ≤ n then some n.toNat else none
    | none => none

def mxI (σ : Sg) (mx : Option Ar) (h : Nat) : Option Nat :=
  match mx with
  | none => some h
  | some a => optI σ (some a) 0

def valOf (o : IOp) (σ : Sg) : Option AV :=
  match o with
  | .cp x => match x with
    | .t s => some (view s [] (σ s))
    | .c a => some a
  | .pick c a b => match ar σ c with
    | .sc (.bool x) => match ar σ (if x = true then a else b) with
      | .sc v => some (.sc v)
      | _ => none
    | _ => none
  | .ld agg n a => match a with
    | .c _ => none
    | .t s => match σ s with
      | .fp cs => asCells agg n ((cs.take n).map plainC)
      | _ => match adrOf σ (.t s) with
        | some (r, p, i, j, k) => match sub (σ r) p with
          | some (.own _ _ rows) => match rows[i]? with
            | some row => asCells agg n (viewC r p i k j ((row.drop j).take n))
            | none => none
          | _ => none
        | none => none
  | .fad off x => match x with
    | .c _ => none
    | .t s => match σ s with
      | .fp cs => some (.fp (cs.drop off))
      | _ => match adrOf σ (.t s) with
        | some (r, p, i, j, k) => some (.adr r p i (j + off) k)
        | none => none
  | .fld agg off n x => match x with
    | .c _ => none
    | .t s => match σ s with
      | .agg cs => asCells agg n (viewF s off ((cs.drop off).take n))
      | _ => none
  | .iad k x i => match hd σ x, asI (ar σ i) with
    | some (.own false k' rows, some (r, p)), some n => if k' = k ∧ 0 ≤ n ∧ n < rows.length then some (.adr r p n.toNat 0 k) else none
    | some (.sl _ k' rows, _), some n => if k' = k ∧ 0 ≤ n then (rows[n.toNat]?).map .fp else none
    | _, _ => none
  | .aad len k x i => match x, asI (ar σ i) with
    | .t s, some n => if 0 ≤ n ∧ n < len then
        match σ s with
        | .fp cs => some (.fp (cs.drop (n.toNat * k)))
        | _ => match adrOf σ (.t s) with
          | some (r, p, i, j, k') => some (.adr r p i (j + n.toNat * k) k')
          | none => none
      else none
    | _, _ => none
  | .idx agg len k x i => match x, asI (ar σ i) with
    | .t s, some n => if 0 ≤ n ∧ n < len then
        match σ s with
        | .agg cs => asCells agg k (viewF s (n.toNat * k) ((cs.drop (n.toNat * k)).take k))
        | _ => none
      else none
    | _, _ => none
  | .bin op x y => binF op (ar σ x) (ar σ y)
  | .beq neg x y => match ar σ x, ar σ y with
    | .sc (.bool a), .sc (.bool b) => some (.sc (.bool (if neg = true then !(a == b) else (a == b))))
    | _, _ => none
  | .un op x => unF op (ar σ x)
  | .cvt k x => match ar σ x with
    | .sc (.int _ n) => some (.sc (.int k (k.wrap n)))
    | _ => none
  | .len x => match hd σ x with
    | some (.own false _ rows, _) => some (.sc (.int .i64 rows.length))
    | some (.sl _ _ rows, _) => some (.sc (.int .i64 rows.length))
    | _ => none
  | .slen x => match ar σ x with
    | .sc (.string s) => some (.sc (.int .i64 s.size))
    | _ => none
  | .ext x i => match x with
    | .t s => match σ s with
      | .tup cs => match cs[i]? with
        | some c => some (view s [(0, i, 0)] c)
        | none => none
      | _ => none
    | _ => none
  | .nchk x => match ar σ x with
    | .adr r p i j k => some (.adr r p i j k)
    | .fp cs => some (.fp cs)
    | .al r p => some (.al r p)
    | .own true _ _ => match x with
      | .t s => some (.al s [])
      | _ => none
    | _ => none
  | _ => none

def splice (cs : List AV) (off : Nat) (xs : List AV) : List AV := cs.take off ++ xs ++ cs.drop (off + xs.length)

def bldL (G : Gi) : List (Nat × Nat × Ar) → List AV → Sg → Option (List AV × Sg)
  | [], cs, σ => some (cs, σ)
  | (off, n, x) :: ps, cs, σ => match tk G x σ with
    | some (a, τ) => if (cellsOf a).length = n ∧ off + n ≤ cs.length ∧ (cellsOf a).all cellA = true then bldL G ps (splice cs off (cellsOf a)) τ else none
    | none => none

def bslL (G : Gi) (k : Nat) : List (Nat × Ar) → List (List AV) → Sg → Option (List (List AV) × Sg)
  | [], rows, σ => some (rows, σ)
  | (i, x) :: ps, rows, σ => match tk G x σ with
    | some (a, τ) => if (cellsOf a).length = k ∧ i < rows.length ∧ (cellsOf a).all cellA = true then bslL G k ps (rows.set i (cellsOf a)) τ else none
    | none => none

def stC (p : List Step) (i k : Nat) : Nat → List AV → AV → Option AV
  | _, [], t => some t
  | j, c :: cs, t => match put t (p ++ [(i, j, k)]) c with
    | some t' => stC p i k (j + 1) cs t'
    | none => none

def roomOK (n bytes : Nat) : Bool := n * bytes ≤ 70368744177664

def appY (G : Gi) (k : Nat) (y : Ar) (σ : Sg) : Option (List (List AV) × Sg) :=
  match y with
  | .t s => match σ s with
    | .own false k' rows => if k' = k ∧ rows.all (·.all cellA) = true then some (rows, upd (killS G s σ) s .dead) else none
    | .sl _ k' rows => if k' = k ∧ rows.all (·.all plainA) = true then some (rows, σ) else none
    | .al r p => match fzAt G r p σ with
      | some (.sl _ k' rows, τ) => if k' = k ∧ rows.all (·.all plainA) = true then some (rows, τ) else none
      | _ => none
    | _ => none
  | .c a => match a with
    | .own false _ [] => some ([], σ)
    | _ => none

def appX (G : Gi) (k : Nat) (x : Ar) (τ : Sg) : Option (AV × Sg) :=
  match x with
  | .t s => match τ s with
    | .sl true k' rows => if k' = k ∧ rows.all (·.all plainA) = true then some (.sl true k' rows, τ) else none
    | .own false k' rows => if k' = k then some (.own false k' rows, upd (killS G s τ) s .dead) else none
    | .al r p => match tk1 G r p τ with
      | some (.own false k' rows, τ') => if k' = k then some (.own false k' rows, τ') else none
      | _ => none
    | _ => none
  | .c a => match a with
    | .own false _ [] => some (.own false k [], τ)
    | _ => none

def eff (G : Gi) (o : IOp) (d : Option Dst) (σ : Sg) : Option Sg :=
  match o, d with
  | .mv x, some d => match tk G x σ with
    | some (v, τ) => wr d v τ
    | none => none
  | .fz x, some d => match x with
    | .t s => match σ s with
      | .al r p => match fzAt G r p σ with
        | some (v, τ) => wr d v τ
        | none => none
      | .own _ _ _ => match fzAt G s [] σ with
        | some (v, τ) => wr d v τ
        | none => none
      | .sc v => wr d (.sc v) σ
      | .sl e k rows => wr d (.sl e k rows) σ
      | _ => none
    | .c _ => none
  | .bx n x, some d => match tk G x σ with
    | some (v, τ) => if (cellsOf v).length = n ∧ (cellsOf v).all cellA = true then wr d (.own true n [cellsOf v]) τ else none
    | none => none
  | .bld z ps, some d => match bldL G ps z σ with
    | some (cs, τ) => wr d (.agg cs) τ
    | none => none
  | .bsl k z ps, some d => match bslL G k ps z σ with
    | some (rows, τ) => wr d (.own false k rows) τ
    | none => none
  | .mk k bytes z l c, some d => match asI (ar σ l), asI (ar σ c) with
    | some l, some c => if 0 ≤ l ∧ l ≤ c ∧ roomOK c.toNat bytes = true then wr d (.own false k (List.replicate l.toNat z)) σ else none
    | _, _ => none
  | .slc k fr x lo hi mx, some d => match hd σ x with
    | some (.sl _ k' rows, _) => match optI σ lo 0, optI σ hi rows.length with
      | some l, some h => match cutRows rows l h, mxI σ mx h with
        | some rs, some m => if k' = k ∧ m = h then wr d (.sl mx.isSome k rs) σ else none
        | _, _ => none
      | _, _ => none
    | some (.own false k' rows, some (r, p)) => match optI σ lo 0, optI σ hi rows.length with
      | some l, some h => match cutRows rows l h, mxI σ mx h with
        | some rs, some m => if k' = k ∧ m = h then
            (if fr = true then
              match fzAt G r p σ with
              | some (_, τ) => wr d (.sl mx.isSome k (rs.map (·.map frz))) τ
              | none => none
            else if l = 0 ∧ mx.isNone = true then
              match tk1 G r p σ with
              | some (_, τ) => wr d (.own false k rs) τ
              | none => none
            else none)
          else none
        | _, _ => none
      | _, _ => none
    | _ => none
  | .app k bytes x y, some d => match appY G k y σ with
    | some (ys, τ) => match appX G k x τ with
      | some (.own _ _ rows, τ') => if roomOK (rows.length + ys.length) bytes = true then wr d (.own false k (rows ++ ys)) τ' else none
      | some (.sl e _ rows, τ') => match ys with
        | [] => wr d (.sl e k rows) τ'
        | y :: ys => if roomOK (rows.length + (y :: ys).length) bytes = true then wr d (.own false k (rows ++ y :: ys)) τ' else none
      | _ => none
    | none => none
  | .st n a v, none => match tk G v σ with
    | some (x, τ) => match adrOf τ a with
      | some (r, p, i, j, k) => match sub (τ r) p with
        | some (.own _ _ rows) => match rows[i]? with
          | some row =>
            if (cellsOf x).length = n ∧ (cellsOf x).all cellA = true ∧ j + n ≤ row.length then
              match stC p i k j (cellsOf x) (τ r) with
              | some t => if ((row.drop j).take n).all leafy = true then some (upd τ r t) else some (upd (killS G r τ) r t)
              | none => none
            else none
          | none => none
        | _ => none
      | none => none
    | none => none
  | o, some d => match valOf o σ with
    | some v => wr d v σ
    | none => none
  | _, none => none
end Go.Abs
namespace Go.Abs

structure Ext (w w' : World) (F : Nat → Prop) : Prop where
  os : w'.os = w.os
  tape : w'.tape = w.tape
  output : w'.output = w.output
  size : w.heap.size ≤ w'.heap.size
  block : ∀ b, b < w.heap.size → ¬ F b → w'.heap[b]? = w.heap[b]?

def SoundAt (P : Program) (f : Nat) (args : List AV) (res : AV) (outs : List AV) : Prop :=
  ∀ (w : World) (S : Nat → Prop) (ds : List DV) (F : Nat → Prop), ds.map DV.er = args → Ok w S (.tup ds) F → (∀ b, S b → b < w.heap.size) →
    Calls P f (ds.map DV.ann).toArray w fun e w' => ∃ (r : DV) (os : List DV) (S' F' : Nat → Prop), e = .returned r.ann ∧ r.er = res ∧ os.map DV.er = outs ∧ os.map DV.ann = ds.map DV.ann ∧
      Ok w' S' (.tup (r :: os)) F' ∧ Ext w w' F ∧ (∀ b, S b → S' b) ∧ (∀ b, S' b → S b ∨ F b ∨ w.heap.size ≤ b) ∧ (∀ b, S' b → b < w'.heap.size) ∧ (∀ x, F' x → F x ∨ w.heap.size ≤ x)

def Says (P : Program) (f : Nat) (args : List AV) (res : AV) : Prop := SoundAt P f args res (args.map fun _ => .dead)

def rdV (σ : Sg) : AV → Option AV
  | .al r p => match sub (σ r) p with
    | some (.own false k rows) => some (frz (.own false k rows))
    | _ => none
  | .own false k rows => some (frz (.own false k rows))
  | .sc v => some (.sc v)
  | .sl _ k rows => some (.sl false k rows)
  | _ => none
def rdL (σ : Sg) : List AV → Option (List AV)
  | [] => some []
  | a :: r => match rdV σ a, rdL σ r with
    | some x, some l => some (x :: l)
    | _, _ => none
def rdA (σ : Sg) : AV → Option AV
  | .agg cs => match rdL σ cs with
    | some l => some (.agg l)
    | none => none
  | .al r p => rdV σ (.al r p)
  | .own b k rows => rdV σ (.own b k rows)
  | .sc v => rdV σ (.sc v)
  | .sl e k rows => rdV σ (.sl e k rows)
  | _ => none
def rdArgs (σ : Sg) : List Ar → Option (List AV)
  | [] => some []
  | x :: r => match rdA σ (ar σ x), rdArgs σ r with
    | some a, some l => some (a :: l)
    | _, _ => none

def fzl : AV → AV
  | .sl _ k rows => .sl false k rows
  | a => frz a
def fzn : AV → AV
  | .agg cs => .agg (cs.map fzl)
  | a => fzl a
def tkArgs (G : Gi) : List Ar → Sg → Option (List AV × Sg)
  | [], σ => some ([], σ)
  | x :: r, σ => match tk G x σ with
    | some (a, τ) => match tkArgs G r τ with
      | some (l, τ') => some (fzn a :: l, τ')
      | none => none
    | none => none

def flatA : AV → Bool
  | .sc _ => true
  | .agg cs => cs.all fun | .sc _ => true | _ => false
  | .tup cs => cs.all fun | .sc _ => true | _ => false
  | _ => false

mutual
def fresh : AV → Bool
  | .sc _ => true
  | .own _ _ rows => freshR rows
  | .agg cs => freshL cs
  | .tup cs => freshL cs
  | _ => false
def freshL : List AV → Bool
  | [] => true
  | a :: r => fresh a && freshL r
def freshR : List (List AV) → Bool
  | [] => true
  | a :: r => freshL a && freshR r
end

def resV (m : Nat) (res : AV) : Option AV :=
  match m with
  | 0 => if flatA res = true then some res else none
  | 1 => some (frz res)
  | 2 => if fresh res = true then some res else none
  | _ => none

def callArgs (G : Gi) (m : Nat) (args : List Ar) (σ : Sg) : Option (List AV × Sg) :=
  match m with
  | 1 => tkArgs G args σ
  | _ => match rdArgs σ args with
    | some l => some (l, σ)
    | none => none

def toDst (dst : Option Dst) (v : AV) (K : Sg → Prop) (τ : Sg) : Prop :=
  match dst with
  | some d => (match wr d v τ with
    | some τ' => K τ'
    | none => False)
  | none => K τ

def arun (P : Program) (G : Gi) (o : IOper) (K : Sg → Prop) (σ : Sg) : Prop :=
  match o.op with
  | .call f args m => match callArgs G m args σ with
    | some (as, τ) => ∃ res, Says P f as res ∧ (match resV m res with
      | some v => toDst o.dst v K τ
      | none => False)
    | none => False
  | op => match eff G op o.dst σ with
    | some τ => K τ
    | none => False

def aop (P : Program) (G : Gi) (o : IOper) (K : Sg → Prop) (σ : Sg) : Prop :=
  match o.guard with
  | none => arun P G o K σ
  | some (g, want) => match σ g with
    | .sc (.bool b) => if b = want then arun P G o K σ else
        (match o.dst with
        | some d => K (upd (kills d.kl d.d σ) d.d .un)
        | none => K σ)
    | .un => (match o.dst with
        | some d => K (upd (kills d.kl d.d σ) d.d .un)
        | none => K σ)
    | _ => False

def aops (P : Program) (G : Gi) : List IOper → (Sg → Prop) → Sg → Prop
  | [], K, σ => K σ
  | o :: os, K, σ => aop P G o (aops P G os K) σ

def plc (σ : Sg) : Ar → Option (Nat × List Step)
  | .t s => match σ s with
    | .al r p => some (r, p)
    | .own _ _ _ => some (s, [])
    | _ => none
  | .c _ => none
def rdSc (σ : Sg) : List Ar → Option (List AV)
  | [] => some []
  | x :: r => match ar σ x, rdSc σ r with
    | .sc v, some l => some (.sc v :: l)
    | _, _ => none
def rowsOf : AV → Option (List (List AV))
  | .own false _ rows => some rows
  | .sl _ _ rows => some rows
  | _ => none
def backOK : AV → Bool
  | .own .. | .dead => true
  | _ => false

def axs (P : Program) (G : Gi) : List XOp → (Sg → Prop) → Sg → Prop
  | [], K, σ => K σ
  | .o o :: xs, K, σ => aop P G o (axs P G xs K) σ
  | .nilq d neg x :: xs, K, σ => match hd σ x with
    | some (a, _) => (match rowsOf a with
      | some rows => ∀ b : Bool, (b = true → rows = []) → toDst (some d) (.sc (.bool (if neg = true then !b else b))) (axs P G xs K) σ
      | none => False)
    | none => False
  | .lend d f x rest :: xs, K, σ => match plc σ x, rdSc σ rest with
    | some (r, p), some as => (match sub (σ r) p with
      | some (.own b k rows) => ∃ res out, SoundAt P f (.own b k rows :: as) res (out :: as.map fun _ => .dead) ∧ backOK out = true ∧ (match put (σ r) p out, resV 2 res with
        | some t, some v => toDst d v (axs P G xs K) (upd (killS G r σ) r t)
        | _, _ => False)
      | _ => False)
    | _, _ => False

def gzS (G : Gi) (r : Nat) (p : List Step) (σ : Sg) : Option Sg := match sub (σ r) p with
  | some (.sl _ _ _) => some σ
  | _ => match fzAt G r p σ with
    | some (_, τ) => some τ
    | none => none

def Exit.seqA (next : Sg → Prop) (Q : Exit → Sg → Prop) : Exit → Sg → Prop
  | .normal, σ => next σ
  | e, σ => Q e σ
def Exit.blockA (id : Nat) (Q : Exit → Sg → Prop) : Exit → Sg → Prop
  | .exit i, σ => if i = id then Q .normal σ else Q (.exit i) σ
  | e, σ => Q e σ

def awp (P : Program) (G : Gi) : IC → (Exit → Sg → Prop) → Sg → Prop
  | .skip, Q, σ => Q .normal σ
  | .bad, _, _ => False
  | .rex xs, Q, σ => axs P G xs (Q .normal) σ
  | .gz r p a, Q, σ => match gzS G r p σ with
    | some τ => awp P G a Q τ
    | none => False
  | .reg ops, Q, σ => aops P G ops (Q .normal) σ
  | .seq a b, Q, σ => awp P G a (Exit.seqA (awp P G b Q) Q) σ
  | .cond c a b, Q, σ => match ar σ c with
    | .sc (.bool x) => if x = true then awp P G a Q σ else awp P G b Q σ
    | _ => False
  | .block id a, Q, σ => awp P G a (Exit.blockA id Q) σ
  | .loop a, Q, σ => ∃ I : Nat → Sg → Prop, (∃ n, I n σ) ∧ ∀ n τ, I n τ → awp P G a (Exit.seqA (fun τ' => ∃ n', n' < n ∧ I n' τ') Q) τ
  | .exit id, Q, σ => Q (.exit id) σ
  | .ret, Q, σ => Q .ret σ

theorem awp_skip (P : Program) (G : Gi) (Q : Exit → Sg → Prop) (σ : Sg) : awp P G .skip Q σ = Q .normal σ := (rfl)
theorem awp_reg (P : Program) (G : Gi) (ops : List IOper) (Q : Exit → Sg → Prop) (σ : Sg) : awp P G (.reg ops) Q σ = aops P G ops (Q .normal) σ := (rfl)
theorem awp_rex (P : Program) (G : Gi) (xs : List XOp) (Q : Exit → Sg → Prop) (σ : Sg) : awp P G (.rex xs) Q σ = axs P G xs (Q .normal) σ := (rfl)
theorem awp_bad (P : Program) (G : Gi) (Q : Exit → Sg → Prop) (σ : Sg) : awp P G .bad Q σ = False := (rfl)
theorem awp_seq (P : Program) (G : Gi) (a b : IC) (Q : Exit → Sg → Prop) (σ : Sg) : awp P G (.seq a b) Q σ = awp P G a (Exit.seqA (awp P G b Q) Q) σ := (rfl)
theorem awp_block (P : Program) (G : Gi) (id : Nat) (a : IC) (Q : Exit → Sg → Prop) (σ : Sg) : awp P G (.block id a) Q σ = awp P G a (Exit.blockA id Q) σ := (rfl)
theorem awp_exit (P : Program) (G : Gi) (id : Nat) (Q : Exit → Sg → Prop) (σ : Sg) : awp P G (.exit id) Q σ = Q (.exit id) σ := (rfl)
theorem awp_ret (P : Program) (G : Gi) (Q : Exit → Sg → Prop) (σ : Sg) : awp P G .ret Q σ = Q .ret σ := (rfl)
theorem awp_cond (P : Program) (G : Gi) (c : Ar) (a b : IC) (Q : Exit → Sg → Prop) (σ : Sg) : awp P G (.cond c a b) Q σ = match ar σ c with
    | .sc (.bool x) => if x = true then awp P G a Q σ else awp P G b Q σ
    | _ => False := rfl
theorem awp_loop {P : Program} {G : Gi} {a : IC} {Q : Exit → Sg → Prop} {σ : Sg} (I : Nat → Sg → Prop) (n : Nat) (h : I n σ)
    (round : ∀ n τ, I n τ → awp P G a (Exit.seqA (fun τ' => ∃ n', n' < n ∧ I n' τ') Q) τ) : awp P G (.loop a) Q σ := ⟨I, ⟨n, h⟩, round⟩
theorem seqA_normal (next : Sg → Prop) (Q : Exit → Sg → Prop) (σ : Sg) : Exit.seqA next Q .normal σ = next σ := (rfl)
theorem seqA_exit (next : Sg → Prop) (Q : Exit → Sg → Prop) (id : Nat) (σ : Sg) : Exit.seqA next Q (.exit id) σ = Q (.exit id) σ := (rfl)
theorem seqA_ret (next : Sg → Prop) (Q : Exit → Sg → Prop) (σ : Sg) : Exit.seqA next Q .ret σ = Q .ret σ := (rfl)
theorem blockA_normal (id : Nat) (Q : Exit → Sg → Prop) (σ : Sg) : Exit.blockA id Q .normal σ = Q .normal σ := (rfl)
theorem blockA_exit (id i : Nat) (Q : Exit → Sg → Prop) (σ : Sg) : Exit.blockA id Q (.exit i) σ = if i = id then Q .normal σ else Q (.exit i) σ := (rfl)
theorem blockA_ret (id : Nat) (Q : Exit → Sg → Prop) (σ : Sg) : Exit.blockA id Q .ret σ = Q .ret σ := (rfl)

inductive RV where
  | tmp (t : Nat)
  | cell (a : Nat) (agg : Bool) (n : Nat)
  deriving Inhabited

def takeRes (G : Gi) : List RV → Sg → Option (List AV × Sg)
  | [], σ => some ([], σ)
  | .tmp t :: l, σ => match tk G (.t t) σ with
    | some (v, τ) => match takeRes G l τ with
      | some (vs, τ') => some (v :: vs, τ')
      | none => none
    | none => none
  | .cell a agg n :: l, σ => match σ a with
    | .own true _ [row] => match asCells agg n row with
      | some v => match takeRes G l (upd (killS G a σ) a .dead) with
        | some (vs, τ') => some (v :: vs, τ')
        | none => none
      | none => none
    | _ => none

def one : List AV → AV
  | [v] => v
  | vs => .tup vs

def Ends (G : Gi) (rs : List RV) (res : AV) (e : Exit) (σ : Sg) : Prop :=
  (match e with | .normal => True | .ret => True | _ => False) ∧ ∃ vs τ, takeRes G rs σ = some (vs, τ) ∧ one vs = res

def start (args : List AV) : Sg := fun s => args.getD s .un
end Go.Abs
