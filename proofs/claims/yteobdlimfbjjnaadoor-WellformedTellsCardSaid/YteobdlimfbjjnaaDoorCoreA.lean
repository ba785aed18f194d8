/- A calculus of abstract states of Go memory, and that it is sound (part A). -/
import Derived.Orders
import Derived.Deep.LoopGhost
import Derived.Laws.Cells
import Derived.Laws.Small
import Derived.Laws.AppendOwn
import Derived.Laws.CopyRow
set_option linter.unusedSimpArgs false
set_option linter.unusedVariables false
namespace Go.Abs
abbrev Step := Nat × Nat × Nat
inductive AV where
 | sc (v : Value)
 | sl (x : Bool) (k : Nat) (rows : List (List AV))
 | own (b : Bool) (k : Nat) (rows : List (List AV))
 | agg (cs : List AV)
 | tup (cs : List AV)
 | al (r : Nat) (p : List Step)
 | adr (r : Nat) (p : List Step) (i j k : Nat)
 | fp (cs : List AV)
 | dead
 | un
 | cl (f : Nat) (rs : List (Nat × List Step))
 | vb (s off : Nat) (us : List Value)
 | fcl (f : Nat) (css : List (List AV))
 deriving Inhabited
abbrev Sg := Nat → AV
def upd {α : Type} (σ : Nat → α) (d : Nat) (v : α) : Nat → α := fun s => if s = d then v else σ s
theorem upd_same {α : Type} (σ : Nat → α) (d : Nat) (v : α) : upd σ d v d = v := by simp [upd]
theorem upd_ne {α : Type} (σ : Nat → α) {d s : Nat} (v : α) (h : s ≠ d) : upd σ d v s = σ s := by simp [upd, h]
def sub : AV → List Step → Option AV
 | a, [] => some a
 | .own _ _ rows, (i, j, _) :: p => match rows[i]? with
  | some row => match row[j]? with
   | some c => sub c p
   | none => none
  | none => none
 | .agg cs, (_, j, _) :: p => match cs[j]? with
  | some c => sub c p
  | none => none
 | .tup cs, (_, j, _) :: p => match cs[j]? with
  | some c => sub c p
  | none => none
 | _, _ :: _ => none
def put : AV → List Step → AV → Option AV
 | _, [], x => some x
 | .own b k rows, (i, j, _) :: p, x => match rows[i]? with
  | some row => match row[j]? with
   | some c => match put c p x with
    | some c' => some (.own b k (rows.set i (row.set j c')))
    | none => none
   | none => none
  | none => none
 | .agg cs, (_, j, _) :: p, x => match cs[j]? with
  | some c => match put c p x with
   | some c' => some (.agg (cs.set j c'))
   | none => none
  | none => none
 | .tup cs, (_, j, _) :: p, x => match cs[j]? with
  | some c => match put c p x with
   | some c' => some (.tup (cs.set j c'))
   | none => none
  | none => none
 | _, _ :: _, _ => none
inductive DV where
 | lf (a : AV) (v : Value)
 | own (h : Value) (b : Bool) (k : Nat) (rows : List (List DV))
 | agg (cs : List DV)
 | tup (cs : List DV)
 deriving Inhabited
mutual
def DV.er : DV → AV
 | .lf a _ => a
 | .own _ b k rows => .own b k (erR rows)
 | .agg cs => .agg (erL cs)
 | .tup cs => .tup (erL cs)
def erL : List DV → List AV
 | [] => []
 | d :: r => d.er :: erL r
def erR : List (List DV) → List (List AV)
 | [] => []
 | d :: r => erL d :: erR r
end
theorem erL_eq (l : List DV) : erL l = l.map DV.er := by
 induction l with
 | nil => rfl
 | cons d r ih => simp [erL, ih]
theorem erR_eq (l : List (List DV)) : erR l = l.map (·.map DV.er) := by
 induction l with
 | nil => rfl
 | cons d r ih => simp [erR, ih, erL_eq]
mutual
def DV.ann : DV → Value
 | .lf _ v => v
 | .own h _ _ _ => h
 | .agg cs => .agg (annL cs).toArray
 | .tup cs => .tuple (annL cs).toArray
def annL : List DV → List Value
 | [] => []
 | d :: r => d.ann :: annL r
end
theorem annL_eq (l : List DV) : annL l = l.map DV.ann := by
 induction l with
 | nil => rfl
 | cons d r ih => simp [annL, ih]
@[simp] theorem er_lf (a : AV) (v : Value) : (DV.lf a v).er = a := by simp [DV.er]
@[simp] theorem er_own (h : Value) (b : Bool) (k : Nat) (rows : List (List DV)) : (DV.own h b k rows).er = .own b k (rows.map (·.map DV.er)) := by simp [DV.er, erR_eq]
@[simp] theorem er_agg (cs : List DV) : (DV.agg cs).er = .agg (cs.map DV.er) := by simp [DV.er, erL_eq]
@[simp] theorem er_tup (cs : List DV) : (DV.tup cs).er = .tup (cs.map DV.er) := by simp [DV.er, erL_eq]
@[simp] theorem ann_lf (a : AV) (v : Value) : (DV.lf a v).ann = v := by simp [DV.ann]
@[simp] theorem ann_own (h : Value) (b : Bool) (k : Nat) (rows : List (List DV)) : (DV.own h b k rows).ann = h := by simp [DV.ann]
@[simp] theorem ann_agg (cs : List DV) : (DV.agg cs).ann = .agg (cs.map DV.ann).toArray := by simp [DV.ann, annL_eq]
@[simp] theorem ann_tup (cs : List DV) : (DV.tup cs).ann = .tuple (cs.map DV.ann).toArray := by simp [DV.ann, annL_eq]
def subD : DV → List Step → Option DV
 | a, [] => some a
 | .own _ _ _ rows, (i, j, _) :: p => match rows[i]? with
  | some row => match row[j]? with
   | some c => subD c p
   | none => none
  | none => none
 | .agg cs, (_, j, _) :: p => match cs[j]? with
  | some c => subD c p
  | none => none
 | .tup cs, (_, j, _) :: p => match cs[j]? with
  | some c => subD c p
  | none => none
 | _, _ :: _ => none
def putD : DV → List Step → DV → Option DV
 | _, [], x => some x
 | .own h b k rows, (i, j, _) :: p, x => match rows[i]? with
  | some row => match row[j]? with
   | some c => match putD c p x with
    | some c' => some (.own h b k (rows.set i (row.set j c')))
    | none => none
   | none => none
  | none => none
 | .agg cs, (_, j, _) :: p, x => match cs[j]? with
  | some c => match putD c p x with
   | some c' => some (.agg (cs.set j c'))
   | none => none
  | none => none
 | .tup cs, (_, j, _) :: p, x => match cs[j]? with
  | some c => match putD c p x with
   | some c' => some (.tup (cs.set j c'))
   | none => none
  | none => none
 | _, _ :: _, _ => none
def leafy : AV → Bool
 | .own .. | .agg _ | .tup _ => false
 | _ => true
inductive Lfy : DV → Prop
 | lf (a v) (h : leafy a = true) : Lfy (.lf a v)
 | own (h b k rows) (hr : ∀ (i j : Nat) row d, rows[i]? = some row → row[j]? = some d → Lfy d) : Lfy (.own h b k rows)
 | agg (cs) (hr : ∀ (i : Nat) d, cs[i]? = some d → Lfy d) : Lfy (.agg cs)
 | tup (cs) (hr : ∀ (i : Nat) d, cs[i]? = some d → Lfy d) : Lfy (.tup cs)
theorem Lfy.subD {d x : DV} {p : List Step} (h : Lfy d) (hs : subD d p = some x) : Lfy x := by
 induction p generalizing d with
 | nil => simp only [Abs.subD, Option.some.injEq] at hs; exact hs ▸ h
 | cons s p ih =>
  obtain ⟨i, j, k⟩ := s
  cases h with
  | lf a v h => simp [Abs.subD] at hs
  | own hh b k' rows hr =>
   simp only [Abs.subD] at hs
   split at hs
   · split at hs
     · rename_i row hrow _ c hc; exact ih (hr i j row c hrow hc) hs
     · cases hs
   · cases hs
  | agg cs hr =>
   simp only [Abs.subD] at hs
   split at hs
   · rename_i c hc; exact ih (hr j c hc) hs
   · cases hs
  | tup cs hr =>
   simp only [Abs.subD] at hs
   split at hs
   · rename_i c hc; exact ih (hr j c hc) hs
   · cases hs
theorem subD_of_sub {d : DV} {p : List Step} {a : AV} (h : Lfy d) (hs : sub d.er p = some a) : ∃ x, subD d p = some x ∧ x.er = a := by
 induction p generalizing d with
 | nil => simp only [sub, Option.some.injEq] at hs; exact ⟨d, rfl, hs⟩
 | cons s p ih =>
  obtain ⟨i, j, k⟩ := s
  cases h with
  | lf b v h => cases b <;> simp_all [sub, leafy]
  | own hh b k' rows hr =>
   simp only [er_own, sub, List.getElem?_map] at hs
   cases hi : rows[i]? with
   | none => simp [hi] at hs
   | some row =>
    simp only [hi, Option.map_some, List.getElem?_map] at hs
    cases hj : row[j]? with
    | none => simp [hj] at hs
    | some c =>
     simp only [hj, Option.map_some] at hs
     obtain ⟨x, hx, he⟩ := ih (hr i j row c hi hj) hs
     exact ⟨x, by simp [subD, hi, hj, hx], he⟩
  | agg cs hr =>
   simp only [er_agg, sub, List.getElem?_map] at hs
   cases hj : cs[j]? with
   | none => simp [hj] at hs
   | some c =>
    simp only [hj, Option.map_some] at hs
    obtain ⟨x, hx, he⟩ := ih (hr j c hj) hs
    exact ⟨x, by simp [subD, hj, hx], he⟩
  | tup cs hr =>
   simp only [er_tup, sub, List.getElem?_map] at hs
   cases hj : cs[j]? with
   | none => simp [hj] at hs
   | some c =>
    simp only [hj, Option.map_some] at hs
    obtain ⟨x, hx, he⟩ := ih (hr j c hj) hs
    exact ⟨x, by simp [subD, hj, hx], he⟩
theorem putD_of_put {d : DV} {p : List Step} {a : AV} (x : DV) (h : Lfy d) (hs : put d.er p x.er = some a) : ∃ t, putD d p x = some t ∧ t.er = a := by
 induction p generalizing d a with
 | nil => simp only [put, Option.some.injEq] at hs; exact ⟨x, rfl, hs⟩
 | cons s p ih =>
  obtain ⟨i, j, k⟩ := s
  cases h with
  | lf b v h => cases b <;> simp_all [put, leafy]
  | own hh b k' rows hr =>
   simp only [er_own, put, List.getElem?_map] at hs
   cases hi : rows[i]? with
   | none => simp [hi] at hs
   | some row =>
    simp only [hi, Option.map_some, List.getElem?_map] at hs
    cases hj : row[j]? with
    | none => simp [hj] at hs
    | some c =>
     simp only [hj, Option.map_some] at hs
     cases hp : put c.er p x.er with
     | none => simp [hp] at hs
     | some c' =>
      simp only [hp, Option.some.injEq] at hs
      obtain ⟨t, ht, he⟩ := ih (hr i j row c hi hj) hp
      refine ⟨.own hh b k' (rows.set i (row.set j t)), by simp [putD, hi, hj, ht], ?_⟩
      rw [← hs, ← he]
      simp [List.map_set]
  | agg cs hr =>
   simp only [er_agg, put, List.getElem?_map] at hs
   cases hj : cs[j]? with
   | none => simp [hj] at hs
   | some c =>
    simp only [hj, Option.map_some] at hs
    cases hp : put c.er p x.er with
    | none => simp [hp] at hs
    | some c' =>
     simp only [hp, Option.some.injEq] at hs
     obtain ⟨t, ht, he⟩ := ih (hr j c hj) hp
     refine ⟨.agg (cs.set j t), by simp [putD, hj, ht], ?_⟩
     rw [← hs, ← he]
     simp [List.map_set]
  | tup cs hr =>
   simp only [er_tup, put, List.getElem?_map] at hs
   cases hj : cs[j]? with
   | none => simp [hj] at hs
   | some c =>
    simp only [hj, Option.map_some] at hs
    cases hp : put c.er p x.er with
    | none => simp [hp] at hs
    | some c' =>
     simp only [hp, Option.some.injEq] at hs
     obtain ⟨t, ht, he⟩ := ih (hr j c hj) hp
     refine ⟨.tup (cs.set j t), by simp [putD, hj, ht], ?_⟩
     rw [← hs, ← he]
     simp [List.map_set]
end Go.Abs
namespace Go.Abs
def plainV : Value → Bool
 | .agg _ | .tuple _ => false
 | _ => true
def hdr (bx : Bool) (b n c : Nat) : Value := if bx then .pointer (some ⟨b, 0, none⟩) else .slice (some ⟨b, 0, none⟩) n c
inductive Fz (w : World) (S : Nat → Prop) : AV → Value → Prop
 | sc (v : Value) (hp : plainV v = true) : Fz w S (.sc v) v
 | dead (v : Value) : Fz w S .dead v
 | nil (x : Bool) (k : Nat) (a : Option Addr) (c : Nat) (hx : x = true → c = 0) : Fz w S (.sl x k []) (.slice a 0 c)
 | sl (x : Bool) (k : Nat) (rows : List (List AV)) (b off c : Nat) (vs : Nat → Nat → Value) (hx : x = true → c = rows.length) (hlc : rows.length ≤ c) (hS : S b)
  (hk : ∀ row ∈ rows, row.length = k)
  (hc : ∀ i j row a, rows[i]? = some row → row[j]? = some a → w.cell? ⟨b, off + (i * k + j), none⟩ = some (vs i j))
  (hr : ∀ i j row a, rows[i]? = some row → row[j]? = some a → Fz w S a (vs i j)) : Fz w S (.sl x k rows) (.slice (some ⟨b, off, none⟩) rows.length c)
 | agg (cs : List AV) (vs : List Value) (hs : vs.length = cs.length) (h : ∀ (i : Nat) a v, cs[i]? = some a → vs[i]? = some v → Fz w S a v) : Fz w S (.agg cs) (.agg vs.toArray)
 | tup (cs : List AV) (vs : List Value) (hs : vs.length = cs.length) (h : ∀ (i : Nat) a v, cs[i]? = some a → vs[i]? = some v → Fz w S a v) : Fz w S (.tup cs) (.tuple vs.toArray)
theorem Fz.mono {w w' : World} {S S' : Nat → Prop} {a : AV} {v : Value} (h : Fz w S a v) (hw : ∀ b, S b → w'.heap[b]? = w.heap[b]?) (hS : ∀ b, S b → S' b) : Fz w' S' a v := by
 induction h with
 | sc v hp => exact .sc v hp
 | dead v => exact .dead v
 | nil x k a c hx => exact .nil x k a c hx
 | sl x k rows b off c vs hx hlc hb hk hc hr ih =>
  refine .sl x k rows b off c vs hx hlc (hS b hb) hk (fun i j row a h1 h2 => ?_) (fun i j row a h1 h2 => ih i j row a h1 h2)
  rw [← hc i j row a h1 h2]
  simp only [World.cell?, hw b hb]
 | agg cs vs hs h ih => exact .agg cs vs hs ih
 | tup cs vs hs h ih => exact .tup cs vs hs ih
def FpOK (w : World) (S : Nat → Prop) (cs : List AV) (v : Value) : Prop := ∃ b off, v = .pointer (some ⟨b, off, none⟩) ∧ S b ∧ ∀ (j : Nat) a, cs[j]? = some a → ∃ u, w.cell? ⟨b, off + j, none⟩ = some u ∧ Fz w S a u
theorem FpOK.mono {w w' : World} {S S' : Nat → Prop} {cs : List AV} {v : Value} (h : FpOK w S cs v) (hw : ∀ b, S b → w'.heap[b]? = w.heap[b]?) (hS : ∀ b, S b → S' b) : FpOK w' S' cs v := by
 obtain ⟨b, off, rfl, hb, hc⟩ := h
 refine ⟨b, off, rfl, hS b hb, fun j a hj => ?_⟩
 obtain ⟨u, hu, hf⟩ := hc j a hj
 refine ⟨u, ?_, hf.mono hw hS⟩
 rw [← hu]
 simp only [World.cell?, hw b hb]
def LeafOK (w : World) (S : Nat → Prop) : AV → Value → Prop
 | .sc u, v => v = u ∧ plainV u = true
 | .sl x k rows, v => Fz w S (.sl x k rows) v
 | .fp cs, v => ∃ b off, v = .pointer (some ⟨b, off, none⟩) ∧ S b ∧ ∀ (j : Nat) a, cs[j]? = some a → ∃ u, w.cell? ⟨b, off + j, none⟩ = some u ∧ Fz w S a u
 | .un, v => v = undef
 | .al .., _ => True
 | .adr .., _ => True
 | .dead, _ => True
 | .cl .., _ => True
 | .fcl f css, v => ∃ vs : List Value, v = .func (.func f) #[] vs.toArray ∧ vs.length = css.length ∧ ∀ (i : Nat) cs u, css[i]? = some cs → vs[i]? = some u → FpOK w S cs u
 | .vb _ off us, v => ∃ b, v = .pointer (some ⟨b, off, none⟩) ∧ S b ∧ ∀ (j : Nat) u, us[j]? = some u → w.cell? ⟨b, j, none⟩ = some u
 | _, _ => False
theorem LeafOK.leafy {w : World} {S : Nat → Prop} {a : AV} {v : Value} (h : LeafOK w S a v) : leafy a = true := by
 cases a <;> simp_all [LeafOK, Abs.leafy]
theorem LeafOK.mono {w w' : World} {S S' : Nat → Prop} {a : AV} {v : Value} (h : LeafOK w S a v) (hw : ∀ b, S b → w'.heap[b]? = w.heap[b]?) (hS : ∀ b, S b → S' b) : LeafOK w' S' a v := by
 cases a with
 | sl x k rows => exact Fz.mono h hw hS
 | fp cs =>
  obtain ⟨b, off, rfl, hb, hc⟩ := h
  refine ⟨b, off, rfl, hS b hb, fun j a hj => ?_⟩
  obtain ⟨u, hu, hf⟩ := hc j a hj
  refine ⟨u, ?_, hf.mono hw hS⟩
  rw [← hu]
  simp only [World.cell?, hw b hb]
 | sc u => exact h
 | own => exact h
 | agg => exact h
 | tup => exact h
 | al => exact h
 | adr => exact h
 | dead => exact h
 | un => exact h
 | cl => exact h
 | fcl f css =>
  obtain ⟨vs, h1, h2, h3⟩ := h
  exact ⟨vs, h1, h2, fun i cs u hi hu => (h3 i cs u hi hu).mono hw hS⟩
 | vb s off us =>
  obtain ⟨b, rfl, hb, hc⟩ := h
  refine ⟨b, rfl, hS b hb, fun j u hj => ?_⟩
  rw [← hc j u hj]
  simp only [World.cell?, hw b hb]
inductive Ok (w : World) (S : Nat → Prop) : DV → (Nat → Prop) → Prop
 | lf (a : AV) (v : Value) (F : Nat → Prop) (ha : LeafOK w S a v) (hF : ∀ x, ¬ F x) : Ok w S (.lf a v) F
 | nil (k : Nat) (F : Nat → Prop) (hF : ∀ x, ¬ F x) : Ok w S (.own (.slice none 0 0) false k []) F
 | own (bx : Bool) (k : Nat) (rows : List (List DV)) (b c : Nat) (arr : Array Value) (E : TypeId) (Fs : Nat → Nat → Nat → Prop) (F : Nat → Prop)
  (hb : w.heap[b]? = some (.cells arr E (0, 0))) (hk : ∀ row ∈ rows, row.length = k)
  (hcap : if bx then rows.length = 1 ∧ arr.size = k else c * k = arr.size ∧ rows.length ≤ c) (hS : ¬ S b)
  (hv : ∀ (i j : Nat) row d, rows[i]? = some row → row[j]? = some d → arr[i * k + j]? = some d.ann)
  (hr : ∀ (i j : Nat) row d, rows[i]? = some row → row[j]? = some d → Ok w S d (Fs i j))
  (hd : ∀ i j i' j' x, Fs i j x → Fs i' j' x → i = i' ∧ j = j')
  (hval : ∀ i j x, Fs i j x → ∃ row d, rows[i]? = some row ∧ row[j]? = some d) (hbF : ∀ i j, ¬ Fs i j b)
  (hF : ∀ x, F x ↔ x = b ∨ ∃ i j, Fs i j x) : Ok w S (.own (hdr bx b rows.length c) bx k rows) F
 | agg (cs : List DV) (Fs : Nat → Nat → Prop) (F : Nat → Prop) (hr : ∀ (i : Nat) d, cs[i]? = some d → Ok w S d (Fs i))
  (hd : ∀ i i' x, Fs i x → Fs i' x → i = i') (hval : ∀ i x, Fs i x → ∃ d, cs[i]? = some d) (hF : ∀ x, F x ↔ ∃ i, Fs i x) : Ok w S (.agg cs) F
 | tup (cs : List DV) (Fs : Nat → Nat → Prop) (F : Nat → Prop) (hr : ∀ (i : Nat) d, cs[i]? = some d → Ok w S d (Fs i))
  (hd : ∀ i i' x, Fs i x → Fs i' x → i = i') (hval : ∀ i x, Fs i x → ∃ d, cs[i]? = some d) (hF : ∀ x, F x ↔ ∃ i, Fs i x) : Ok w S (.tup cs) F
variable {w w' : World} {S S' : Nat → Prop} {d : DV} {F F' : Nat → Prop}
theorem Ok.lfy (h : Ok w S d F) : Lfy d := by
 induction h with
 | lf a v F ha hF => exact .lf a v ha.leafy
 | nil k F hF => exact .own _ _ _ _ (by simp)
 | own bx k rows b c arr E Fs F hb hk hcap hS hv hr hd hval hbF hF ih => exact .own _ _ _ _ ih
 | agg cs Fs F hr hd hval hF ih => exact .agg cs ih
 | tup cs Fs F hr hd hval hF ih => exact .tup cs ih
theorem Ok.notS (h : Ok w S d F) : ∀ x, F x → ¬ S x := by
 induction h with
 | lf a v F ha hF => exact fun x hx => absurd hx (hF x)
 | nil k F hF => exact fun x hx => absurd hx (hF x)
 | own bx k rows b c arr E Fs F hb hk hcap hS hv hr hd hval hbF hF ih =>
  intro x hx
  rcases (hF x).1 hx with rfl | ⟨i, j, h⟩
  · exact hS
  · obtain ⟨row, d, h1, h2⟩ := hval i j x h
    exact ih i j row d h1 h2 x h
 | agg cs Fs F hr hd hval hF ih =>
  intro x hx
  obtain ⟨i, h⟩ := (hF x).1 hx
  obtain ⟨d, h1⟩ := hval i x h
  exact ih i d h1 x h
 | tup cs Fs F hr hd hval hF ih =>
  intro x hx
  obtain ⟨i, h⟩ := (hF x).1 hx
  obtain ⟨d, h1⟩ := hval i x h
  exact ih i d h1 x h
theorem Ok.lt (h : Ok w S d F) : ∀ x, F x → x < w.heap.size := by
 induction h with
 | lf a v F ha hF => exact fun x hx => absurd hx (hF x)
 | nil k F hF => exact fun x hx => absurd hx (hF x)
 | own bx k rows b c arr E Fs F hb hk hcap hS hv hr hd hval hbF hF ih =>
  intro x hx
  rcases (hF x).1 hx with rfl | ⟨i, j, h⟩
  · exact (Array.getElem?_eq_some_iff.1 hb).1
  · obtain ⟨row, d, h1, h2⟩ := hval i j x h
    exact ih i j row d h1 h2 x h
 | agg cs Fs F hr hd hval hF ih =>
  intro x hx
  obtain ⟨i, h⟩ := (hF x).1 hx
  obtain ⟨d, h1⟩ := hval i x h
  exact ih i d h1 x h
 | tup cs Fs F hr hd hval hF ih =>
  intro x hx
  obtain ⟨i, h⟩ := (hF x).1 hx
  obtain ⟨d, h1⟩ := hval i x h
  exact ih i d h1 x h
theorem Ok.congr (h : Ok w S d F) (hF' : ∀ x, F' x ↔ F x) : Ok w S d F' := by
 have : F' = F := funext fun x => propext (hF' x)
 exact this ▸ h
theorem Ok.mono (h : Ok w S d F) (hw : ∀ b, S b → w'.heap[b]? = w.heap[b]?) (hf : ∀ b, F b → w'.heap[b]? = w.heap[b]?) (hS : ∀ b, S b → S' b) (hn : ∀ x, F x → ¬ S' x) : Ok w' S' d F := by
 induction h with
 | lf a v F ha hF => exact .lf a v F (ha.mono hw hS) hF
 | nil k F hF => exact .nil k F hF
 | own bx k rows b c arr E Fs F hb hk hcap hSb hv hr hd hval hbF hF ih =>
  refine .own bx k rows b c arr E Fs F ?_ hk hcap (hn b ((hF b).2 (.inl rfl))) hv (fun i j row d h1 h2 => ih i j row d h1 h2 ?_ ?_) hd hval hbF hF
  · rw [hf b ((hF b).2 (.inl rfl))]; exact hb
  · exact fun x hx => hf x ((hF x).2 (.inr ⟨i, j, hx⟩))
  · exact fun x hx => hn x ((hF x).2 (.inr ⟨i, j, hx⟩))
 | agg cs Fs F hr hd hval hF ih =>
  exact .agg cs Fs F (fun i d h1 => ih i d h1 (fun x hx => hf x ((hF x).2 ⟨i, hx⟩)) (fun x hx => hn x ((hF x).2 ⟨i, hx⟩))) hd hval hF
 | tup cs Fs F hr hd hval hF ih =>
  exact .tup cs Fs F (fun i d h1 => ih i d h1 (fun x hx => hf x ((hF x).2 ⟨i, hx⟩)) (fun x hx => hn x ((hF x).2 ⟨i, hx⟩))) hd hval hF
theorem Ok.subD {x : DV} {p : List Step} (h : Ok w S d F) (hs : subD d p = some x) : ∃ F', Ok w S x F' ∧ ∀ y, F' y → F y := by
 induction p generalizing d F with
 | nil => simp only [Abs.subD, Option.some.injEq] at hs; exact ⟨F, hs ▸ h, fun _ h => h⟩
 | cons s p ih =>
  obtain ⟨i, j, k⟩ := s
  cases h with
  | lf a v _ ha hF => simp [Abs.subD] at hs
  | nil k _ hF => simp [Abs.subD] at hs
  | own bx k rows b c arr E Fs _ hb hk hcap hSb hv hr hd hval hbF hF =>
   simp only [Abs.subD] at hs
   split at hs
   · split at hs
     · rename_i row hrow _ e he
       obtain ⟨F', h1, h2⟩ := ih (hr i j row e hrow he) hs
       exact ⟨F', h1, fun y hy => (hF y).2 (.inr ⟨i, j, h2 y hy⟩)⟩
     · cases hs
   · cases hs
  | agg cs Fs _ hr hd hval hF =>
   simp only [Abs.subD] at hs
   split at hs
   · rename_i e he
     obtain ⟨F', h1, h2⟩ := ih (hr j e he) hs
     exact ⟨F', h1, fun y hy => (hF y).2 ⟨j, h2 y hy⟩⟩
   · cases hs
  | tup cs Fs _ hr hd hval hF =>
   simp only [Abs.subD] at hs
   split at hs
   · rename_i e he
     obtain ⟨F', h1, h2⟩ := ih (hr j e he) hs
     exact ⟨F', h1, fun y hy => (hF y).2 ⟨j, h2 y hy⟩⟩
   · cases hs
mutual
def frz : AV → AV
 | .own false k rows => .sl false k (frzR rows)
 | .own true _ _ => .dead
 | .agg cs => .agg (frzL cs)
 | .tup cs => .tup (frzL cs)
 | .sc v => .sc v
 | .sl x k rows => .sl x k rows
 | _ => .dead
def frzL : List AV → List AV
 | [] => []
 | a :: r => frz a :: frzL r
def frzR : List (List AV) → List (List AV)
 | [] => []
 | a :: r => frzL a :: frzR r
end
theorem frzL_eq (l : List AV) : frzL l = l.map frz := by
 induction l with
 | nil => rfl
 | cons d r ih => simp [frzL, ih]
theorem frzR_eq (l : List (List AV)) : frzR l = l.map (·.map frz) := by
 induction l with
 | nil => rfl
 | cons d r ih => simp [frzR, ih, frzL_eq]
@[simp] theorem frz_vec (k : Nat) (rows : List (List AV)) : frz (.own false k rows) = .sl false k (rows.map (·.map frz)) := by simp [frz, frzR_eq]
@[simp] theorem frz_box (k : Nat) (rows : List (List AV)) : frz (.own true k rows) = .dead := by simp [frz]
@[simp] theorem frz_agg (cs : List AV) : frz (.agg cs) = .agg (cs.map frz) := by simp [frz, frzL_eq]
@[simp] theorem frz_tup (cs : List AV) : frz (.tup cs) = .tup (cs.map frz) := by simp [frz, frzL_eq]
@[simp] theorem frz_sc (v : Value) : frz (.sc v) = .sc v := by simp [frz]
@[simp] theorem frz_sl (x : Bool) (k : Nat) (rows : List (List AV)) : frz (.sl x k rows) = .sl x k rows := by simp [frz]
theorem frz_leaf {a : AV} {v : Value} (h : LeafOK w S a v) : Fz w S (frz a) v := by
 cases a with
 | sc u => obtain ⟨rfl, hp⟩ := h; simpa using Fz.sc v hp
 | sl x k rows => rw [frz_sl]; exact h
 | _ => first | exact h.elim | (simp only [frz]; exact .dead v)
theorem Ok.freeze (h : Ok w S d F) : Fz w (fun x => S x ∨ F x) (frz d.er) d.ann := by
 induction h with
 | lf a v F ha hF =>
  simp only [er_lf, ann_lf]
  exact (frz_leaf ha).mono (fun _ _ => rfl) (fun _ h => .inl h)
 | nil k F hF => simpa using Fz.nil false k none 0 (by simp)
 | own bx k rows b c arr E Fs F hb hk hcap hSb hv hr hd hval hbF hF ih =>
  cases bx with
  | true => simp only [er_own, frz_box]; exact .dead _
  | false =>
   simp only [er_own, frz_vec, ann_own, hdr, List.map_map]
   have hlen : ((rows.map ((fun x => x.map frz) ∘ fun x => x.map DV.er))).length = rows.length := by simp
   rw [show (Value.slice (some ⟨b, 0, none⟩) rows.length c) = Value.slice (some ⟨b, 0, none⟩) (rows.map ((fun x => x.map frz) ∘ fun x => x.map DV.er)).length c from by rw [hlen]]
   refine Fz.sl false k _ b 0 c (fun i j => (arr[i * k + j]?).getD undef) (by simp) (by rw [hlen]; simp at hcap; exact hcap.2) (.inr ((hF b).2 (.inl rfl))) ?_ ?_ ?_
   · intro row hrow
     obtain ⟨r0, h0, rfl⟩ := List.mem_map.1 hrow
     simpa using hk r0 h0
   · intro i j row a h1 h2
     simp only [List.getElem?_map, Option.map_eq_some_iff] at h1
     obtain ⟨r0, h0, rfl⟩ := h1
     simp only [Function.comp, List.map_map, List.getElem?_map, Option.map_eq_some_iff] at h2
     obtain ⟨d0, h3, rfl⟩ := h2
     simp [World.cell?, hb, hv i j r0 d0 h0 h3]
   · intro i j row a h1 h2
     simp only [List.getElem?_map, Option.map_eq_some_iff] at h1
     obtain ⟨r0, h0, rfl⟩ := h1
     simp only [Function.comp, List.map_map, List.getElem?_map, Option.map_eq_some_iff] at h2
     obtain ⟨d0, h3, rfl⟩ := h2
     simp only [hv i j r0 d0 h0 h3, Option.getD_some]
     refine (ih i j r0 d0 h0 h3).mono (fun _ _ => rfl) ?_
     rintro x (h | h)
     · exact .inl h
     · exact .inr ((hF x).2 (.inr ⟨i, j, h⟩))
 | agg cs Fs F hr hd hval hF ih =>
  simp only [er_agg, frz_agg, ann_agg]
  refine Fz.agg _ _ (by simp) ?_
  intro i a v h1 h2
  simp only [List.map_map, List.getElem?_map, Option.map_eq_some_iff] at h1 h2
  obtain ⟨d1, h1, rfl⟩ := h1
  obtain ⟨d2, h2, rfl⟩ := h2
  obtain rfl : d1 = d2 := by rw [h1] at h2; exact Option.some.inj h2
  refine (ih i d1 h1).mono (fun _ _ => rfl) ?_
  rintro x (h | h)
  · exact .inl h
  · exact .inr ((hF x).2 ⟨i, h⟩)
 | tup cs Fs F hr hd hval hF ih =>
  simp only [er_tup, frz_tup, ann_tup]
  refine Fz.tup _ _ (by simp) ?_
  intro i a v h1 h2
  simp only [List.map_map, List.getElem?_map, Option.map_eq_some_iff] at h1 h2
  obtain ⟨d1, h1, rfl⟩ := h1
  obtain ⟨d2, h2, rfl⟩ := h2
  obtain rfl : d1 = d2 := by rw [h1] at h2; exact Option.some.inj h2
  refine (ih i d1 h1).mono (fun _ _ => rfl) ?_
  rintro x (h | h)
  · exact .inl h
  · exact .inr ((hF x).2 ⟨i, h⟩)
end Go.Abs
namespace Go.Abs
variable {w w' : World} {S S' : Nat → Prop} {d : DV} {F F' : Nat → Prop}
def hblk : Value → Option Nat
 | .slice (some a) _ _ => some a.block
 | .pointer (some a) => some a.block
 | _ => none
@[simp] theorem hblk_hdr (bx : Bool) (b n c : Nat) : hblk (hdr bx b n c) = some b := by cases bx <;> rfl
theorem idx_inj {k i j i' j' : Nat} (hj : j < k) (hj' : j' < k) (h : i * k + j = i' * k + j') : i = i' ∧ j = j' := by
 have hk : 0 < k := by omega
 have h1 : (i * k + j) / k = i := by rw [Nat.mul_comm, Nat.mul_add_div hk, Nat.div_eq_of_lt hj]; rfl
 have h2 : (i' * k + j') / k = i' := by rw [Nat.mul_comm, Nat.mul_add_div hk, Nat.div_eq_of_lt hj']; rfl
 have h3 : i = i' := by rw [← h1, ← h2, h]
 subst h3
 exact ⟨rfl, by omega⟩
theorem setCell_block (w : World) (b o : Nat) (v : Value) (arr : Array Value) (E : TypeId) (fz : Nat × Nat) (hb : w.heap[b]? = some (.cells arr E fz)) :
 (w.setCell ⟨b, o, none⟩ v).heap[b]? = some (.cells (arr.setIfInBounds o v) E fz) := by
 simp [World.setCell, Array.getElem?_modify, hb]
theorem setCell_other (w : World) (b o x : Nat) (v : Value) (h : x ≠ b) : (w.setCell ⟨b, o, none⟩ v).heap[x]? = w.heap[x]? := by
 simp only [World.setCell, Array.getElem?_modify]
 rw [if_neg (by omega)]
theorem row_lt {α : Type} {rows : List (List α)} {k i j : Nat} {row : List α} {x : α} (hk : ∀ row ∈ rows, row.length = k) (h1 : rows[i]? = some row) (h2 : row[j]? = some x) : j < k := by
 have := hk row (List.mem_of_getElem? h1)
 have := (List.getElem?_eq_some_iff.1 h2).1
 omega
theorem Ok.store {new : DV} {Fn : Nat → Prop} {k i j : Nat} {bx : Bool} {rows : List (List DV)} {row : List DV} {old : DV} {hv : Value} {b : Nat} (p : List Step)
 (h : Ok w S d F) (hs : Abs.subD d p = some (.own hv bx k rows)) (h1 : rows[i]? = some row) (h2 : row[j]? = some old) (hb : hblk hv = some b)
 (hn : Ok (w.setCell ⟨b, i * k + j, none⟩ new.ann) S new Fn) (hdis : ∀ x, Fn x → ¬ F x) :
 ∃ t F', putD d (p ++ [(i, j, k)]) new = some t ∧ Ok (w.setCell ⟨b, i * k + j, none⟩ new.ann) S t F' ∧ (∀ x, F' x → F x ∨ Fn x) ∧ t.ann = d.ann ∧ F b := by
 induction p generalizing d F with
 | nil =>
  simp only [Abs.subD, Option.some.injEq] at hs
  subst hs
  generalize hvv : hv = hv' at h
  cases h with
  | nil k _ hF => simp at h1
  | own _ _ _ b' c arr E Fs _ hbb hk hcap hSb hv hr hd hval hbF hF =>
   subst hvv
   simp only [hblk_hdr, Option.some.injEq] at hb
   subst hb
   have hjk := row_lt hk h1 h2
   have hlt := (List.getElem?_eq_some_iff.1 h1).1
   have hji := (List.getElem?_eq_some_iff.1 h2).1
   have hin : i * k + j < arr.size := by
    have := hv i j row old h1 h2
    exact (Array.getElem?_eq_some_iff.1 this).1
   refine ⟨.own (hdr bx b' rows.length c) bx k (rows.set i (row.set j new)), fun x => x = b' ∨ ∃ i' j', (if i' = i ∧ j' = j then Fn else Fs i' j') x, ?_, ?_, ?_, by simp, (hF b').2 (.inl rfl)⟩
   · simp [putD, h1, h2]
   · rw [show (hdr bx b' rows.length c) = hdr bx b' (rows.set i (row.set j new)).length c from by simp]
     refine Ok.own bx k _ b' c (arr.setIfInBounds (i * k + j) new.ann) E (fun i' j' => if i' = i ∧ j' = j then Fn else Fs i' j') _ (setCell_block _ _ _ _ _ _ _ hbb) ?_ ?_ hSb ?_ ?_ ?_ ?_ ?_ (fun x => Iff.rfl)
     · intro r hr'
       rcases List.mem_or_eq_of_mem_set hr' with h | rfl
       · exact hk r h
       · simp [hk row (List.mem_of_getElem? h1)]
     · simpa using hcap
     · intro i' j' r e h3 h4
       by_cases hi : i' = i
       · subst hi
         rw [List.getElem?_set_self hlt] at h3
         obtain rfl := Option.some.inj h3
         by_cases hj : j' = j
         · subst hj
           rw [List.getElem?_set_self hji] at h4
           obtain rfl := Option.some.inj h4
           simp [hin]
         · rw [List.getElem?_set_ne (by omega)] at h4
           rw [Array.getElem?_setIfInBounds_ne (by have := row_lt hk h1 h4; omega)]
           exact hv i' j' row e h1 h4
       · rw [List.getElem?_set_ne (by omega)] at h3
         rw [Array.getElem?_setIfInBounds_ne]
         · exact hv i' j' r e h3 h4
         · intro he
           exact hi (idx_inj (row_lt hk h3 h4) hjk he.symm).1
     · intro i' j' r e h3 h4
       by_cases hij : i' = i ∧ j' = j
       · obtain ⟨rfl, rfl⟩ := hij
         rw [List.getElem?_set_self hlt] at h3
         obtain rfl := Option.some.inj h3
         rw [List.getElem?_set_self hji] at h4
         obtain rfl := Option.some.inj h4
         simpa using hn
       · simp only [hij, if_false]
         have hold : Ok w S e (Fs i' j') := by
          by_cases hi : i' = i
          · subst hi
            have hj : j' ≠ j := fun e => hij ⟨rfl, e⟩
            rw [List.getElem?_set_self hlt] at h3
            obtain rfl := Option.some.inj h3
            rw [List.getElem?_set_ne (by omega)] at h4
            exact hr i' j' row e h1 h4
          · rw [List.getElem?_set_ne (by omega)] at h3
            exact hr i' j' r e h3 h4
         refine hold.mono (fun x hx => setCell_other _ _ _ _ _ ?_) (fun x hx => setCell_other _ _ _ _ _ ?_) (fun _ h => h) hold.notS
         · rintro rfl; exact hSb hx
         · rintro rfl; exact hbF _ _ hx
     · intro i1 j1 i2 j2 x hx hy
       split at hx <;> split at hy
       · rename_i a b; omega
       · exact absurd ((hF x).2 (.inr ⟨i2, j2, hy⟩)) (hdis x hx)
       · exact absurd ((hF x).2 (.inr ⟨i1, j1, hx⟩)) (hdis x hy)
       · exact hd _ _ _ _ x hx hy
     · intro i1 j1 x hx
       split at hx
       · rename_i hij
         obtain ⟨rfl, rfl⟩ := hij
         exact ⟨_, new, List.getElem?_set_self hlt, List.getElem?_set_self hji⟩
       · obtain ⟨r, e, h3, h4⟩ := hval i1 j1 x hx
         by_cases hi : i1 = i
         · subst hi
           rename_i hne
           have hj : j1 ≠ j := fun e => hne ⟨rfl, e⟩
           obtain rfl : row = r := by rw [h1] at h3; exact Option.some.inj h3
           exact ⟨_, e, List.getElem?_set_self hlt, by rw [List.getElem?_set_ne (by omega)]; exact h4⟩
         · exact ⟨r, e, by rw [List.getElem?_set_ne (by omega)]; exact h3, h4⟩
     · intro i1 j1 hx
       split at hx
       · exact hdis b' hx ((hF b').2 (.inl rfl))
       · exact hbF _ _ hx
   · rintro x (rfl | ⟨i1, j1, hx⟩)
     · exact .inl ((hF x).2 (.inl rfl))
     · split at hx
       · exact .inr hx
       · exact .inl ((hF x).2 (.inr ⟨i1, j1, hx⟩))
 | cons s p ih =>
  obtain ⟨i0, j0, k0⟩ := s
  cases h with
  | lf a v _ ha hF => simp [Abs.subD] at hs
  | nil k _ hF => simp [Abs.subD] at hs
  | own bx0 k1 rows0 b0 c arr E Fs _ hbb hk hcap hSb hv hr hd hval hbF hF =>
   simp only [Abs.subD] at hs
   split at hs
   · split at hs
     · rename_i row0 hrow0 _ e0 he0
       obtain ⟨t, F0, ht, hok, hsub, hann, hFb⟩ := ih (hr i0 j0 row0 e0 hrow0 he0) hs (fun x hx hf => hdis x hx ((hF x).2 (.inr ⟨i0, j0, hf⟩)))
       have hne : b0 ≠ b := by rintro rfl; exact hbF _ _ hFb
       have hlt := (List.getElem?_eq_some_iff.1 hrow0).1
       have hji := (List.getElem?_eq_some_iff.1 he0).1
       refine ⟨.own (hdr bx0 b0 rows0.length c) bx0 k1 (rows0.set i0 (row0.set j0 t)), fun x => x = b0 ∨ ∃ i' j', (if i' = i0 ∧ j' = j0 then F0 else Fs i' j') x, ?_, ?_, ?_, by simp, (hF b).2 (.inr ⟨i0, j0, hFb⟩)⟩
       · simp [putD, hrow0, he0, ht]
       · rw [show (hdr bx0 b0 rows0.length c) = hdr bx0 b0 (rows0.set i0 (row0.set j0 t)).length c from by simp]
         refine Ok.own bx0 k1 _ b0 c arr E (fun i' j' => if i' = i0 ∧ j' = j0 then F0 else Fs i' j') _ (by rw [setCell_other _ _ _ _ _ hne]; exact hbb) ?_ (by simpa using hcap) hSb ?_ ?_ ?_ ?_ ?_ (fun x => Iff.rfl)
         · intro r hr'
           rcases List.mem_or_eq_of_mem_set hr' with h | rfl
           · exact hk r h
           · simp [hk row0 (List.mem_of_getElem? hrow0)]
         · intro i' j' r e h3 h4
           by_cases hi : i' = i0
           · subst hi
             rw [List.getElem?_set_self hlt] at h3
             obtain rfl := Option.some.inj h3
             by_cases hj : j' = j0
             · subst hj
               rw [List.getElem?_set_self hji] at h4
               obtain rfl := Option.some.inj h4
               rw [hann]
               exact hv i' j' row0 e0 hrow0 he0
             · rw [List.getElem?_set_ne (by omega)] at h4
               exact hv i' j' row0 e hrow0 h4
           · rw [List.getElem?_set_ne (by omega)] at h3
             exact hv i' j' r e h3 h4
         · intro i' j' r e h3 h4
           by_cases hij : i' = i0 ∧ j' = j0
           · obtain ⟨rfl, rfl⟩ := hij
             rw [List.getElem?_set_self hlt] at h3
             obtain rfl := Option.some.inj h3
             rw [List.getElem?_set_self hji] at h4
             obtain rfl := Option.some.inj h4
             simpa using hok
           · simp only [hij, if_false]
             have hold : Ok w S e (Fs i' j') := by
              by_cases hi : i' = i0
              · subst hi
                have hj : j' ≠ j0 := fun e => hij ⟨rfl, e⟩
                rw [List.getElem?_set_self hlt] at h3
                obtain rfl := Option.some.inj h3
                rw [List.getElem?_set_ne (by omega)] at h4
                exact hr i' j' row0 e hrow0 h4
              · rw [List.getElem?_set_ne (by omega)] at h3
                exact hr i' j' r e h3 h4
             refine hold.mono (fun x hx => setCell_other _ _ _ _ _ ?_) (fun x hx => setCell_other _ _ _ _ _ ?_) (fun _ h => h) hold.notS
             · rintro rfl; exact (hr i0 j0 row0 e0 hrow0 he0).notS x hFb hx
             · rintro rfl; exact hij (hd _ _ _ _ x hx hFb)
         · intro i1 j1 i2 j2 x hx hy
           split at hx <;> split at hy
           · rename_i a b; omega
           · rename_i a b
             rcases hsub x hx with h | h
             · exact absurd (hd _ _ _ _ x hy h) b
             · exact absurd ((hF x).2 (.inr ⟨i2, j2, hy⟩)) (hdis x h)
           · rename_i a b
             rcases hsub x hy with h | h
             · exact absurd (hd _ _ _ _ x hx h) a
             · exact absurd ((hF x).2 (.inr ⟨i1, j1, hx⟩)) (hdis x h)
           · exact hd _ _ _ _ x hx hy
         · intro i1 j1 x hx
           split at hx
           · rename_i hij
             obtain ⟨rfl, rfl⟩ := hij
             exact ⟨_, t, List.getElem?_set_self hlt, List.getElem?_set_self hji⟩
           · obtain ⟨r, e, h3, h4⟩ := hval i1 j1 x hx
             by_cases hi : i1 = i0
             · subst hi
               rename_i hne
               have hj : j1 ≠ j0 := fun e => hne ⟨rfl, e⟩
               obtain rfl : row0 = r := by rw [hrow0] at h3; exact Option.some.inj h3
               exact ⟨_, e, List.getElem?_set_self hlt, by rw [List.getElem?_set_ne (by omega)]; exact h4⟩
             · exact ⟨r, e, by rw [List.getElem?_set_ne (by omega)]; exact h3, h4⟩
         · intro i1 j1 hx
           split at hx
           · rcases hsub b0 hx with h | h
             · exact hbF _ _ h
             · exact hdis b0 h ((hF b0).2 (.inl rfl))
           · exact hbF _ _ hx
       · rintro x (rfl | ⟨i1, j1, hx⟩)
         · exact .inl ((hF x).2 (.inl rfl))
         · split at hx
           · rcases hsub x hx with h | h
             · exact .inl ((hF x).2 (.inr ⟨i0, j0, h⟩))
             · exact .inr h
           · exact .inl ((hF x).2 (.inr ⟨i1, j1, hx⟩))
     · cases hs
   · cases hs
  | agg cs Fs _ hr hd hval hF =>
   simp only [Abs.subD] at hs
   split at hs
   · rename_i e0 he0
     obtain ⟨t, F0, ht, hok, hsub, hann, hFb⟩ := ih (hr j0 e0 he0) hs (fun x hx hf => hdis x hx ((hF x).2 ⟨j0, hf⟩))
     have hji := (List.getElem?_eq_some_iff.1 he0).1
     refine ⟨.agg (cs.set j0 t), fun x => ∃ i', (if i' = j0 then F0 else Fs i') x, by simp [putD, he0, ht], ?_, ?_, ?_, (hF b).2 ⟨j0, hFb⟩⟩
     · refine Ok.agg _ (fun i' => if i' = j0 then F0 else Fs i') _ ?_ ?_ ?_ (fun x => Iff.rfl)
       · intro i' e h4
         by_cases hi : i' = j0
         · subst hi
           rw [List.getElem?_set_self hji] at h4
           obtain rfl := Option.some.inj h4
           simpa using hok
         · simp only [hi, if_false]
           rw [List.getElem?_set_ne (by omega)] at h4
           refine (hr i' e h4).mono (fun x hx => setCell_other _ _ _ _ _ ?_) (fun x hx => setCell_other _ _ _ _ _ ?_) (fun _ h => h) (hr i' e h4).notS
           · rintro rfl; exact (hr j0 e0 he0).notS x hFb hx
           · rintro rfl; exact hi (hd _ _ x hx hFb)
       · intro i1 i2 x hx hy
         split at hx <;> split at hy
         · omega
         · rename_i a b
           rcases hsub x hx with h | h
           · exact absurd (hd _ _ x hy h) b
           · exact absurd ((hF x).2 ⟨i2, hy⟩) (hdis x h)
         · rename_i a b
           rcases hsub x hy with h | h
           · exact absurd (hd _ _ x hx h) a
           · exact absurd ((hF x).2 ⟨i1, hx⟩) (hdis x h)
         · exact hd _ _ x hx hy
       · intro i1 x hx
         split at hx
         · rename_i hij; subst hij; exact ⟨t, List.getElem?_set_self hji⟩
         · rename_i hij
           obtain ⟨e, h3⟩ := hval i1 x hx
           exact ⟨e, by rw [List.getElem?_set_ne (by omega)]; exact h3⟩
     · rintro x ⟨i1, hx⟩
       split at hx
       · rcases hsub x hx with h | h
         · exact .inl ((hF x).2 ⟨j0, h⟩)
         · exact .inr h
       · exact .inl ((hF x).2 ⟨i1, hx⟩)
     · simp only [ann_agg, List.map_set, hann]
       congr 2
       apply List.ext_getElem?
       intro n
       by_cases hn : n = j0
       · subst hn; rw [List.getElem?_set_self (by simpa using hji)]; simp [he0]
       · rw [List.getElem?_set_ne (by omega)]
   · cases hs
  | tup cs Fs _ hr hd hval hF =>
   simp only [Abs.subD] at hs
   split at hs
   · rename_i e0 he0
     obtain ⟨t, F0, ht, hok, hsub, hann, hFb⟩ := ih (hr j0 e0 he0) hs (fun x hx hf => hdis x hx ((hF x).2 ⟨j0, hf⟩))
     have hji := (List.getElem?_eq_some_iff.1 he0).1
     refine ⟨.tup (cs.set j0 t), fun x => ∃ i', (if i' = j0 then F0 else Fs i') x, by simp [putD, he0, ht], ?_, ?_, ?_, (hF b).2 ⟨j0, hFb⟩⟩
     · refine Ok.tup _ (fun i' => if i' = j0 then F0 else Fs i') _ ?_ ?_ ?_ (fun x => Iff.rfl)
       · intro i' e h4
         by_cases hi : i' = j0
         · subst hi
           rw [List.getElem?_set_self hji] at h4
           obtain rfl := Option.some.inj h4
           simpa using hok
         · simp only [hi, if_false]
           rw [List.getElem?_set_ne (by omega)] at h4
           refine (hr i' e h4).mono (fun x hx => setCell_other _ _ _ _ _ ?_) (fun x hx => setCell_other _ _ _ _ _ ?_) (fun _ h => h) (hr i' e h4).notS
           · rintro rfl; exact (hr j0 e0 he0).notS x hFb hx
           · rintro rfl; exact hi (hd _ _ x hx hFb)
       · intro i1 i2 x hx hy
         split at hx <;> split at hy
         · omega
         · rename_i a b
           rcases hsub x hx with h | h
           · exact absurd (hd _ _ x hy h) b
           · exact absurd ((hF x).2 ⟨i2, hy⟩) (hdis x h)
         · rename_i a b
           rcases hsub x hy with h | h
           · exact absurd (hd _ _ x hx h) a
           · exact absurd ((hF x).2 ⟨i1, hx⟩) (hdis x h)
         · exact hd _ _ x hx hy
       · intro i1 x hx
         split at hx
         · rename_i hij; subst hij; exact ⟨t, List.getElem?_set_self hji⟩
         · rename_i hij
           obtain ⟨e, h3⟩ := hval i1 x hx
           exact ⟨e, by rw [List.getElem?_set_ne (by omega)]; exact h3⟩
     · rintro x ⟨i1, hx⟩
       split at hx
       · rcases hsub x hx with h | h
         · exact .inl ((hF x).2 ⟨j0, h⟩)
         · exact .inr h
       · exact .inl ((hF x).2 ⟨i1, hx⟩)
     · simp only [ann_tup, List.map_set, hann]
       congr 2
       apply List.ext_getElem?
       intro n
       by_cases hn : n = j0
       · subst hn; rw [List.getElem?_set_self (by simpa using hji)]; simp [he0]
       · rw [List.getElem?_set_ne (by omega)]
   · cases hs
end Go.Abs
namespace Go.Abs
structure Gi where
 rt : List (Nat × List Nat)
def Gi.rtOf (G : Gi) (s : Nat) : List Nat := match G.rt.find? (·.1 == s) with
 | some x => x.2
 | none => []
def Gi.als (G : Gi) (d : Nat) : List Nat := (G.rt.filter (fun x => x.2.contains d)).map (·.1)
theorem Gi.mem_als {G : Gi} {s d : Nat} (h : d ∈ G.rtOf s) : s ∈ G.als d := by
 unfold Gi.rtOf at h
 split at h
 · rename_i x hx
   have h1 := List.find?_some hx
   have h2 := List.mem_of_find?_eq_some hx
   simp only [beq_iff_eq] at h1
   subst h1
   simp only [Gi.als, List.mem_map, List.mem_filter]
   exact ⟨x, ⟨h2, by simpa using h⟩, rfl⟩
 · cases h
mutual
def rin (L : List Nat) : AV → Bool
 | .al r _ => L.contains r
 | .adr r _ _ _ _ => L.contains r
 | .cl _ rs => rs.all fun x => L.contains x.1
 | .vb s _ _ => L.contains s
 | .agg cs => rinL L cs
 | .tup cs => rinL L cs
 | _ => true
def rinL (L : List Nat) : List AV → Bool
 | [] => true
 | a :: r => rin L a && rinL L r
end
theorem rinL_eq (L : List Nat) (l : List AV) : rinL L l = l.all (rin L) := by
 induction l with
 | nil => rfl
 | cons d r ih => simp [rinL, ih]
mutual
def nroot (d : Nat) : AV → Bool
 | .al r _ => r != d
 | .adr r _ _ _ _ => r != d
 | .cl _ rs => rs.all fun x => x.1 != d
 | .vb s _ _ => s != d
 | .agg cs => nrootL d cs
 | .tup cs => nrootL d cs
 | _ => true
def nrootL (d : Nat) : List AV → Bool
 | [] => true
 | a :: r => nroot d a && nrootL d r
end
theorem nrootL_eq (d : Nat) (l : List AV) : nrootL d l = l.all (nroot d) := by
 induction l with
 | nil => rfl
 | cons a r ih => simp [nrootL, ih]
mutual
def killr (d : Nat) : AV → AV
 | .al r p => if r = d then .dead else .al r p
 | .adr r p i j k => if r = d then .dead else .adr r p i j k
 | .cl f rs => if (rs.all fun x => x.1 != d) = true then .cl f rs else .dead
 | .vb s o us => if s = d then .dead else .vb s o us
 | .agg cs => .agg (killrL d cs)
 | .tup cs => .tup (killrL d cs)
 | a => a
def killrL (d : Nat) : List AV → List AV
 | [] => []
 | a :: r => killr d a :: killrL d r
end
theorem killrL_eq (d : Nat) (l : List AV) : killrL d l = l.map (killr d) := by
 induction l with
 | nil => rfl
 | cons a r ih => simp [killrL, ih]
@[simp] theorem rin_sc (L : List Nat) (v : Value) : rin L (.sc v) = true := by simp [rin]
@[simp] theorem rin_sl (L : List Nat) (x : Bool) (k : Nat) (rows : List (List AV)) : rin L (.sl x k rows) = true := by simp [rin]
@[simp] theorem rin_own (L : List Nat) (x : Bool) (k : Nat) (rows : List (List AV)) : rin L (.own x k rows) = true := by simp [rin]
@[simp] theorem rin_fp (L : List Nat) (cs : List AV) : rin L (.fp cs) = true := by simp [rin]
@[simp] theorem rin_dead (L : List Nat) : rin L .dead = true := by simp [rin]
@[simp] theorem rin_un (L : List Nat) : rin L .un = true := by simp [rin]
@[simp] theorem rin_al (L : List Nat) (r : Nat) (p : List Step) : rin L (.al r p) = L.contains r := by simp [rin]
@[simp] theorem rin_adr (L : List Nat) (r : Nat) (p : List Step) (i j k : Nat) : rin L (.adr r p i j k) = L.contains r := by simp [rin]
@[simp] theorem rin_agg (L : List Nat) (cs : List AV) : rin L (.agg cs) = cs.all (rin L) := by simp [rin, rinL_eq]
@[simp] theorem rin_tup (L : List Nat) (cs : List AV) : rin L (.tup cs) = cs.all (rin L) := by simp [rin, rinL_eq]
@[simp] theorem killr_sc (d : Nat) (v : Value) : killr d (.sc v) = .sc v := by simp [killr]
@[simp] theorem killr_sl (d : Nat) (x : Bool) (k : Nat) (rows : List (List AV)) : killr d (.sl x k rows) = .sl x k rows := by simp [killr]
@[simp] theorem killr_own (d : Nat) (x : Bool) (k : Nat) (rows : List (List AV)) : killr d (.own x k rows) = .own x k rows := by simp [killr]
@[simp] theorem killr_fp (d : Nat) (cs : List AV) : killr d (.fp cs) = .fp cs := by simp [killr]
@[simp] theorem killr_dead (d : Nat) : killr d .dead = .dead := by simp [killr]
@[simp] theorem killr_un (d : Nat) : killr d .un = .un := by simp [killr]
@[simp] theorem killr_al (d r : Nat) (p : List Step) : killr d (.al r p) = if r = d then .dead else .al r p := by simp [killr]
@[simp] theorem killr_adr (d r : Nat) (p : List Step) (i j k : Nat) : killr d (.adr r p i j k) = if r = d then .dead else .adr r p i j k := by simp [killr]
@[simp] theorem killr_agg (d : Nat) (cs : List AV) : killr d (.agg cs) = .agg (cs.map (killr d)) := by simp [killr, killrL_eq]
@[simp] theorem killr_tup (d : Nat) (cs : List AV) : killr d (.tup cs) = .tup (cs.map (killr d)) := by simp [killr, killrL_eq]
@[simp] theorem rin_fcl (L : List Nat) (f : Nat) (css : List (List AV)) : rin L (.fcl f css) = true := by simp [rin]
@[simp] theorem killr_fcl (d f : Nat) (css : List (List AV)) : killr d (.fcl f css) = .fcl f css := by simp [killr]
@[simp] theorem rin_vb (L : List Nat) (s o : Nat) (us : List Value) : rin L (.vb s o us) = L.contains s := by simp [rin]
@[simp] theorem killr_vb (d s o : Nat) (us : List Value) : killr d (.vb s o us) = if s = d then .dead else .vb s o us := by simp [killr]
@[simp] theorem nroot_vb (d s o : Nat) (us : List Value) : nroot d (.vb s o us) = (s != d) := by simp [nroot]
@[simp] theorem rin_cl (L : List Nat) (f : Nat) (rs : List (Nat × List Step)) : rin L (.cl f rs) = rs.all fun x => L.contains x.1 := by simp [rin]
@[simp] theorem killr_cl (d f : Nat) (rs : List (Nat × List Step)) : killr d (.cl f rs) = if (rs.all fun x => x.1 != d) = true then .cl f rs else .dead := by simp [killr]
@[simp] theorem nroot_cl (d f : Nat) (rs : List (Nat × List Step)) : nroot d (.cl f rs) = rs.all fun x => x.1 != d := by simp [nroot]
@[simp] theorem nroot_agg (d : Nat) (cs : List AV) : nroot d (.agg cs) = cs.all (nroot d) := by simp [nroot, nrootL_eq]
@[simp] theorem nroot_tup (d : Nat) (cs : List AV) : nroot d (.tup cs) = cs.all (nroot d) := by simp [nroot, nrootL_eq]
@[simp] theorem nroot_al (d r : Nat) (p : List Step) : nroot d (.al r p) = (r != d) := by simp [nroot]
@[simp] theorem nroot_adr (d r : Nat) (p : List Step) (i j k : Nat) : nroot d (.adr r p i j k) = (r != d) := by simp [nroot]
mutual
def killD (d : Nat) : DV → DV
 | .lf a v => .lf (killr d a) v
 | .own h b k rows => .own h b k rows
 | .agg cs => .agg (killDL d cs)
 | .tup cs => .tup (killDL d cs)
def killDL (d : Nat) : List DV → List DV
 | [] => []
 | a :: r => killD d a :: killDL d r
end
theorem killDL_eq (d : Nat) (l : List DV) : killDL d l = l.map (killD d) := by
 induction l with
 | nil => rfl
 | cons a r ih => simp [killDL, ih]
@[simp] theorem killD_lf (d : Nat) (a : AV) (v : Value) : killD d (.lf a v) = .lf (killr d a) v := by simp [killD]
@[simp] theorem killD_own (d : Nat) (h : Value) (b : Bool) (k : Nat) (rows : List (List DV)) : killD d (.own h b k rows) = .own h b k rows := by simp [killD]
@[simp] theorem killD_agg (d : Nat) (cs : List DV) : killD d (.agg cs) = .agg (cs.map (killD d)) := by simp [killD, killDL_eq]
@[simp] theorem killD_tup (d : Nat) (cs : List DV) : killD d (.tup cs) = .tup (cs.map (killD d)) := by simp [killD, killDL_eq]
variable {w w' : World} {S S' : Nat → Prop} {x : DV} {F F' : Nat → Prop}
theorem killD_facts (d : Nat) (h : Ok w S x F) : (killD d x).er = killr d x.er ∧ (killD d x).ann = x.ann ∧ Ok w S (killD d x) F ∧ nroot d (killD d x).er = true := by
 induction h with
 | lf a v F ha hF =>
  refine ⟨by simp, by simp, ?_, ?_⟩
  · rw [killD_lf]
    refine .lf _ v F ?_ hF
    cases a with
    | al r p => rw [killr_al]; by_cases h : r = d <;> simp [h, LeafOK]
    | adr r p i j k => rw [killr_adr]; by_cases h : r = d <;> simp [h, LeafOK]
    | cl f rs => rw [killr_cl]; split <;> trivial
    | vb s o us => rw [killr_vb]; split <;> first | trivial | exact ha
    | agg cs => exact ha.elim
    | tup cs => exact ha.elim
    | own => exact ha.elim
    | _ => simpa using ha
  · have := ha.leafy
    cases a with
    | al r p => by_cases h : r = d <;> simp [h, nroot]
    | adr r p i j k => by_cases h : r = d <;> simp [h, nroot]
    | vb s o us => by_cases h : s = d <;> simp [h, nroot]
    | cl f rs =>
     simp only [killD_lf, er_lf, killr_cl]
     split
     · rename_i h; simpa using h
     · simp [nroot]
    | agg cs => exact ha.elim
    | tup cs => exact ha.elim
    | own => exact ha.elim
    | _ => simp [nroot]
 | nil k F hF => exact ⟨by simp, by simp, by rw [killD_own]; exact .nil k F hF, by simp [nroot]⟩
 | own bx k rows b c arr E Fs F hb hk hcap hSb hv hr hd hval hbF hF ih =>
  exact ⟨by simp, by simp, by rw [killD_own]; exact .own bx k rows b c arr E Fs F hb hk hcap hSb hv hr hd hval hbF hF, by simp [nroot]⟩
 | agg cs Fs F hr hd hval hF ih =>
  have key : ∀ e ∈ cs, (killD d e).er = killr d e.er ∧ (killD d e).ann = e.ann ∧ nroot d (killD d e).er = true := by
   intro e he
   obtain ⟨i, hi⟩ := List.getElem?_of_mem he
   exact ⟨(ih i e hi).1, (ih i e hi).2.1, (ih i e hi).2.2.2⟩
  refine ⟨?_, ?_, ?_, ?_⟩
  · simp only [killD_agg, er_agg, killr_agg, List.map_map, AV.agg.injEq]
    exact List.map_congr_left fun e he => (key e he).1
  · simp only [killD_agg, ann_agg, List.map_map]
    congr 2
    exact List.map_congr_left fun e he => (key e he).2.1
  · rw [killD_agg]
    refine .agg _ Fs F ?_ hd ?_ hF
    · intro i e h1
      simp only [List.getElem?_map, Option.map_eq_some_iff] at h1
      obtain ⟨e0, h0, rfl⟩ := h1
      exact (ih i e0 h0).2.2.1
    · intro i x hx
      obtain ⟨e, h1⟩ := hval i x hx
      exact ⟨killD d e, by simp [h1]⟩
  · simp only [killD_agg, er_agg, nroot_agg, List.map_map, List.all_map, List.all_eq_true]
    exact fun e he => (key e he).2.2
 | tup cs Fs F hr hd hval hF ih =>
  have key : ∀ e ∈ cs, (killD d e).er = killr d e.er ∧ (killD d e).ann = e.ann ∧ nroot d (killD d e).er = true := by
   intro e he
   obtain ⟨i, hi⟩ := List.getElem?_of_mem he
   exact ⟨(ih i e hi).1, (ih i e hi).2.1, (ih i e hi).2.2.2⟩
  refine ⟨?_, ?_, ?_, ?_⟩
  · simp only [killD_tup, er_tup, killr_tup, List.map_map, AV.tup.injEq]
    exact List.map_congr_left fun e he => (key e he).1
  · simp only [killD_tup, ann_tup, List.map_map]
    congr 2
    exact List.map_congr_left fun e he => (key e he).2.1
  · rw [killD_tup]
    refine .tup _ Fs F ?_ hd ?_ hF
    · intro i e h1
      simp only [List.getElem?_map, Option.map_eq_some_iff] at h1
      obtain ⟨e0, h0, rfl⟩ := h1
      exact (ih i e0 h0).2.2.1
    · intro i x hx
      obtain ⟨e, h1⟩ := hval i x hx
      exact ⟨killD d e, by simp [h1]⟩
  · simp only [killD_tup, er_tup, nroot_tup, List.map_map, List.all_map, List.all_eq_true]
    exact fun e he => (key e he).2.2
def AlLeaf (δ : Nat → DV) : AV → Value → Prop
 | .al r p, v => ∃ bx k rows, subD (δ r) p = some (.own v bx k rows)
 | .adr r p i j k, v => ∃ h bx rows b, subD (δ r) p = some (.own h bx k rows) ∧ hblk h = some b ∧ v = .pointer (some ⟨b, i * k + j, none⟩)
 | .vb s _ us, _ => (δ s).ann = .agg us.toArray
 | .cl f rs, v => ∃ vs : List Value, v = .func (.func f) #[] vs.toArray ∧ vs.length = rs.length ∧ ∀ (i : Nat) r p u, rs[i]? = some (r, p) → vs[i]? = some u → ∃ bx k rows, subD (δ r) p = some (.own u bx k rows)
 | _, _ => True
inductive AlOK (δ : Nat → DV) : DV → Prop
 | lf (a v) (h : AlLeaf δ a v) : AlOK δ (.lf a v)
 | own (h b k rows) : AlOK δ (.own h b k rows)
 | agg (cs) (hr : ∀ (i : Nat) d, cs[i]? = some d → AlOK δ d) : AlOK δ (.agg cs)
 | tup (cs) (hr : ∀ (i : Nat) d, cs[i]? = some d → AlOK δ d) : AlOK δ (.tup cs)
theorem AlOK.mono {δ δ' : Nat → DV} {L : List Nat} (h : AlOK δ x) (hr : rin L x.er = true)
 (hk : ∀ r ∈ L, ∀ p v bx k rows, subD (δ r) p = some (.own v bx k rows) → ∃ rows', subD (δ' r) p = some (.own v bx k rows')) (hk2 : ∀ r ∈ L, (δ' r).ann = (δ r).ann) : AlOK δ' x := by
 induction h with
 | lf a v h =>
  refine .lf a v ?_
  cases a with
  | al r p =>
   obtain ⟨bx, k, rows, h⟩ := h
   obtain ⟨rows', h'⟩ := hk r (by simpa using hr) p v bx k rows h
   exact ⟨bx, k, rows', h'⟩
  | adr r p i j k =>
   obtain ⟨hh, bx, rows, b, h, hb, rfl⟩ := h
   obtain ⟨rows', h'⟩ := hk r (by simpa using hr) p hh bx k rows h
   exact ⟨hh, bx, rows', b, h', hb, rfl⟩
  | vb s o us => exact (hk2 s (by simpa using hr)).trans h
  | cl f rs =>
   obtain ⟨vs, h1, h2, h3⟩ := h
   refine ⟨vs, h1, h2, fun i r p u hi hu => ?_⟩
   obtain ⟨bx, k, rows, hs⟩ := h3 i r p u hi hu
   simp only [er_lf, rin_cl, List.all_eq_true] at hr
   obtain ⟨rows', h'⟩ := hk r (by simpa using hr _ (List.mem_of_getElem? hi)) p u bx k rows hs
   exact ⟨bx, k, rows', h'⟩
  | _ => trivial
 | own => exact .own _ _ _ _
 | agg cs _ ih =>
  refine .agg cs fun i d hd => ih i d hd ?_
  simp only [er_agg, rin_agg, List.all_map, List.all_eq_true] at hr
  exact hr d (List.mem_of_getElem? hd)
 | tup cs _ ih =>
  refine .tup cs fun i d hd => ih i d hd ?_
  simp only [er_tup, rin_tup, List.all_map, List.all_eq_true] at hr
  exact hr d (List.mem_of_getElem? hd)
theorem rin_nroot {L : List Nat} {d : Nat} {a : AV} : rin L a = true → d ∉ L → nroot d a = true := by
 refine AV.rec (motive_1 := fun a => rin L a = true → d ∉ L → nroot d a = true) (motive_2 := fun _ => True) (motive_3 := fun l => rinL L l = true → d ∉ L → nrootL d l = true)
  ?_ ?_ ?_ ?_ ?_ ?_ ?_ ?_ ?_ ?_ ?_ ?_ ?_ ?_ ?_ ?_ ?_ a
 all_goals intros
 all_goals first | trivial | simp [nroot]; done | skip
 all_goals simp_all [rin, rinL, nrootL, nroot]
 all_goals first
  | (rintro rfl; simp_all; done)
  | (rename_i h1 h2; intro a b hb e; subst e; exact h2 (h1 _ b hb))
theorem killr_rin {L : List Nat} {d : Nat} {a : AV} : rin L a = true → rin L (killr d a) = true := by
 refine AV.rec (motive_1 := fun a => rin L a = true → rin L (killr d a) = true) (motive_2 := fun _ => True) (motive_3 := fun l => rinL L l = true → rinL L (killrL d l) = true)
  ?_ ?_ ?_ ?_ ?_ ?_ ?_ ?_ ?_ ?_ ?_ ?_ ?_ ?_ ?_ ?_ ?_ a
 all_goals intros
 all_goals first | trivial | (simp_all [rin, rinL, killr, killrL]; done) | skip
 all_goals first
  | (simp only [killr]; split <;> simp_all [rin]; done)
  | (simp only [killr]; split <;> first | assumption | simp [rin])
  | (rename_i ih h; simp only [killr, rin] at h ⊢; exact ih h)
end Go.Abs
namespace Go.Abs
variable {w w' : World} {S S' : Nat → Prop} {d : DV} {F F' : Nat → Prop}
theorem Ok.replace {n : DV} (p : List Step) (h : Ok w S d F) (hs : Abs.subD d p = some n) :
 ∃ Fo, Ok w S n Fo ∧ (∀ x, Fo x → F x) ∧ ∀ (w' : World) (S' : Nat → Prop) (new : DV) (Fn : Nat → Prop), new.ann = n.ann → Ok w' S' new Fn →
  (∀ x, Fn x → F x → Fo x) → (∀ b, S b → w'.heap[b]? = w.heap[b]?) → (∀ b, F b → ¬ Fo b → w'.heap[b]? = w.heap[b]?) → (∀ b, S b → S' b) → (∀ b, F b → ¬ Fo b → ¬ S' b) →
  ∃ t F', putD d p new = some t ∧ Ok w' S' t F' ∧ (∀ x, F' x ↔ (F x ∧ ¬ Fo x) ∨ Fn x) ∧ t.ann = d.ann := by
 induction p generalizing d F with
 | nil =>
  simp only [Abs.subD, Option.some.injEq] at hs
  subst hs
  refine ⟨F, h, fun _ h => h, fun w' S' new Fn ha hn _ _ _ _ _ => ⟨new, Fn, rfl, hn, fun x => ⟨.inr, ?_⟩, ha⟩⟩
  rintro (⟨h1, h2⟩ | h)
  · exact absurd h1 h2
  · exact h
 | cons s p ih =>
  obtain ⟨i0, j0, k0⟩ := s
  cases h with
  | lf a v _ ha hF => simp [Abs.subD] at hs
  | nil k _ hF => simp [Abs.subD] at hs
  | own bx0 k1 rows0 b0 c arr E Fs _ hbb hk hcap hSb hv hr hd hval hbF hF =>
   simp only [Abs.subD] at hs
   split at hs
   · split at hs
     · rename_i row0 hrow0 _ e0 he0
       obtain ⟨Fo, ho, hsub, hrep⟩ := ih (hr i0 j0 row0 e0 hrow0 he0) hs
       have hFo : ∀ x, Fo x → F x := fun x hx => (hF x).2 (.inr ⟨i0, j0, hsub x hx⟩)
       refine ⟨Fo, ho, hFo, ?_⟩
       intro w' S' new Fn ha hn hnF hS hf hSS hfS
       have hlt := (List.getElem?_eq_some_iff.1 hrow0).1
       have hji := (List.getElem?_eq_some_iff.1 he0).1
       obtain ⟨t, F0, ht, hok, hiff, hann⟩ := hrep w' S' new Fn ha hn (fun x hx hy => hnF x hx ((hF x).2 (.inr ⟨i0, j0, hy⟩))) hS
        (fun b hb => hf b ((hF b).2 (.inr ⟨i0, j0, hb⟩))) hSS (fun b hb => hfS b ((hF b).2 (.inr ⟨i0, j0, hb⟩)))
       have hb0 : ¬ Fo b0 := fun h => hbF _ _ (hsub _ h)
       have hFb0 : F b0 := (hF b0).2 (.inl rfl)
       have hother : ∀ i j, ¬ (i = i0 ∧ j = j0) → ∀ x, Fs i j x → ¬ Fo x := fun i j hij x hx ho' => hij (hd _ _ _ _ x hx (hsub x ho'))
       refine ⟨.own (hdr bx0 b0 rows0.length c) bx0 k1 (rows0.set i0 (row0.set j0 t)), fun x => x = b0 ∨ ∃ i' j', (if i' = i0 ∧ j' = j0 then F0 else Fs i' j') x, ?_, ?_, ?_, by simp⟩
       · simp [putD, hrow0, he0, ht]
       · rw [show (hdr bx0 b0 rows0.length c) = hdr bx0 b0 (rows0.set i0 (row0.set j0 t)).length c from by simp]
         refine Ok.own bx0 k1 _ b0 c arr E (fun i' j' => if i' = i0 ∧ j' = j0 then F0 else Fs i' j') _ (by rw [hf b0 hFb0 hb0]; exact hbb) ?_ (by simpa using hcap) (hfS b0 hFb0 hb0) ?_ ?_ ?_ ?_ ?_ (fun x => Iff.rfl)
         · intro r hr'
           rcases List.mem_or_eq_of_mem_set hr' with h | rfl
           · exact hk r h
           · simp [hk row0 (List.mem_of_getElem? hrow0)]
         · intro i' j' r e h3 h4
           by_cases hi : i' = i0
           · subst hi
             rw [List.getElem?_set_self hlt] at h3
             obtain rfl := Option.some.inj h3
             by_cases hj : j' = j0
             · subst hj
               rw [List.getElem?_set_self hji] at h4
               obtain rfl := Option.some.inj h4
               rw [hann]
               exact hv i' j' row0 e0 hrow0 he0
             · rw [List.getElem?_set_ne (by omega)] at h4
               exact hv i' j' row0 e hrow0 h4
           · rw [List.getElem?_set_ne (by omega)] at h3
             exact hv i' j' r e h3 h4
         · intro i' j' r e h3 h4
           by_cases hij : i' = i0 ∧ j' = j0
           · obtain ⟨rfl, rfl⟩ := hij
             rw [List.getElem?_set_self hlt] at h3
             obtain rfl := Option.some.inj h3
             rw [List.getElem?_set_self hji] at h4
             obtain rfl := Option.some.inj h4
             simpa using hok
           · simp only [hij, if_false]
             have hold : Ok w S e (Fs i' j') := by
              by_cases hi : i' = i0
              · subst hi
                have hj : j' ≠ j0 := fun e => hij ⟨rfl, e⟩
                rw [List.getElem?_set_self hlt] at h3
                obtain rfl := Option.some.inj h3
                rw [List.getElem?_set_ne (by omega)] at h4
                exact hr i' j' row0 e hrow0 h4
              · rw [List.getElem?_set_ne (by omega)] at h3
                exact hr i' j' r e h3 h4
             have hin : ∀ x, Fs i' j' x → F x ∧ ¬ Fo x := fun x hx => ⟨(hF x).2 (.inr ⟨i', j', hx⟩), hother i' j' hij x hx⟩
             exact hold.mono hS (fun x hx => hf x (hin x hx).1 (hin x hx).2) hSS (fun x hx => hfS x (hin x hx).1 (hin x hx).2)
         · intro i1 j1 i2 j2 x hx hy
           have aux : ∀ i j, ¬ (i = i0 ∧ j = j0) → Fs i j x → ¬ F0 x := by
            intro i j hij h1 h2
            rcases (hiff x).1 h2 with ⟨h3, h4⟩ | h3
            · exact hij (hd _ _ _ _ x h1 h3)
            · exact hother i j hij x h1 (hnF x h3 ((hF x).2 (.inr ⟨i, j, h1⟩)))
           split at hx <;> split at hy
           · rename_i a b; omega
           · rename_i a b; exact absurd hx (aux _ _ b hy)
           · rename_i a b; exact absurd hy (aux _ _ a hx)
           · exact hd _ _ _ _ x hx hy
         · intro i1 j1 x hx
           split at hx
           · rename_i hij
             obtain ⟨rfl, rfl⟩ := hij
             exact ⟨_, t, List.getElem?_set_self hlt, List.getElem?_set_self hji⟩
           · obtain ⟨r, e, h3, h4⟩ := hval i1 j1 x hx
             by_cases hi : i1 = i0
             · subst hi
               rename_i hne
               have hj : j1 ≠ j0 := fun e => hne ⟨rfl, e⟩
               obtain rfl : row0 = r := by rw [hrow0] at h3; exact Option.some.inj h3
               exact ⟨_, e, List.getElem?_set_self hlt, by rw [List.getElem?_set_ne (by omega)]; exact h4⟩
             · exact ⟨r, e, by rw [List.getElem?_set_ne (by omega)]; exact h3, h4⟩
         · intro i1 j1 hx
           split at hx
           · rcases (hiff b0).1 hx with h | h
             · exact hbF _ _ h.1
             · exact hb0 (hnF b0 h hFb0)
           · exact hbF _ _ hx
       · intro x
         constructor
         · rintro (rfl | ⟨i1, j1, hx⟩)
           · exact .inl ⟨hFb0, hb0⟩
           · split at hx
             · rcases (hiff x).1 hx with h | h
               · exact .inl ⟨(hF x).2 (.inr ⟨i0, j0, h.1⟩), h.2⟩
               · exact .inr h
             · rename_i hij
               exact .inl ⟨(hF x).2 (.inr ⟨i1, j1, hx⟩), hother _ _ hij x hx⟩
         · rintro (⟨h1, h2⟩ | h)
           · rcases (hF x).1 h1 with rfl | ⟨i1, j1, h3⟩
             · exact .inl rfl
             · by_cases hij : i1 = i0 ∧ j1 = j0
               · obtain ⟨rfl, rfl⟩ := hij
                 exact .inr ⟨i1, j1, by simp; exact (hiff x).2 (.inl ⟨h3, h2⟩)⟩
               · exact .inr ⟨i1, j1, by simp only [hij, if_false]; exact h3⟩
           · exact .inr ⟨i0, j0, by simp; exact (hiff x).2 (.inr h)⟩
     · cases hs
   · cases hs
  | agg cs Fs _ hr hd hval hF =>
   simp only [Abs.subD] at hs
   split at hs
   · rename_i e0 he0
     obtain ⟨Fo, ho, hsub, hrep⟩ := ih (hr j0 e0 he0) hs
     have hFo : ∀ x, Fo x → F x := fun x hx => (hF x).2 ⟨j0, hsub x hx⟩
     refine ⟨Fo, ho, hFo, ?_⟩
     intro w' S' new Fn ha hn hnF hS hf hSS hfS
     have hji := (List.getElem?_eq_some_iff.1 he0).1
     obtain ⟨t, F0, ht, hok, hiff, hann⟩ := hrep w' S' new Fn ha hn (fun x hx hy => hnF x hx ((hF x).2 ⟨j0, hy⟩)) hS
      (fun b hb => hf b ((hF b).2 ⟨j0, hb⟩)) hSS (fun b hb => hfS b ((hF b).2 ⟨j0, hb⟩))
     have hother : ∀ i, ¬ i = j0 → ∀ x, Fs i x → ¬ Fo x := fun i hij x hx ho' => hij (hd _ _ x hx (hsub x ho'))
     refine ⟨.agg (cs.set j0 t), fun x => ∃ i', (if i' = j0 then F0 else Fs i') x, by simp [putD, he0, ht], ?_, ?_, ?_⟩
     · refine Ok.agg _ (fun i' => if i' = j0 then F0 else Fs i') _ ?_ ?_ ?_ (fun x => Iff.rfl)
       · intro i' e h4
         by_cases hi : i' = j0
         · subst hi
           rw [List.getElem?_set_self hji] at h4
           obtain rfl := Option.some.inj h4
           simpa using hok
         · simp only [hi, if_false]
           rw [List.getElem?_set_ne (by omega)] at h4
           have hin : ∀ x, Fs i' x → F x ∧ ¬ Fo x := fun x hx => ⟨(hF x).2 ⟨i', hx⟩, hother i' hi x hx⟩
           exact (hr i' e h4).mono hS (fun x hx => hf x (hin x hx).1 (hin x hx).2) hSS (fun x hx => hfS x (hin x hx).1 (hin x hx).2)
       · intro i1 i2 x hx hy
         have aux : ∀ i, ¬ i = j0 → Fs i x → ¬ F0 x := by
          intro i hij h1 h2
          rcases (hiff x).1 h2 with ⟨h3, h4⟩ | h3
          · exact hij (hd _ _ x h1 h3)
          · exact hother i hij x h1 (hnF x h3 ((hF x).2 ⟨i, h1⟩))
         split at hx <;> split at hy
         · omega
         · rename_i a b; exact absurd hx (aux _ b hy)
         · rename_i a b; exact absurd hy (aux _ a hx)
         · exact hd _ _ x hx hy
       · intro i1 x hx
         split at hx
         · rename_i hij; subst hij; exact ⟨t, List.getElem?_set_self hji⟩
         · rename_i hij
           obtain ⟨e, h3⟩ := hval i1 x hx
           exact ⟨e, by rw [List.getElem?_set_ne (by omega)]; exact h3⟩
     · intro x
       constructor
       · rintro ⟨i1, hx⟩
         split at hx
         · rcases (hiff x).1 hx with h | h
           · exact .inl ⟨(hF x).2 ⟨j0, h.1⟩, h.2⟩
           · exact .inr h
         · rename_i hij
           exact .inl ⟨(hF x).2 ⟨i1, hx⟩, hother _ hij x hx⟩
       · rintro (⟨h1, h2⟩ | h)
         · obtain ⟨i1, h3⟩ := (hF x).1 h1
           by_cases hij : i1 = j0
           · subst hij
             exact ⟨i1, by simp; exact (hiff x).2 (.inl ⟨h3, h2⟩)⟩
           · exact ⟨i1, by simp only [hij, if_false]; exact h3⟩
         · exact ⟨j0, by simp; exact (hiff x).2 (.inr h)⟩
     · simp only [ann_agg, List.map_set, hann]
       congr 2
       apply List.ext_getElem?
       intro n
       by_cases hn : n = j0
       · subst hn; rw [List.getElem?_set_self (by simpa using hji)]; simp [he0]
       · rw [List.getElem?_set_ne (by omega)]
   · cases hs
  | tup cs Fs _ hr hd hval hF =>
   simp only [Abs.subD] at hs
   split at hs
   · rename_i e0 he0
     obtain ⟨Fo, ho, hsub, hrep⟩ := ih (hr j0 e0 he0) hs
     have hFo : ∀ x, Fo x → F x := fun x hx => (hF x).2 ⟨j0, hsub x hx⟩
     refine ⟨Fo, ho, hFo, ?_⟩
     intro w' S' new Fn ha hn hnF hS hf hSS hfS
     have hji := (List.getElem?_eq_some_iff.1 he0).1
     obtain ⟨t, F0, ht, hok, hiff, hann⟩ := hrep w' S' new Fn ha hn (fun x hx hy => hnF x hx ((hF x).2 ⟨j0, hy⟩)) hS
      (fun b hb => hf b ((hF b).2 ⟨j0, hb⟩)) hSS (fun b hb => hfS b ((hF b).2 ⟨j0, hb⟩))
     have hother : ∀ i, ¬ i = j0 → ∀ x, Fs i x → ¬ Fo x := fun i hij x hx ho' => hij (hd _ _ x hx (hsub x ho'))
     refine ⟨.tup (cs.set j0 t), fun x => ∃ i', (if i' = j0 then F0 else Fs i') x, by simp [putD, he0, ht], ?_, ?_, ?_⟩
     · refine Ok.tup _ (fun i' => if i' = j0 then F0 else Fs i') _ ?_ ?_ ?_ (fun x => Iff.rfl)
       · intro i' e h4
         by_cases hi : i' = j0
         · subst hi
           rw [List.getElem?_set_self hji] at h4
           obtain rfl := Option.some.inj h4
           simpa using hok
         · simp only [hi, if_false]
           rw [List.getElem?_set_ne (by omega)] at h4
           have hin : ∀ x, Fs i' x → F x ∧ ¬ Fo x := fun x hx => ⟨(hF x).2 ⟨i', hx⟩, hother i' hi x hx⟩
           exact (hr i' e h4).mono hS (fun x hx => hf x (hin x hx).1 (hin x hx).2) hSS (fun x hx => hfS x (hin x hx).1 (hin x hx).2)
       · intro i1 i2 x hx hy
         have aux : ∀ i, ¬ i = j0 → Fs i x → ¬ F0 x := by
          intro i hij h1 h2
          rcases (hiff x).1 h2 with ⟨h3, h4⟩ | h3
          · exact hij (hd _ _ x h1 h3)
          · exact hother i hij x h1 (hnF x h3 ((hF x).2 ⟨i, h1⟩))
         split at hx <;> split at hy
         · omega
         · rename_i a b; exact absurd hx (aux _ b hy)
         · rename_i a b; exact absurd hy (aux _ a hx)
         · exact hd _ _ x hx hy
       · intro i1 x hx
         split at hx
         · rename_i hij; subst hij; exact ⟨t, List.getElem?_set_self hji⟩
         · rename_i hij
           obtain ⟨e, h3⟩ := hval i1 x hx
           exact ⟨e, by rw [List.getElem?_set_ne (by omega)]; exact h3⟩
     · intro x
       constructor
       · rintro ⟨i1, hx⟩
         split at hx
         · rcases (hiff x).1 hx with h | h
           · exact .inl ⟨(hF x).2 ⟨j0, h.1⟩, h.2⟩
           · exact .inr h
         · rename_i hij
           exact .inl ⟨(hF x).2 ⟨i1, hx⟩, hother _ hij x hx⟩
       · rintro (⟨h1, h2⟩ | h)
         · obtain ⟨i1, h3⟩ := (hF x).1 h1
           by_cases hij : i1 = j0
           · subst hij
             exact ⟨i1, by simp; exact (hiff x).2 (.inl ⟨h3, h2⟩)⟩
           · exact ⟨i1, by simp only [hij, if_false]; exact h3⟩
         · exact ⟨j0, by simp; exact (hiff x).2 (.inr h)⟩
     · simp only [ann_tup, List.map_set, hann]
       congr 2
       apply List.ext_getElem?
       intro n
       by_cases hn : n = j0
       · subst hn; rw [List.getElem?_set_self (by simpa using hji)]; simp [he0]
       · rw [List.getElem?_set_ne (by omega)]
   · cases hs
theorem subD_putD_own {t t' new old : DV} (q' : List Step) (hp : putD t q' new = some t') (ho : Abs.subD t q' = some old) (hl : ∀ h b k rows, old ≠ .own h b k rows) (hl2 : ∀ cs, old ≠ .agg cs) (hl3 : ∀ cs, old ≠ .tup cs)
 (q : List Step) (v : Value) (bx : Bool) (k : Nat) (rows : List (List DV)) (hq : Abs.subD t q = some (.own v bx k rows)) : ∃ rows', Abs.subD t' q = some (.own v bx k rows') := by
 induction q' generalizing t t' q with
 | nil =>
  simp only [Abs.subD, Option.some.injEq] at ho
  subst ho
  cases q with
  | nil => simp only [Abs.subD, Option.some.injEq] at hq; exact absurd hq (hl _ _ _ _)
  | cons s q =>
   cases t with
   | lf a v => simp [Abs.subD] at hq
   | own h b k rows => exact absurd rfl (hl _ _ _ _)
   | agg cs => exact absurd rfl (hl2 _)
   | tup cs => exact absurd rfl (hl3 _)
 | cons s q' ih =>
  obtain ⟨i, j, k0⟩ := s
  cases t with
  | lf a v => simp [putD] at hp
  | own h b k1 rows1 =>
   simp only [putD] at hp
   simp only [Abs.subD] at ho
   cases hi : rows1[i]? with
   | none => simp [hi] at hp
   | some row =>
    simp only [hi] at hp ho
    cases hj : row[j]? with
    | none => simp [hj] at hp
    | some c =>
     simp only [hj] at hp ho
     cases hc : putD c q' new with
     | none => simp [hc] at hp
     | some c' =>
      simp only [hc, Option.some.injEq] at hp
      subst hp
      have hlt := (List.getElem?_eq_some_iff.1 hi).1
      have hji := (List.getElem?_eq_some_iff.1 hj).1
      cases q with
      | nil =>
       simp only [Abs.subD, Option.some.injEq, DV.own.injEq] at hq
       obtain ⟨rfl, rfl, rfl, _⟩ := hq
       exact ⟨_, rfl⟩
      | cons s2 q =>
       obtain ⟨i2, j2, k2⟩ := s2
       simp only [Abs.subD] at hq ⊢
       by_cases h1 : i2 = i
       · subst h1
         simp only [List.getElem?_set_self hlt]
         simp only [hi] at hq
         by_cases h2 : j2 = j
         · subst h2
           simp only [List.getElem?_set_self hji]
           simp only [hj] at hq
           exact ih hc ho q hq
         · rw [List.getElem?_set_ne (by omega)]
           exact ⟨rows, hq⟩
       · rw [List.getElem?_set_ne (by omega)]
         exact ⟨rows, hq⟩
  | agg cs =>
   simp only [putD] at hp
   simp only [Abs.subD] at ho
   cases hj : cs[j]? with
   | none => simp [hj] at hp
   | some c =>
    simp only [hj] at hp ho
    cases hc : putD c q' new with
    | none => simp [hc] at hp
    | some c' =>
     simp only [hc, Option.some.injEq] at hp
     subst hp
     have hji := (List.getElem?_eq_some_iff.1 hj).1
     cases q with
     | nil => simp [Abs.subD] at hq
     | cons s2 q =>
      obtain ⟨i2, j2, k2⟩ := s2
      simp only [Abs.subD] at hq ⊢
      by_cases h2 : j2 = j
      · subst h2
        simp only [List.getElem?_set_self hji]
        simp only [hj] at hq
        exact ih hc ho q hq
      · rw [List.getElem?_set_ne (by omega)]
        exact ⟨rows, hq⟩
  | tup cs =>
   simp only [putD] at hp
   simp only [Abs.subD] at ho
   cases hj : cs[j]? with
   | none => simp [hj] at hp
   | some c =>
    simp only [hj] at hp ho
    cases hc : putD c q' new with
    | none => simp [hc] at hp
    | some c' =>
     simp only [hc, Option.some.injEq] at hp
     subst hp
     have hji := (List.getElem?_eq_some_iff.1 hj).1
     cases q with
     | nil => simp [Abs.subD] at hq
     | cons s2 q =>
      obtain ⟨i2, j2, k2⟩ := s2
      simp only [Abs.subD] at hq ⊢
      by_cases h2 : j2 = j
      · subst h2
        simp only [List.getElem?_set_self hji]
        simp only [hj] at hq
        exact ih hc ho q hq
      · rw [List.getElem?_set_ne (by omega)]
        exact ⟨rows, hq⟩
end Go.Abs
namespace Go.Abs
variable {w w' : World} {S S' : Nat → Prop} {F F' : Nat → Prop}
structure St (G : Gi) (w : World) (S : Nat → Prop) (δ : Nat → DV) (F : Nat → Nat → Prop) : Prop where
 ok : ∀ s, Ok w S (δ s) (F s)
 dis : ∀ s t x, F s x → F t x → s = t
 al : ∀ s, AlOK δ (δ s)
 rt : ∀ s, rin (G.rtOf s) (δ s).er = true
 self : ∀ s, s ∉ G.rtOf s
mutual
def killn (n d : Nat) : AV → AV
 | .al r p => if r = d ∧ n ≤ p.length then .dead else .al r p
 | .adr r p i j k => if r = d ∧ n ≤ p.length then .dead else .adr r p i j k
 | .cl f rs => if (rs.all fun x => x.1 != d) = true then .cl f rs else .dead
 | .vb s o us => if s = d then .dead else .vb s o us
 | .agg cs => .agg (killnL n d cs)
 | .tup cs => .tup (killnL n d cs)
 | a => a
def killnL (n d : Nat) : List AV → List AV
 | [] => []
 | a :: r => killn n d a :: killnL n d r
end
theorem killnL_eq (n d : Nat) (l : List AV) : killnL n d l = l.map (killn n d) := by
 induction l with
 | nil => rfl
 | cons a r ih => simp [killnL, ih]
mutual
def killnD (n d : Nat) : DV → DV
 | .lf a v => .lf (killn n d a) v
 | .own h b k rows => .own h b k rows
 | .agg cs => .agg (killnDL n d cs)
 | .tup cs => .tup (killnDL n d cs)
def killnDL (n d : Nat) : List DV → List DV
 | [] => []
 | a :: r => killnD n d a :: killnDL n d r
end
theorem killnDL_eq (n d : Nat) (l : List DV) : killnDL n d l = l.map (killnD n d) := by
 induction l with
 | nil => rfl
 | cons a r ih => simp [killnDL, ih]
def killnS (G : Gi) (n d : Nat) (σ : Sg) : Sg := fun s => if s ∈ G.als d then killn n d (σ s) else σ s
def killnδ (G : Gi) (n d : Nat) (δ : Nat → DV) : Nat → DV := fun s => if s ∈ G.als d then killnD n d (δ s) else δ s
def killS (G : Gi) (d : Nat) (σ : Sg) : Sg := fun s => if s ∈ G.als d then killr d (σ s) else σ s
def killδ (G : Gi) (d : Nat) (δ : Nat → DV) : Nat → DV := fun s => if s ∈ G.als d then killD d (δ s) else δ s
theorem subD_killD_own {t : DV} (d : Nat) (q : List Step) {v : Value} {bx : Bool} {k : Nat} {rows : List (List DV)} (hq : Abs.subD t q = some (.own v bx k rows)) : Abs.subD (killD d t) q = some (.own v bx k rows) := by
 induction q generalizing t with
 | nil => simp only [Abs.subD, Option.some.injEq] at hq; subst hq; simp [Abs.subD]
 | cons s q ih =>
  obtain ⟨i, j, k0⟩ := s
  cases t with
  | lf a v => simp [Abs.subD] at hq
  | own h b k1 rows1 => rw [killD_own]; exact hq
  | agg cs =>
   simp only [killD_agg, Abs.subD, List.getElem?_map] at hq ⊢
   cases hj : cs[j]? with
   | none => simp [hj] at hq
   | some c => simp only [hj, Option.map_some] at hq ⊢; exact ih hq
  | tup cs =>
   simp only [killD_tup, Abs.subD, List.getElem?_map] at hq ⊢
   cases hj : cs[j]? with
   | none => simp [hj] at hq
   | some c => simp only [hj, Option.map_some] at hq ⊢; exact ih hq
theorem AlOK.kill {δ : Nat → DV} {x : DV} (d : Nat) (h : AlOK δ x) (hl : Lfy x) : AlOK δ (killD d x) := by
 induction h with
 | lf a v h =>
  rw [killD_lf]
  refine .lf _ v ?_
  cases hl with
  | lf _ _ hl =>
   cases a with
   | al r p =>
    rw [killr_al]
    by_cases e : r = d
    · simp only [e, if_true]; trivial
    · simp only [e, if_false]; exact h
   | adr r p i j k =>
    rw [killr_adr]
    by_cases e : r = d
    · simp only [e, if_true]; trivial
    · simp only [e, if_false]; exact h
   | vb s o us =>
    rw [killr_vb]
    split
    · trivial
    · exact h
   | cl f rs =>
    rw [killr_cl]
    split
    · exact h
    · trivial
   | agg cs => simp [leafy] at hl
   | tup cs => simp [leafy] at hl
   | own => simp [leafy] at hl
   | _ => simp only [killr]; trivial
 | own => rw [killD_own]; exact .own _ _ _ _
 | agg cs _ ih =>
  rw [killD_agg]
  cases hl with
  | agg _ hl =>
   refine .agg _ fun i d' hd => ?_
   simp only [List.getElem?_map, Option.map_eq_some_iff] at hd
   obtain ⟨e, he, rfl⟩ := hd
   exact ih i e he (hl i e he)
 | tup cs _ ih =>
  rw [killD_tup]
  cases hl with
  | tup _ hl =>
   refine .tup _ fun i d' hd => ?_
   simp only [List.getElem?_map, Option.map_eq_some_iff] at hd
   obtain ⟨e, he, rfl⟩ := hd
   exact ih i e he (hl i e he)
variable {G : Gi} {δ : Nat → DV} {Fr : Nat → Nat → Prop}
theorem St.killδ_er (h : St G w S δ Fr) (d s : Nat) : (killδ G d δ s).er = killS G d (fun s => (δ s).er) s := by
 unfold killδ killS
 split
 · exact (killD_facts d (h.ok s)).1
 · rfl
theorem St.killδ_ann (h : St G w S δ Fr) (d s : Nat) : (killδ G d δ s).ann = (δ s).ann := by
 unfold killδ
 split
 · exact (killD_facts d (h.ok s)).2.1
 · rfl
theorem St.killδ_nroot (h : St G w S δ Fr) (d s : Nat) : nroot d (killδ G d δ s).er = true := by
 unfold killδ
 split
 · exact (killD_facts d (h.ok s)).2.2.2
 · rename_i hn
   exact rin_nroot (h.rt s) fun hm => hn (Gi.mem_als hm)
theorem St.killδ_ok (h : St G w S δ Fr) (d s : Nat) : Ok w S (killδ G d δ s) (Fr s) := by
 unfold killδ
 split
 · exact (killD_facts d (h.ok s)).2.2.1
 · exact h.ok s
theorem St.killδ_rt (h : St G w S δ Fr) (d s : Nat) : rin (G.rtOf s) (killδ G d δ s).er = true := by
 unfold killδ
 split
 · rw [(killD_facts d (h.ok s)).1]; exact killr_rin (h.rt s)
 · exact h.rt s
theorem St.killδ_al (h : St G w S δ Fr) (d s : Nat) : AlOK δ (killδ G d δ s) := by
 unfold killδ
 split
 · exact (h.al s).kill d (h.ok s).lfy
 · exact h.al s
theorem killδ_own (d r : Nat) (p : List Step) {v : Value} {bx : Bool} {k : Nat} {rows : List (List DV)} (hq : Abs.subD (δ r) p = some (.own v bx k rows)) : Abs.subD (killδ G d δ r) p = some (.own v bx k rows) := by
 unfold killδ
 split
 · exact subD_killD_own d p hq
 · exact hq
theorem nroot_rin {L : List Nat} {d : Nat} {a : AV} : rin L a = true → nroot d a = true → rin (L.filter (· != d)) a = true := by
 refine AV.rec (motive_1 := fun a => rin L a = true → nroot d a = true → rin (L.filter (· != d)) a = true) (motive_2 := fun _ => True) (motive_3 := fun l => rinL L l = true → nrootL d l = true → rinL (L.filter (· != d)) l = true)
  ?_ ?_ ?_ ?_ ?_ ?_ ?_ ?_ ?_ ?_ ?_ ?_ ?_ ?_ ?_ ?_ ?_ a
 all_goals intros
 all_goals first | trivial | (simp [rin]; done) | skip
 all_goals first
  | (simp_all [rin, nroot]; done)
  | (simp_all [rinL, nrootL]; done)
  | (rename_i h1 h2; simp only [rin, nroot, List.all_eq_true, List.contains_iff_mem, List.mem_filter] at h1 h2 ⊢; exact fun x hx => ⟨h1 x hx, h2 x hx⟩)
  | (rename_i ih h1 h2; simp only [rin, nroot] at h1 h2 ⊢; exact ih h1 h2)
theorem St.set (h : St G w S δ Fr) (d : Nat) (dn : DV) (Fn : Nat → Prop) (hw : ∀ b, S b → w'.heap[b]? = w.heap[b]?) (hf : ∀ s, s ≠ d → ∀ x, Fr s x → w'.heap[x]? = w.heap[x]?)
 (hSS : ∀ b, S b → S' b) (hfS : ∀ s, s ≠ d → ∀ x, Fr s x → ¬ S' x) (hn : Ok w' S' dn Fn) (hdis : ∀ s, s ≠ d → ∀ x, Fn x → ¬ Fr s x) (hrt : rin (G.rtOf d) dn.er = true) (hal : AlOK δ dn) :
 St G w' S' (upd (killδ G d δ) d dn) (upd Fr d Fn) := by
 have hkeep : ∀ (L : List Nat), d ∉ L → ∀ r ∈ L, ∀ p v bx k rows, Abs.subD (δ r) p = some (.own v bx k rows) → ∃ rows', Abs.subD (upd (killδ G d δ) d dn r) p = some (.own v bx k rows') := by
  intro L hL r hr p v bx k rows hq
  refine ⟨rows, ?_⟩
  rw [upd_ne _ _ (by rintro rfl; exact hL hr)]
  exact killδ_own d r p hq
 have hkeep2 : ∀ (L : List Nat), d ∉ L → ∀ r ∈ L, (upd (killδ G d δ) d dn r).ann = (δ r).ann := by
  intro L hL r hr
  rw [upd_ne _ _ (by rintro rfl; exact hL hr)]
  exact h.killδ_ann d r
 refine ⟨?_, ?_, ?_, ?_, h.self⟩
 · intro s
   by_cases hs : s = d
   · subst hs; rw [upd_same, upd_same]; exact hn
   · rw [upd_ne _ _ hs, upd_ne _ _ hs]
     exact (h.killδ_ok d s).mono hw (hf s hs) hSS (hfS s hs)
 · intro s t x h1 h2
   by_cases hs : s = d <;> by_cases ht : t = d
   · omega
   · subst hs
     rw [upd_same] at h1
     rw [upd_ne _ _ ht] at h2
     exact absurd h2 (hdis t ht x h1)
   · subst ht
     rw [upd_same] at h2
     rw [upd_ne _ _ hs] at h1
     exact absurd h1 (hdis s hs x h2)
   · rw [upd_ne _ _ hs] at h1
     rw [upd_ne _ _ ht] at h2
     exact h.dis s t x h1 h2
 · intro s
   by_cases hs : s = d
   · subst hs
     rw [upd_same]
     exact hal.mono hrt (hkeep _ (h.self s)) (hkeep2 _ (h.self s))
   · rw [upd_ne _ _ hs]
     refine (h.killδ_al d s).mono (nroot_rin (h.killδ_rt d s) (h.killδ_nroot d s)) (hkeep _ ?_) (hkeep2 _ ?_)
     · simp
     · simp
 · intro s
   by_cases hs : s = d
   · subst hs; rw [upd_same]; exact hrt
   · rw [upd_ne _ _ hs]; exact h.killδ_rt d s
theorem St.poke (h : St G w S δ Fr) (d : Nat) (dn : DV) (Fn : Nat → Prop) (hw : ∀ b, S b → w'.heap[b]? = w.heap[b]?) (hf : ∀ s, s ≠ d → ∀ x, Fr s x → w'.heap[x]? = w.heap[x]?)
 (hn : Ok w' S dn Fn) (hdis : ∀ s, s ≠ d → ∀ x, Fn x → ¬ Fr s x) (hrt : rin (G.rtOf d) dn.er = true) (hal : AlOK δ dn)
 (hheads : ∀ p v bx k rows, Abs.subD (δ d) p = some (.own v bx k rows) → ∃ rows', Abs.subD dn p = some (.own v bx k rows')) (hann : dn.ann = (δ d).ann) :
 St G w' S (upd δ d dn) (upd Fr d Fn) := by
 have hkeep : ∀ (L : List Nat), ∀ r ∈ L, ∀ p v bx k rows, Abs.subD (δ r) p = some (.own v bx k rows) → ∃ rows', Abs.subD (upd δ d dn r) p = some (.own v bx k rows') := by
  intro L r _ p v bx k rows hq
  by_cases hr : r = d
  · subst hr; rw [upd_same]; exact hheads p v bx k rows hq
  · rw [upd_ne _ _ hr]; exact ⟨rows, hq⟩
 have hkeep2 : ∀ (L : List Nat), ∀ r ∈ L, (upd δ d dn r).ann = (δ r).ann := by
  intro L r _
  by_cases hr : r = d
  · subst hr; rw [upd_same]; exact hann
  · rw [upd_ne _ _ hr]
 refine ⟨?_, ?_, ?_, ?_, h.self⟩
 · intro s
   by_cases hs : s = d
   · subst hs; rw [upd_same, upd_same]; exact hn
   · rw [upd_ne _ _ hs, upd_ne _ _ hs]
     exact (h.ok s).mono hw (hf s hs) (fun _ h => h) (h.ok s).notS
 · intro s t x h1 h2
   by_cases hs : s = d <;> by_cases ht : t = d
   · omega
   · subst hs
     rw [upd_same] at h1
     rw [upd_ne _ _ ht] at h2
     exact absurd h2 (hdis t ht x h1)
   · subst ht
     rw [upd_same] at h2
     rw [upd_ne _ _ hs] at h1
     exact absurd h1 (hdis s hs x h2)
   · rw [upd_ne _ _ hs] at h1
     rw [upd_ne _ _ ht] at h2
     exact h.dis s t x h1 h2
 · intro s
   by_cases hs : s = d
   · subst hs
     rw [upd_same]
     exact hal.mono hrt (hkeep _) (hkeep2 _)
   · rw [upd_ne _ _ hs]
     exact (h.al s).mono (h.rt s) (hkeep _) (hkeep2 _)
 · intro s
   by_cases hs : s = d
   · subst hs; rw [upd_same]; exact hrt
   · rw [upd_ne _ _ hs]; exact h.rt s
theorem St.world (h : St G w S δ Fr) (hw : ∀ b, S b → w'.heap[b]? = w.heap[b]?) (hf : ∀ s x, Fr s x → w'.heap[x]? = w.heap[x]?) (hSS : ∀ b, S b → S' b) (hfS : ∀ s x, Fr s x → ¬ S' x) : St G w' S' δ Fr :=
 ⟨fun s => (h.ok s).mono hw (hf s) hSS (hfS s), h.dis, h.al, h.rt, h.self⟩
end Go.Abs
namespace Go.Abs
inductive Ar where
 | t (s : Nat)
 | c (a : AV)
 deriving Inhabited
inductive IOp where
 | cp (x : Ar)
 | mv (x : Ar)
 | fz (x : Ar)
 | pick (c a b : Ar)
 | bx (n : Nat) (x : Ar)
 | bld (z : List AV) (ps : List (Nat × Nat × Ar))
 | bsl (k : Nat) (z : List (List AV)) (ps : List (Nat × Ar))
 | ld (agg : Bool) (n : Nat) (a : Ar)
 | st (n : Nat) (a v : Ar)
 | fad (off : Nat) (x : Ar)
 | fld (agg : Bool) (off n : Nat) (x : Ar)
 | iad (k : Nat) (x i : Ar)
 | aad (len k : Nat) (x i : Ar)
 | idx (agg : Bool) (len k : Nat) (x i : Ar)
 | bin (op : BinOp) (x y : Ar)
 | beq (neg : Bool) (x y : Ar)
 | un (op : UnOp) (x : Ar)
 | cvt (k : IntKind) (x : Ar)
 | mm (mx : Bool) (x y : Ar)
 | len (x : Ar)
 | slen (x : Ar)
 | sidx (x i : Ar)
 | seqs (neg : Bool) (kd : List Nat) (x y : Ar)
 | app (k bytes : Nat) (x y : Ar)
 | slc (k : Nat) (fr : Bool) (x : Ar) (lo hi mx : Option Ar)
 | ext (x : Ar) (i : Nat)
 | mk (k bytes : Nat) (z : List AV) (l c : Ar)
 | nchk (x : Ar)
 | mkf (f : Nat) (xs : List Ar)
 | lda (a : Ar)
 | fl
 | iadr (r off kb k : Nat) (i : Ar)
 | sts (a v : Ar)
 | call (f : Nat) (args : List Ar) (m : Nat)
 | bad
 deriving Inhabited
structure Dst where
 d : Nat
 kl : List Nat
 rs : List Nat
 deriving Inhabited
structure IOper where
 dst : Option Dst
 op : IOp
 guard : Option (Nat × Bool)
 deriving Inhabited
inductive XOp where
 | o (o : IOper)
 | bxv (d : Dst) (n : Nat) (s : Nat)
 | clo (d : Option Dst) (f : Nat) (x : Ar) (args : List Ar)
 | lnd (d : Option Dst) (f : Nat) (pre : List Ar) (x : Ar) (c : Option Nat) (post : List Ar)
 | nilq (d : Dst) (neg : Bool) (x : Ar)
 | lend (d : Option Dst) (f : Nat) (x : Ar) (rest : List Ar)
 | gld (d : Dst) (g n : Nat)
 deriving Inhabited
structure Flo where
 r : Nat
 off : Nat
 kb : Nat
 i0 : Nat
 i1 : Nat
 i2 : Nat
 d0 : Nat
 d1 : Nat
 deriving Inhabited
inductive IC where
 | skip
 | bad
 | rex (ops : List XOp)
 | gz (r : Nat) (p : List Step) (a : IC)
 | reg (ops : List IOper)
 | flo (f : Flo) (a b : List IOper)
 | flc (r i1 i2 d1 : Nat) (ops : List IOper)
 | seq (a b : IC)
 | cond (c : Ar) (a b : IC)
 | block (id : Nat) (a : IC)
 | loop (a : IC)
 | exit (id : Nat)
 | ret
 deriving Inhabited
def ar (σ : Sg) : Ar → AV
 | .t s => σ s
 | .c a => a
def plainA : AV → Bool
 | .sc _ | .sl .. => true
 | _ => false
def plainC : AV → AV
 | .sc u => .sc u
 | .sl x k rows => .sl x k rows
 | _ => .dead
def cellA : AV → Bool
 | .sc _ | .sl .. | .own .. => true
 | _ => false
mutual
def view (r : Nat) : List Step → AV → AV
 | p, .own _ _ _ => .al r p
 | p, .agg cs => .agg (viewL r p 0 cs)
 | p, .tup cs => .tup (viewL r p 0 cs)
 | _, a => a
def viewL (r : Nat) (p : List Step) : Nat → List AV → List AV
 | _, [] => []
 | i, c :: cs => view r (p ++ [(0, i, 0)]) c :: viewL r p (i + 1) cs
end
def vC (r : Nat) (p : List Step) (i j k : Nat) : AV → AV
 | .own _ _ _ => .al r (p ++ [(i, j, k)])
 | .sc v => .sc v
 | .sl x k' rows => .sl x k' rows
 | _ => .dead
def vF (s j : Nat) : AV → AV
 | .own _ _ _ => .al s [(0, j, 0)]
 | .agg _ => .dead
 | .tup _ => .dead
 | a => a
def viewC (r : Nat) (p : List Step) (i k : Nat) : Nat → List AV → List AV
 | _, [] => []
 | j, c :: cs => vC r p i j k c :: viewC r p i k (j + 1) cs
def viewF (s : Nat) : Nat → List AV → List AV
 | _, [] => []
 | j, c :: cs => vF s j c :: viewF s (j + 1) cs
def kills (kl : List Nat) (d : Nat) (σ : Sg) : Sg := match kl with
 | [] => σ
 | _ => fun s => if s ∈ kl then killr d (σ s) else σ s
def wr (d : Dst) (v : AV) (σ : Sg) : Option Sg := if rin d.rs v = true then some (upd (kills d.kl d.d σ) d.d v) else none
def tk1 (G : Gi) (r : Nat) (p : List Step) (σ : Sg) : Option (AV × Sg) :=
 match sub (σ r) p with
 | some (.own b k rows) => match put (σ r) p .dead with
  | some t => some (.own b k rows, upd (killnS G p.length r σ) r t)
  | none => none
 | _ => none
def tkL (G : Gi) : List AV → Sg → Option (List AV × Sg)
 | [], σ => some ([], σ)
 | a :: cs, σ => match a with
  | .al r p => match tk1 G r p σ with
   | some (n, τ) => match tkL G cs τ with
    | some (l, τ') => some (n :: l, τ')
    | none => none
   | none => none
  | a => if cellA a = true then
   match tkL G cs σ with
   | some (l, τ) => some (a :: l, τ)
   | none => none
   else none
def tk (G : Gi) (x : Ar) (σ : Sg) : Option (AV × Sg) :=
 match x with
 | .c a => some (a, σ)
 | .t s => match σ s with
  | .al r p => tk1 G r p σ
  | .own b k rows => some (.own b k rows, upd (killS G s σ) s .dead)
  | .agg cs => if cs.all plainA = true then some (.agg cs, σ) else
   match tkL G cs (upd (killS G s σ) s .dead) with
   | some (l, τ) => some (.agg l, τ)
   | none => none
  | .sc v => some (.sc v, σ)
  | .sl e k rows => some (.sl e k rows, σ)
  | .adr r p i j k => some (.adr r p i j k, σ)
  | .fp cs => some (.fp cs, σ)
  | _ => none
def cellsOf : AV → List AV
 | .agg cs => cs
 | a => [a]
def hd (σ : Sg) (x : Ar) : Option (AV × Option (Nat × List Step)) :=
 match x with
 | .c a => match a with
  | .own b k rows => some (.own b k rows, none)
  | _ => none
 | .t s => match σ s with
  | .al r p => match sub (σ r) p with
   | some n => some (n, some (r, p))
   | none => none
  | .own b k rows => some (.own b k rows, some (s, []))
  | .sl e k rows => some (.sl e k rows, none)
  | _ => none
def fzAt (G : Gi) (r : Nat) (p : List Step) (σ : Sg) : Option (AV × Sg) :=
 match sub (σ r) p with
 | some (.own b k rows) => match put (σ r) p (frz (.own b k rows)) with
  | some t => some (frz (.own b k rows), upd (killS G r σ) r t)
  | none => none
 | _ => none
def asI : AV → Option Int
 | .sc (.int _ n) => some n
 | _ => none
def adrOf (σ : Sg) (x : Ar) : Option (Nat × List Step × Nat × Nat × Nat) :=
 match x with
 | .c _ => none
 | .t s => match σ s with
  | .adr r p i j k => some (r, p, i, j, k)
  | .own true k _ => some (s, [], 0, 0, k)
  | .al r p => match sub (σ r) p with
   | some (.own true k _) => some (r, p, 0, 0, k)
   | _ => none
  | _ => none
def binI (op : BinOp) (k : IntKind) (x y : Int) : Option Value :=
 match op with
 | .add => some (.int k (k.wrap (x + y)))
 | .sub => some (.int k (k.wrap (x - y)))
 | .mul => some (.int k (k.wrap (x * y)))
 | .quo => if y = 0 then none else some (.int k (k.wrap (x.tdiv y)))
 | .rem => if y = 0 then none else some (.int k (x.tmod y))
 | .eql => some (.bool (x == y))
 | .neq => some (.bool (x != y))
 | .lss => some (.bool (x < y))
 | .leq => some (.bool (x ≤ y))
 | .gtr => some (.bool (x > y))
 | .geq => some (.bool (x ≥ y))
 | _ => none
def binF (op : BinOp) : AV → AV → Option AV
 | .sc (.int k x), .sc (.int k' y) => if k = k' then (binI op k x y).map .sc else none
 | .sc (.string x), .sc (.string y) => match op with
  | .eql => some (.sc (.bool (x.toList == y.toList)))
  | .neq => some (.sc (.bool (!(x.toList == y.toList))))
  | _ => none
 | _, _ => none
def unF (op : UnOp) : AV → Option AV
 | .sc (.bool x) => match op with
  | .not => some (.sc (.bool (!x)))
  | _ => none
 | .sc (.int k x) => match op with
  | .neg => some (.sc (.int k (k.wrap (0 - x))))
  | _ => none
 | _ => none
def asCells (agg : Bool) (n : Nat) (cs : List AV) : Option AV :=
 if cs.length = n then (if agg = true then some (.agg cs) else match cs with | [c] => some c | _ => none) else none
def cutRows (rows : List (List AV)) (lo hi : Nat) : Option (List (List AV)) :=
 if lo ≤ hi ∧ hi ≤ rows.length then some ((rows.drop lo).take (hi - lo)) else none
def optI (σ : Sg) (x : Option Ar) (d : Nat) : Option Nat :=
 match x with
 | none => some d
 | some a => match asI (ar σ a) with
  | some n => if 0 ≤ n then some n.toNat else none
  | none => none
def mxI (σ : Sg) (mx : Option Ar) (h : Nat) : Option Nat :=
 match mx with
 | none => some h
 | some a => optI σ (some a) 0
def eqSc : Nat → Value → Value → Option Bool
 | 0, .bool a, .bool b => some (a == b)
 | 1, .int k n, .int k' m => if k = k' then some (n == m) else none
 | 2, .string a, .string b => some (a.toList == b.toList)
 | _, _, _ => none
def eqCells : List Nat → List AV → List AV → Option Bool
 | [], [], [] => some true
 | kd :: ks, .sc u :: xs, .sc v :: ys => match eqSc kd u v, eqCells ks xs ys with
  | some a, some b => some (a && b)
  | _, _ => none
 | _, _, _ => none
def capL (σ : Sg) : List Ar → Option (List (Nat × List Step))
 | [] => some []
 | x :: r => match x with
  | .t s => (match σ s, capL σ r with
   | .own true _ _, some l => some ((s, []) :: l)
   | .al q p, some l => (match sub (σ q) p with
    | some (.own true _ _) => some ((q, p) :: l)
    | _ => none)
   | _, _ => none)
  | .c _ => none
def valOf (o : IOp) (σ : Sg) : Option AV :=
 match o with
 | .cp x => match x with
  | .t s => some (view s [] (σ s))
  | .c a => some a
 | .pick c a b => match ar σ c with
  | .sc (.bool x) => match ar σ (if x = true then a else b) with
   | .sc v => some (.sc v)
   | _ => none
  | _ => none
 | .ld agg n a => match a with
  | .c _ => none
  | .t s => match σ s with
   | .fp cs => asCells agg n ((cs.take n).map plainC)
   | .vb q o _ => match σ q with
    | .agg cs => asCells agg n (viewF q o ((cs.drop o).take n))
    | _ => none
   | _ => match adrOf σ (.t s) with
    | some (r, p, i, j, k) => match sub (σ r) p with
     | some (.own _ _ rows) => match rows[i]? with
      | some row => asCells agg n (viewC r p i k j ((row.drop j).take n))
      | none => none
     | _ => none
    | none => none
 | .fad off x => match x with
  | .c _ => none
  | .t s => match σ s with
   | .fp cs => some (.fp (cs.drop off))
   | .vb q o us => some (.vb q (o + off) us)
   | _ => match adrOf σ (.t s) with
    | some (r, p, i, j, k) => some (.adr r p i (j + off) k)
    | none => none
 | .fld agg off n x => match x with
  | .c _ => none
  | .t s => match σ s with
   | .agg cs => asCells agg n (viewF s off ((cs.drop off).take n))
   | _ => none
 | .iad k x i => match hd σ x, asI (ar σ i) with
  | some (.own false k' rows, some (r, p)), some n => if k' = k ∧ 0 ≤ n ∧ n < rows.length then some (.adr r p n.toNat 0 k) else none
  | some (.sl _ k' rows, _), some n => if k' = k ∧ 0 ≤ n then (rows[n.toNat]?).map .fp else none
  | _, _ => none
 | .aad len k x i => match x, asI (ar σ i) with
  | .t s, some n => if 0 ≤ n ∧ n < len then
   match σ s with
   | .fp cs => some (.fp (cs.drop (n.toNat * k)))
   | _ => match adrOf σ (.t s) with
    | some (r, p, i, j, k') => some (.adr r p i (j + n.toNat * k) k')
    | none => none
   else none
  | _, _ => none
 | .idx agg len k x i => match x, asI (ar σ i) with
  | .t s, some n => if 0 ≤ n ∧ n < len then
   match σ s with
   | .agg cs => asCells agg k (viewF s (n.toNat * k) ((cs.drop (n.toNat * k)).take k))
   | _ => none
   else none
  | _, _ => none
 | .bin op x y => binF op (ar σ x) (ar σ y)
 | .beq neg x y => match ar σ x, ar σ y with
  | .sc (.bool a), .sc (.bool b) => some (.sc (.bool (if neg = true then !(a == b) else (a == b))))
  | _, _ => none
 | .un op x => unF op (ar σ x)
 | .cvt k x => match ar σ x with
  | .sc (.int _ n) => some (.sc (.int k (k.wrap n)))
  | _ => none
 | .mm mx x y => match ar σ x, ar σ y with
  | .sc (.int k n), .sc (.int k' m) => if k = k' then some (.sc (.int k (if mx = true then (if m > n then m else n) else (if m < n then m else n)))) else none
  | _, _ => none
 | .len x => match hd σ x with
  | some (.own false _ rows, _) => some (.sc (.int .i64 rows.length))
  | some (.sl _ _ rows, _) => some (.sc (.int .i64 rows.length))
  | _ => none
 | .slen x => match ar σ x with
  | .sc (.string s) => some (.sc (.int .i64 s.size))
  | _ => none
 | .sidx x i => match ar σ x, asI (ar σ i) with
  | .sc (.string s), some n => if 0 ≤ n then (s[n.toNat]?).map fun b => .sc (.int .u8 b.toNat) else none
  | _, _ => none
 | .seqs neg kd x y => match ar σ x, ar σ y with
  | .agg xs, .agg ys => (eqCells kd xs ys).map fun b => .sc (.bool (if neg = true then !b else b))
  | _, _ => none
 | .ext x i => match x with
  | .t s => match σ s with
   | .tup cs => match cs[i]? with
    | some c => some (view s [(0, i, 0)] c)
    | none => none
   | _ => none
  | _ => none
 | .nchk x => match ar σ x with
  | .adr r p i j k => some (.adr r p i j k)
  | .fp cs => some (.fp cs)
  | .al r p => match sub (σ r) p with
   | some (.own true _ _) => some (.al r p)
   | _ => none
  | .own true _ _ => match x with
   | .t s => some (.al s [])
   | _ => none
  | _ => none
 | .mkf f xs => (capL σ xs).map (.cl f)
 | .fl => some .dead
 | .iadr r off kb k i => match σ r, asI (ar σ i) with
  | .own true kb' [row], some n => match row[off]? with
   | some (.own false k' rows) => if kb' = kb ∧ k' = k ∧ 0 ≤ n ∧ n < rows.length then some (.adr r [(0, off, kb)] n.toNat 0 k) else none
   | _ => none
  | _, _ => none
 | .lda a => match adrOf σ a with
  | some (r, p, i, j, k) => match sub (σ r) p with
   | some (.own _ _ rows) => match rows[i]? with
    | some row => match row[j]? with
     | some (.own _ _ _) => some (.al r (p ++ [(i, j, k)]))
     | _ => none
    | none => none
   | _ => none
  | none => none
 | _ => none
def splice (cs : List AV) (off : Nat) (xs : List AV) : List AV := cs.take off ++ xs ++ cs.drop (off + xs.length)
def bldL (G : Gi) : List (Nat × Nat × Ar) → List AV → Sg → Option (List AV × Sg)
 | [], cs, σ => some (cs, σ)
 | (off, n, x) :: ps, cs, σ => match tk G x σ with
  | some (a, τ) => if (cellsOf a).length = n ∧ off + n ≤ cs.length ∧ (cellsOf a).all cellA = true then bldL G ps (splice cs off (cellsOf a)) τ else none
  | none => none
def bslL (G : Gi) (k : Nat) : List (Nat × Ar) → List (List AV) → Sg → Option (List (List AV) × Sg)
 | [], rows, σ => some (rows, σ)
 | (i, x) :: ps, rows, σ => match tk G x σ with
  | some (a, τ) => if (cellsOf a).length = k ∧ i < rows.length ∧ (cellsOf a).all cellA = true then bslL G k ps (rows.set i (cellsOf a)) τ else none
  | none => none
def stC (p : List Step) (i k : Nat) : Nat → List AV → AV → Option AV
 | _, [], t => some t
 | j, c :: cs, t => match put t (p ++ [(i, j, k)]) c with
  | some t' => stC p i k (j + 1) cs t'
  | none => none
def roomOK (n bytes : Nat) : Bool := n * bytes ≤ 70368744177664
def appY (G : Gi) (k : Nat) (y : Ar) (σ : Sg) : Option (List (List AV) × Sg) :=
 match y with
 | .t s => match σ s with
  | .own false k' rows => if k' = k ∧ rows.all (·.all cellA) = true then some (rows, upd (killS G s σ) s .dead) else none
  | .sl _ k' rows => if k' = k ∧ rows.all (·.all plainA) = true then some (rows, σ) else none
  | .al r p => match fzAt G r p σ with
   | some (.sl _ k' rows, τ) => if k' = k ∧ rows.all (·.all plainA) = true then some (rows, τ) else none
   | _ => none
  | _ => none
 | .c a => match a with
  | .own false _ [] => some ([], σ)
  | _ => none
def appX (G : Gi) (k : Nat) (x : Ar) (τ : Sg) : Option (AV × Sg) :=
 match x with
 | .t s => match τ s with
  | .sl true k' rows => if k' = k ∧ rows.all (·.all plainA) = true then some (.sl true k' rows, τ) else none
  | .own false k' rows => if k' = k then some (.own false k' rows, upd (killS G s τ) s .dead) else none
  | .al r p => match tk1 G r p τ with
   | some (.own false k' rows, τ') => if k' = k then some (.own false k' rows, τ') else none
   | _ => none
  | _ => none
 | .c a => match a with
  | .own false _ [] => some (.own false k [], τ)
  | _ => none
def eff (G : Gi) (o : IOp) (d : Option Dst) (σ : Sg) : Option Sg :=
 match o, d with
 | .mv x, some d => match tk G x σ with
  | some (v, τ) => wr d v τ
  | none => none
 | .fz x, some d => match x with
  | .t s => match σ s with
   | .al r p => match fzAt G r p σ with
    | some (v, τ) => wr d v τ
    | none => none
   | .own _ _ _ => match fzAt G s [] σ with
    | some (v, τ) => wr d v τ
    | none => none
   | .sc v => wr d (.sc v) σ
   | .sl e k rows => wr d (.sl e k rows) σ
   | _ => none
  | .c _ => none
 | .bx n x, some d => match tk G x σ with
  | some (v, τ) => if (cellsOf v).length = n ∧ (cellsOf v).all cellA = true then wr d (.own true n [cellsOf v]) τ else none
  | none => none
 | .bld z ps, some d => match bldL G ps z σ with
  | some (cs, τ) => wr d (.agg cs) τ
  | none => none
 | .bsl k z ps, some d => match bslL G k ps z σ with
  | some (rows, τ) => wr d (.own false k rows) τ
  | none => none
 | .mk k bytes z l c, some d => match asI (ar σ l), asI (ar σ c) with
  | some l, some c => if 0 ≤ l ∧ l ≤ c ∧ roomOK c.toNat bytes = true then wr d (.own false k (List.replicate l.toNat z)) σ else none
  | _, _ => none
 | .slc k fr x lo hi mx, some d => match hd σ x with
  | some (.sl _ k' rows, _) => match optI σ lo 0, optI σ hi rows.length with
   | some l, some h => match cutRows rows l h, mxI σ mx h with
    | some rs, some m => if k' = k ∧ m = h then wr d (.sl mx.isSome k rs) σ else none
    | _, _ => none
   | _, _ => none
  | some (.own false k' rows, some (r, p)) => match optI σ lo 0, optI σ hi rows.length with
   | some l, some h => match cutRows rows l h, mxI σ mx h with
    | some rs, some m => if k' = k ∧ m = h then
     (if fr = true then
      match fzAt G r p σ with
      | some (_, τ) => wr d (.sl mx.isSome k (rs.map (·.map frz))) τ
      | none => none
     else if l = 0 ∧ mx.isNone = true then
      match tk1 G r p σ with
      | some (_, τ) => wr d (.own false k rs) τ
      | none => none
     else none)
     else none
    | _, _ => none
   | _, _ => none
  | _ => none
 | .app k bytes x y, some d => match appY G k y σ with
  | some (ys, τ) => match appX G k x τ with
   | some (.own _ _ rows, τ') => if roomOK (rows.length + ys.length) bytes = true then wr d (.own false k (rows ++ ys)) τ' else none
   | some (.sl e _ rows, τ') => match ys with
    | [] => wr d (.sl e k rows) τ'
    | y :: ys => if roomOK (rows.length + (y :: ys).length) bytes = true then wr d (.own false k (rows ++ y :: ys)) τ' else none
   | _ => none
  | none => none
 | .st n a v, none => match tk G v σ with
  | some (x, τ) => match adrOf τ a with
   | some (r, p, i, j, k) => match sub (τ r) p with
    | some (.own _ _ rows) => match rows[i]? with
     | some row =>
      if (cellsOf x).length = n ∧ (cellsOf x).all cellA = true ∧ j + n ≤ row.length then
       match stC p i k j (cellsOf x) (τ r) with
       | some t => if ((row.drop j).take n).all leafy = true then some (upd τ r t) else some (upd (killS G r τ) r t)
       | none => none
      else none
     | none => none
    | _ => none
   | none => none
  | none => none
 | .sts a v, none => match ar σ v with
  | .sc u => match adrOf σ a with
   | some (r, p, i, j, k) => match sub (σ r) p with
    | some (.own _ _ rows) => match rows[i]? with
     | some row => match row[j]? with
      | some (.sc _) => match put (σ r) (p ++ [(i, j, k)]) (.sc u) with
       | some t => some (upd σ r t)
       | none => none
      | _ => none
     | none => none
    | _ => none
   | none => none
  | _ => none
 | o, some d => match valOf o σ with
  | some v => wr d v σ
  | none => none
 | _, none => none
theorem lda_ld {a : Ar} {σ : Sg} {v : AV} (h : valOf (.lda a) σ = some v) : valOf (.ld false 1 a) σ = some v := by
 simp only [valOf] at h ⊢
 split at h
 · rename_i r p i j k ha
   split at h
   · rename_i b k' rows hs
     split at h
     · rename_i row hr
       split at h
       · rename_i b2 k2 rows2 hc
         obtain rfl := Option.some.inj h
         have hd : (row.drop j).take 1 = [.own b2 k2 rows2] := by
          obtain ⟨hj, hx⟩ := List.getElem?_eq_some_iff.1 hc
          rw [List.drop_eq_getElem_cons hj, hx]; rfl
         cases a with
         | c => simp [adrOf] at ha
         | t s =>
          simp only
          cases hσ : σ s with
          | fp cs => simp [adrOf, hσ] at ha
          | vb q o us => simp [adrOf, hσ] at ha
          | _ => simp only [ha, hs, hr, hd]; rfl
       · cases h
     · cases h
   · cases h
 · cases h
theorem sts_st {G : Gi} {a v : Ar} {σ τ : Sg} (h : eff G (.sts a v) none σ = some τ) : eff G (.st 1 a v) none σ = some τ := by
 simp only [eff] at h ⊢
 split at h
 · rename_i u hu
   have htk : tk G v σ = some (.sc u, σ) := by
    cases v with
    | c c => simp only [ar] at hu; subst hu; rfl
    | t s => simp only [ar] at hu; simp [tk, hu]
   rw [htk]
   simp only
   split at h
   · rename_i r p i j k ha
     try simp only [ha]
     split at h
     · rename_i b k' rows hs
       try simp only [hs]
       split at h
       · rename_i row hr
         try simp only [hr]
         split at h
         · rename_i u0 hc
           obtain ⟨hj, hx⟩ := List.getElem?_eq_some_iff.1 hc
           have hd : (row.drop j).take 1 = [.sc u0] := by rw [List.drop_eq_getElem_cons hj, hx]; rfl
           split at h
           · rename_i t ht
             obtain rfl := Option.some.inj h
             rw [if_pos ⟨by simp [cellsOf], by simp [cellsOf, cellA], by omega⟩]
             simp [cellsOf, stC, ht, hd, leafy]
           · cases h
         · cases h
       · cases h
     · cases h
   · cases h
 · cases h
def isBx (kb off : Nat) : AV → Bool
 | .own true k [row] => k == kb && decide (off < row.length)
 | _ => false
end Go.Abs
namespace Go.Abs
structure Ext (w w' : World) (F : Nat → Prop) : Prop where
 os : w'.os = w.os
 tape : w'.tape = w.tape
 output : w'.output = w.output
 size : w.heap.size ≤ w'.heap.size
 block : ∀ b, b < w.heap.size → ¬ F b → w'.heap[b]? = w.heap[b]?
def gamS0 : List ByteArray := [⟨#[118, 97, 114]⟩, ⟨#[118, 111, 108, 97, 116, 105, 108, 101]⟩, ⟨#[109, 117, 116, 101, 120]⟩, ⟨#[114, 119, 108, 111, 99, 107]⟩, ⟨#[99, 111, 110, 100]⟩, ⟨#[102, 117, 116, 117, 114, 101]⟩, ⟨#[116, 104, 114, 101, 97, 100]⟩, ⟨#[105, 102]⟩, ⟨#[101, 108, 115, 101]⟩, ⟨#[119, 104, 105, 108, 101]⟩, ⟨#[108, 111, 99, 107]⟩, ⟨#[114, 101, 97, 100]⟩, ⟨#[119, 114, 105, 116, 101]⟩, ⟨#[116, 114, 97, 110, 115, 97, 99, 116, 105, 111, 110]⟩, ⟨#[97, 116, 111, 109, 105, 99]⟩, ⟨#[119, 97, 105, 116]⟩, ⟨#[110, 111, 116, 105, 102, 121]⟩, ⟨#[110, 111, 116, 105, 102, 121, 97, 108, 108]⟩, ⟨#[115, 112, 97, 119, 110]⟩, ⟨#[106, 111, 105, 110]⟩, ⟨#[115, 101, 116]⟩, ⟨#[103, 101, 116]⟩]
def Gam : List (Nat × List Value) := [(0, gamS0.map Value.string)]
def GI (w : World) (S : Nat → Prop) : Prop := ∀ x ∈ Gam, S x.1 ∧ ∃ arr E fz, w.heap[x.1]? = some (.cells arr E fz) ∧ ∀ (j : Nat) v, x.2[j]? = some v → arr[j]? = some v
def SoundAt (P : Program) (f : Nat) (args : List AV) (res : AV) (outs : List AV) : Prop :=
 ∀ (w : World) (S : Nat → Prop) (ds : List DV) (F : Nat → Prop), GI w S → ds.map DV.er = args → Ok w S (.tup ds) F → (∀ b, S b → b < w.heap.size) →
  Calls P f (ds.map DV.ann).toArray w fun e w' => ∃ (r : DV) (os : List DV) (S' F' : Nat → Prop), e = .returned r.ann ∧ r.er = res ∧ os.map DV.er = outs ∧ os.map DV.ann = ds.map DV.ann ∧
   Ok w' S' (.tup (r :: os)) F' ∧ Ext w w' F ∧ (∀ b, S b → S' b) ∧ (∀ b, S' b → S b ∨ F b ∨ w.heap.size ≤ b) ∧ (∀ b, S' b → b < w'.heap.size) ∧ (∀ x, F' x → F x ∨ w.heap.size ≤ x)
def Says (P : Program) (f : Nat) (args : List AV) (res : AV) : Prop := SoundAt P f args res (args.map fun _ => .dead)
def rdV (σ : Sg) : AV → Option AV
 | .al r p => match sub (σ r) p with
  | some (.own false k rows) => some (frz (.own false k rows))
  | some (.own true _ [row]) => some (.fp (row.map frz))
  | _ => none
 | .own false k rows => some (frz (.own false k rows))
 | .own true _ [row] => some (.fp (row.map frz))
 | .fp cs => some (.fp cs)
 | .sc v => some (.sc v)
 | .sl _ k rows => some (.sl false k rows)
 | _ => none
def rdL (σ : Sg) : List AV → Option (List AV)
 | [] => some []
 | a :: r => match rdV σ a, rdL σ r with
  | some x, some l => some (x :: l)
  | _, _ => none
def rdA (σ : Sg) : AV → Option AV
 | .agg cs => match rdL σ cs with
  | some l => some (.agg l)
  | none => none
 | .al r p => rdV σ (.al r p)
 | .own b k rows => rdV σ (.own b k rows)
 | .sc v => rdV σ (.sc v)
 | .sl e k rows => rdV σ (.sl e k rows)
 | .fp cs => rdV σ (.fp cs)
 | _ => none
def rdArgs (σ : Sg) : List Ar → Option (List AV)
 | [] => some []
 | x :: r => match rdA σ (ar σ x), rdArgs σ r with
  | some a, some l => some (a :: l)
  | _, _ => none
def fzl : AV → AV
 | .sl _ k rows => .sl false k rows
 | a => frz a
def fzn : AV → AV
 | .agg cs => .agg (cs.map fzl)
 | a => fzl a
def tkArgs (G : Gi) : List Ar → Sg → Option (List AV × Sg)
 | [], σ => some ([], σ)
 | x :: r, σ => match tk G x σ with
  | some (a, τ) => match tkArgs G r τ with
   | some (l, τ') => some (fzn a :: l, τ')
   | none => none
  | none => none
def tkRaw (G : Gi) : List Ar → Sg → Option (List AV × Sg)
 | [], σ => some ([], σ)
 | x :: r, σ => match tk G x σ with
  | some (a, τ) => match tkRaw G r τ with
   | some (l, τ') => some (a :: l, τ')
   | none => none
  | none => none
def capF (σ : Sg) : List (Nat × List Step) → Option (List (List AV))
 | [] => some []
 | (r, p) :: l => match rdV σ (.al r p), capF σ l with
  | some (.fp cs), some css => some (cs :: css)
  | _, _ => none
def tkLk (G : Gi) : List Ar → Sg → Option (List AV × Sg)
 | [], _ => none
 | x :: r, σ => match r with
  | [] => (match ar σ x with
   | .cl f rs => (match capF σ rs with
    | some css => some ([.fcl f css], σ)
    | none => none)
   | _ => none)
  | y :: r => match tk G x σ with
   | some (a, τ) => match tkLk G (y :: r) τ with
    | some (l, τ') => some (a :: l, τ')
    | none => none
   | none => none
def flatA : AV → Bool
 | .sc _ => true
 | .agg cs => cs.all fun | .sc _ => true | _ => false
 | .tup cs => cs.all fun | .sc _ => true | _ => false
 | _ => false
mutual
def fresh : AV → Bool
 | .sc _ => true
 | .own _ _ rows => freshR rows
 | .agg cs => freshL cs
 | .tup cs => freshL cs
 | _ => false
def freshL : List AV → Bool
 | [] => true
 | a :: r => fresh a && freshL r
def freshR : List (List AV) → Bool
 | [] => true
 | a :: r => freshL a && freshR r
end
def resV (m : Nat) (res : AV) : Option AV :=
 match m with
 | 0 => if flatA res = true then some res else none
 | 1 => some (frz res)
 | 2 => if fresh res = true then some res else none
 | 3 => if fresh res = true then some res else none
 | 4 => if fresh res = true then some res else none
 | _ => none
def callArgs (G : Gi) (m : Nat) (args : List Ar) (σ : Sg) : Option (List AV × Sg) :=
 match m with
 | 1 => tkArgs G args σ
 | 3 => tkRaw G args σ
 | 4 => tkLk G args σ
 | _ => match rdArgs σ args with
  | some l => some (l, σ)
  | none => none
def toDst (dst : Option Dst) (v : AV) (K : Sg → Prop) (τ : Sg) : Prop :=
 match dst with
 | some d => (match wr d v τ with
  | some τ' => K τ'
  | none => False)
 | none => K τ
def arun (P : Program) (G : Gi) (o : IOper) (K : Sg → Prop) (σ : Sg) : Prop :=
 match o.op with
 | .call f args m => match callArgs G m args σ with
  | some (as, τ) => ∃ res, Says P f as res ∧ (match resV m res with
   | some v => toDst o.dst v K τ
   | none => False)
  | none => False
 | op => match eff G op o.dst σ with
  | some τ => K τ
  | none => False
def aop (P : Program) (G : Gi) (o : IOper) (K : Sg → Prop) (σ : Sg) : Prop :=
 match o.guard with
 | none => arun P G o K σ
 | some (g, want) => match σ g with
  | .sc (.bool b) => if b = want then arun P G o K σ else
   (match o.dst with
   | some d => K (upd (kills d.kl d.d σ) d.d .un)
   | none => K σ)
  | .un => (match o.dst with
   | some d => K (upd (kills d.kl d.d σ) d.d .un)
   | none => K σ)
  | _ => False
def aops (P : Program) (G : Gi) : List IOper → (Sg → Prop) → Sg → Prop
 | [], K, σ => K σ
 | o :: os, K, σ => aop P G o (aops P G os K) σ
def plc (σ : Sg) : Ar → Option (Nat × List Step)
 | .t s => match σ s with
  | .al r p => some (r, p)
  | .own _ _ _ => some (s, [])
  | _ => none
 | .c _ => none
def rdSc (σ : Sg) : List Ar → Option (List AV)
 | [] => some []
 | x :: r => match ar σ x, rdSc σ r with
  | .sc v, some l => some (.sc v :: l)
  | _, _ => none
def rowsOf : AV → Option (List (List AV))
 | .own false _ rows => some rows
 | .sl _ _ rows => some rows
 | _ => none
def backOK : AV → Bool
 | .own .. | .dead => true
 | _ => false
def capR (σ : Sg) : List (Nat × List Step) → Option (List AV)
 | [] => some []
 | (r, p) :: l => match rdV σ (.al r p), capR σ l with
  | some a, some as => some (a :: as)
  | _, _ => none
def cloA (σ : Sg) (f : Nat) (x : Ar) (args : List Ar) : Option (List AV) := match ar σ x with
 | .cl f' rs => if f' = f then (match rdArgs σ args, capR σ rs with
  | some as, some bs => some (as ++ bs)
  | _, _ => none) else none
 | _ => none
def rdF1 : AV → AV
 | .sc v => .sc v
 | .sl _ k rows => .sl false k rows
 | _ => .dead
def rdF (σ : Sg) : Ar → Option AV
 | .t s => match σ s with
  | .agg cs => some (.agg (cs.map rdF1))
  | a => some (rdF1 a)
 | .c a => match a with
  | .sc v => some (.sc v)
  | .own false k [] => some (.sl false k [])
  | _ => none
def rdFs (σ : Sg) : List Ar → Option (List AV)
 | [] => some []
 | x :: r => match rdF σ x, rdFs σ r with
  | some a, some l => some (a :: l)
  | _, _ => none
def plcC (σ : Sg) (x : Ar) (c : Option Nat) : Option (Nat × List Step) := match c with
 | none => plc σ x
 | some j => match x with
  | .t s => match σ s with
   | .agg cs => match cs[j]? with
    | some (.al r p) => some (r, p)
    | some (.own _ _ _) => some (s, [(0, j, 0)])
    | _ => none
   | _ => none
  | .c _ => none
def lentA (σ : Sg) (x : Ar) (c : Option Nat) (n : AV) : AV := match c with
 | none => n
 | some j => match ar σ x with
  | .agg cs => .agg ((cs.map rdF1).set j n)
  | _ => .dead
def backA (c : Option Nat) (out : AV) : Option AV := match c with
 | none => some out
 | some j => match out with
  | .agg cs => cs[j]?
  | _ => none
def cleanL : AV → Bool
 | .sc _ | .sl .. | .own .. => true
 | _ => false
def clean : AV → Bool
 | .agg cs => cs.all cleanL
 | .tup cs => cs.all fun
  | .agg l => l.all cleanL
  | a => cleanL a
 | a => cleanL a
def gamAt (g n : Nat) : Option (List Value) := match Gam.find? (fun x => x.1 == g) with
 | some x => if x.2.length = n ∧ x.2.all plainV = true then some x.2 else none
 | none => none
def axs (P : Program) (G : Gi) : List XOp → (Sg → Prop) → Sg → Prop
 | [], K, σ => K σ
 | .o o :: xs, K, σ => aop P G o (axs P G xs K) σ
 | .nilq d neg x :: xs, K, σ => match hd σ x with
  | some (a, _) => (match rowsOf a with
   | some rows => ∀ b : Bool, (b = true → rows = []) → toDst (some d) (.sc (.bool (if neg = true then !b else b))) (axs P G xs K) σ
   | none => False)
  | none => False
 | .gld d g n :: xs, K, σ => match gamAt g n with
  | some cs => toDst (some d) (.agg (cs.map .sc)) (axs P G xs K) σ
  | none => False
 | .bxv d n s :: xs, K, σ => match σ s with
  | .agg cs => cs.length = n ∧ ∀ us : List Value, us.length = n → toDst (some d) (.vb s 0 us) (axs P G xs K) σ
  | _ => False
 | .clo d f x args :: xs, K, σ => match cloA σ f x args with
  | some as => ∃ res, Says P f as res ∧ (match resV 0 res with
   | some v => toDst d v (axs P G xs K) σ
   | none => False)
  | none => False
 | .lnd d f pre x c post :: xs, K, σ => match plcC σ x c, rdFs σ pre, rdFs σ post with
  | some (r, p), some as, some bs => (match sub (σ r) p with
   | some (.own b k rows) => ∃ res out o, SoundAt P f (as ++ lentA σ x c (.own b k rows) :: bs) res ((as.map fun _ => .dead) ++ out :: bs.map fun _ => .dead) ∧ backA c out = some o ∧ backOK o = true ∧ clean res = true ∧ (match put (σ r) p o with
    | some t => toDst d res (axs P G xs K) (upd (killS G r σ) r t)
    | none => False)
   | _ => False)
  | _, _, _ => False
 | .lend d f x rest :: xs, K, σ => match plc σ x, rdSc σ rest with
  | some (r, p), some as => (match sub (σ r) p with
   | some (.own b k rows) => ∃ res out, SoundAt P f (.own b k rows :: as) res (out :: as.map fun _ => .dead) ∧ backOK out = true ∧ (match put (σ r) p out, resV 2 res with
    | some t, some v => toDst d v (axs P G xs K) (upd (killS G r σ) r t)
    | _, _ => False)
   | _ => False)
  | _, _ => False
def gzS (G : Gi) (r : Nat) (p : List Step) (σ : Sg) : Option Sg := match sub (σ r) p with
 | some (.sl _ _ _) => some σ
 | _ => match fzAt G r p σ with
  | some (_, τ) => some τ
  | none => none
def aopsB (P : Program) (G : Gi) (f : Flo) : List IOper → (Sg → Prop) → Sg → Prop
 | [], K, σ => K σ
 | o :: os, K, σ => isBx f.kb f.off (σ f.r) = true ∧ aop P G o (aopsB P G f os K) σ
def Exit.seqA (next : Sg → Prop) (Q : Exit → Sg → Prop) : Exit → Sg → Prop
 | .normal, σ => next σ
 | e, σ => Q e σ
def Exit.blockA (id : Nat) (Q : Exit → Sg → Prop) : Exit → Sg → Prop
 | .exit i, σ => if i = id then Q .normal σ else Q (.exit i) σ
 | e, σ => Q e σ
def awp (P : Program) (G : Gi) : IC → (Exit → Sg → Prop) → Sg → Prop
 | .skip, Q, σ => Q .normal σ
 | .bad, _, _ => False
 | .rex xs, Q, σ => axs P G xs (Q .normal) σ
 | .gz r p a, Q, σ => match gzS G r p σ with
  | some τ => awp P G a Q τ
  | none => False
 | .reg ops, Q, σ => aops P G ops (Q .normal) σ
 | .flo f a b, Q, σ => aopsB P G f a (aops P G b (Q .normal)) σ
 | .flc _ _ _ _ ops, Q, σ => aops P G ops (Q .normal) σ
 | .seq a b, Q, σ => awp P G a (Exit.seqA (awp P G b Q) Q) σ
 | .cond c a b, Q, σ => match ar σ c with
  | .sc (.bool x) => if x = true then awp P G a Q σ else awp P G b Q σ
  | _ => False
 | .block id a, Q, σ => awp P G a (Exit.blockA id Q) σ
 | .loop a, Q, σ => ∃ I : Nat → Sg → Prop, (∃ n, I n σ) ∧ ∀ n τ, I n τ → awp P G a (Exit.seqA (fun τ' => ∃ n', n' < n ∧ I n' τ') Q) τ
 | .exit id, Q, σ => Q (.exit id) σ
 | .ret, Q, σ => Q .ret σ
theorem awp_skip (P : Program) (G : Gi) (Q : Exit → Sg → Prop) (σ : Sg) : awp P G .skip Q σ = Q .normal σ := (rfl)
theorem awp_reg (P : Program) (G : Gi) (ops : List IOper) (Q : Exit → Sg → Prop) (σ : Sg) : awp P G (.reg ops) Q σ = aops P G ops (Q .normal) σ := (rfl)
theorem awp_rex (P : Program) (G : Gi) (xs : List XOp) (Q : Exit → Sg → Prop) (σ : Sg) : awp P G (.rex xs) Q σ = axs P G xs (Q .normal) σ := (rfl)
theorem awp_seq (P : Program) (G : Gi) (a b : IC) (Q : Exit → Sg → Prop) (σ : Sg) : awp P G (.seq a b) Q σ = awp P G a (Exit.seqA (awp P G b Q) Q) σ := (rfl)
theorem awp_block (P : Program) (G : Gi) (id : Nat) (a : IC) (Q : Exit → Sg → Prop) (σ : Sg) : awp P G (.block id a) Q σ = awp P G a (Exit.blockA id Q) σ := (rfl)
theorem awp_exit (P : Program) (G : Gi) (id : Nat) (Q : Exit → Sg → Prop) (σ : Sg) : awp P G (.exit id) Q σ = Q (.exit id) σ := (rfl)
theorem awp_ret (P : Program) (G : Gi) (Q : Exit → Sg → Prop) (σ : Sg) : awp P G .ret Q σ = Q .ret σ := (rfl)
theorem awp_cond (P : Program) (G : Gi) (c : Ar) (a b : IC) (Q : Exit → Sg → Prop) (σ : Sg) : awp P G (.cond c a b) Q σ = match ar σ c with
 | .sc (.bool x) => if x = true then awp P G a Q σ else awp P G b Q σ
 | _ => False := rfl
theorem awp_loop {P : Program} {G : Gi} {a : IC} {Q : Exit → Sg → Prop} {σ : Sg} (I : Nat → Sg → Prop) (n : Nat) (h : I n σ)
 (round : ∀ n τ, I n τ → awp P G a (Exit.seqA (fun τ' => ∃ n', n' < n ∧ I n' τ') Q) τ) : awp P G (.loop a) Q σ := ⟨I, ⟨n, h⟩, round⟩
theorem seqA_normal (next : Sg → Prop) (Q : Exit → Sg → Prop) (σ : Sg) : Exit.seqA next Q .normal σ = next σ := (rfl)
theorem seqA_exit (next : Sg → Prop) (Q : Exit → Sg → Prop) (id : Nat) (σ : Sg) : Exit.seqA next Q (.exit id) σ = Q (.exit id) σ := (rfl)
theorem seqA_ret (next : Sg → Prop) (Q : Exit → Sg → Prop) (σ : Sg) : Exit.seqA next Q .ret σ = Q .ret σ := (rfl)
theorem blockA_normal (id : Nat) (Q : Exit → Sg → Prop) (σ : Sg) : Exit.blockA id Q .normal σ = Q .normal σ := (rfl)
theorem blockA_exit (id i : Nat) (Q : Exit → Sg → Prop) (σ : Sg) : Exit.blockA id Q (.exit i) σ = if i = id then Q .normal σ else Q (.exit i) σ := (rfl)
theorem blockA_ret (id : Nat) (Q : Exit → Sg → Prop) (σ : Sg) : Exit.blockA id Q .ret σ = Q .ret σ := (rfl)
inductive RV where
 | tmp (t : Nat)
 | cell (a : Nat) (agg : Bool) (n : Nat)
 deriving Inhabited
def takeRes (G : Gi) : List RV → Sg → Option (List AV × Sg)
 | [], σ => some ([], σ)
 | .tmp t :: l, σ => match tk G (.t t) σ with
  | some (v, τ) => match takeRes G l τ with
   | some (vs, τ') => some (v :: vs, τ')
   | none => none
  | none => none
 | .cell a agg n :: l, σ => match σ a with
  | .own true _ [row] => match asCells agg n row with
   | some v => match takeRes G l (upd (killS G a σ) a .dead) with
    | some (vs, τ') => some (v :: vs, τ')
    | none => none
   | none => none
  | _ => none
def one : List AV → AV
 | [v] => v
 | vs => .tup vs
def Ends (G : Gi) (rs : List RV) (res : AV) (e : Exit) (σ : Sg) : Prop :=
 (match e with | .normal => True | .ret => True | _ => False) ∧ ∃ vs τ, takeRes G rs σ = some (vs, τ) ∧ one vs = res
def start (args : List AV) : Sg := fun s => args.getD s .un
end Go.Abs
namespace Go.Abs
variable {w w' : World} {S S' : Nat → Prop} {F F' : Nat → Prop} {G : Gi} {δ δ' : Nat → DV} {Fr : Nat → Nat → Prop}
theorem killn_al (n d r : Nat) (p : List Step) : killn n d (.al r p) = if r = d ∧ n ≤ p.length then .dead else .al r p := by simp [killn]
theorem killn_adr (n d r : Nat) (p : List Step) (i j k : Nat) : killn n d (.adr r p i j k) = if r = d ∧ n ≤ p.length then .dead else .adr r p i j k := by simp [killn]
@[simp] theorem killn_agg (n d : Nat) (cs : List AV) : killn n d (.agg cs) = .agg (cs.map (killn n d)) := by simp [killn, killnL_eq]
@[simp] theorem killn_tup (n d : Nat) (cs : List AV) : killn n d (.tup cs) = .tup (cs.map (killn n d)) := by simp [killn, killnL_eq]
theorem killn_vb (n d s o : Nat) (us : List Value) : killn n d (.vb s o us) = if s = d then .dead else .vb s o us := by simp [killn]
theorem killn_cl (n d f : Nat) (rs : List (Nat × List Step)) : killn n d (.cl f rs) = if (rs.all fun x => x.1 != d) = true then .cl f rs else .dead := by simp [killn]
@[simp] theorem killnD_lf (n d : Nat) (a : AV) (v : Value) : killnD n d (.lf a v) = .lf (killn n d a) v := by simp [killnD]
@[simp] theorem killnD_own (n d : Nat) (h : Value) (b : Bool) (k : Nat) (rows : List (List DV)) : killnD n d (.own h b k rows) = .own h b k rows := by simp [killnD]
@[simp] theorem killnD_agg (n d : Nat) (cs : List DV) : killnD n d (.agg cs) = .agg (cs.map (killnD n d)) := by simp [killnD, killnDL_eq]
@[simp] theorem killnD_tup (n d : Nat) (cs : List DV) : killnD n d (.tup cs) = .tup (cs.map (killnD n d)) := by simp [killnD, killnDL_eq]
theorem killn_rin (L : List Nat) (n d : Nat) : ∀ (a : AV), rin L a = true → rin L (killn n d a) = true
 | .al r p, h => by
  rw [killn_al]; split
  · simp
  · exact h
 | .adr r p i j k, h => by
  rw [killn_adr]; split
  · simp
  · exact h
 | .agg cs, h => by
  rw [rin_agg, List.all_eq_true] at h
  rw [killn_agg, rin_agg, List.all_map, List.all_eq_true]
  intro c hc
  exact killn_rin L n d c (h c hc)
 | .tup cs, h => by
  rw [rin_tup, List.all_eq_true] at h
  rw [killn_tup, rin_tup, List.all_map, List.all_eq_true]
  intro c hc
  exact killn_rin L n d c (h c hc)
 | .sc _, _ => by simp [killn]
 | .sl .., _ => by simp [killn]
 | .own .., _ => by simp [killn]
 | .fp _, _ => by simp [killn]
 | .dead, _ => by simp [killn]
 | .un, _ => by simp [killn]
 | .fcl .., _ => by simp [killn, rin]
 | .vb s o us, h => by
  rw [killn_vb]; split
  · simp
  · exact h
 | .cl f rs, h => by
  rw [killn_cl]; split
  · exact h
  · simp
theorem killn_leaf {a : AV} (n d : Nat) {v : Value} (ha : LeafOK w S a v) : LeafOK w S (killn n d a) v := by
 cases a with
 | al r p => rw [killn_al]; split <;> simp [LeafOK]
 | adr r p i j k => rw [killn_adr]; split <;> simp [LeafOK]
 | cl f rs => rw [killn_cl]; split <;> trivial
 | vb s o us => rw [killn_vb]; split <;> first | trivial | exact ha
 | agg cs => exact ha.elim
 | tup cs => exact ha.elim
 | own => exact ha.elim
 | _ => simpa [killn] using ha
theorem killnD_facts {x : DV} (n d : Nat) (h : Ok w S x F) : (killnD n d x).er = killn n d x.er ∧ (killnD n d x).ann = x.ann ∧ Ok w S (killnD n d x) F := by
 induction h with
 | lf a v F ha hF =>
  refine ⟨by simp, by simp, ?_⟩
  rw [killnD_lf]
  exact .lf _ v F (killn_leaf n d ha) hF
 | nil k F hF => exact ⟨by simp [killn], by simp, by rw [killnD_own]; exact .nil k F hF⟩
 | own bx k rows b c arr E Fs F hb hk hcap hSb hv hr hd hval hbF hF ih =>
  exact ⟨by simp [killn], by simp, by rw [killnD_own]; exact .own bx k rows b c arr E Fs F hb hk hcap hSb hv hr hd hval hbF hF⟩
 | agg cs Fs F hr hd hval hF ih =>
  have key : ∀ e ∈ cs, (killnD n d e).er = killn n d e.er ∧ (killnD n d e).ann = e.ann := by
   intro e he
   obtain ⟨i, hi⟩ := List.getElem?_of_mem he
   exact ⟨(ih i e hi).1, (ih i e hi).2.1⟩
  refine ⟨?_, ?_, ?_⟩
  · simp only [killnD_agg, er_agg, killn_agg, List.map_map, AV.agg.injEq]
    exact List.map_congr_left fun e he => (key e he).1
  · simp only [killnD_agg, ann_agg, List.map_map]
    congr 2
    exact List.map_congr_left fun e he => (key e he).2
  · rw [killnD_agg]
    refine .agg _ Fs F ?_ hd ?_ hF
    · intro i e h1
      simp only [List.getElem?_map, Option.map_eq_some_iff] at h1
      obtain ⟨e0, h0, rfl⟩ := h1
      exact (ih i e0 h0).2.2
    · intro i x hx
      obtain ⟨e, h1⟩ := hval i x hx
      exact ⟨killnD n d e, by simp [h1]⟩
 | tup cs Fs F hr hd hval hF ih =>
  have key : ∀ e ∈ cs, (killnD n d e).er = killn n d e.er ∧ (killnD n d e).ann = e.ann := by
   intro e he
   obtain ⟨i, hi⟩ := List.getElem?_of_mem he
   exact ⟨(ih i e hi).1, (ih i e hi).2.1⟩
  refine ⟨?_, ?_, ?_⟩
  · simp only [killnD_tup, er_tup, killn_tup, List.map_map, AV.tup.injEq]
    exact List.map_congr_left fun e he => (key e he).1
  · simp only [killnD_tup, ann_tup, List.map_map]
    congr 2
    exact List.map_congr_left fun e he => (key e he).2
  · rw [killnD_tup]
    refine .tup _ Fs F ?_ hd ?_ hF
    · intro i e h1
      simp only [List.getElem?_map, Option.map_eq_some_iff] at h1
      obtain ⟨e0, h0, rfl⟩ := h1
      exact (ih i e0 h0).2.2
    · intro i x hx
      obtain ⟨e, h1⟩ := hval i x hx
      exact ⟨killnD n d e, by simp [h1]⟩
theorem AlOK.killn {x : DV} (n d : Nat) (h : AlOK δ x) (hl : Lfy x)
 (hk : ∀ r p v bx k rows, (r ≠ d ∨ p.length < n) → subD (δ r) p = some (.own v bx k rows) → ∃ rows', subD (δ' r) p = some (.own v bx k rows')) (hk2 : ∀ r, r ≠ d → (δ' r).ann = (δ r).ann) : AlOK δ' (killnD n d x) := by
 induction h with
 | lf a v h =>
  rw [killnD_lf]
  refine .lf _ v ?_
  cases hl with
  | lf _ _ hl =>
   cases a with
   | al r p =>
    rw [killn_al]
    split
    · trivial
    · rename_i e
      obtain ⟨bx, k, rows, h⟩ := h
      obtain ⟨rows', h'⟩ := hk r p v bx k rows (by omega) h
      exact ⟨bx, k, rows', h'⟩
   | adr r p i j k =>
    rw [killn_adr]
    split
    · trivial
    · obtain ⟨hh, bx, rows, b, h, hb, rfl⟩ := h
      obtain ⟨rows', h'⟩ := hk r p hh bx k rows (by omega) h
      exact ⟨hh, bx, rows', b, h', hb, rfl⟩
   | vb s o us =>
    rw [killn_vb]
    split
    · trivial
    · exact (hk2 s (by assumption)).trans h
   | cl f rs =>
    rw [killn_cl]
    split
    · rename_i hr
      obtain ⟨vs, h1, h2, h3⟩ := h
      refine ⟨vs, h1, h2, fun i r p u hi hu => ?_⟩
      obtain ⟨bx, k, rows, hs⟩ := h3 i r p u hi hu
      rw [List.all_eq_true] at hr
      obtain ⟨rows', h'⟩ := hk r p u bx k rows (.inl (by simpa using hr _ (List.mem_of_getElem? hi))) hs
      exact ⟨bx, k, rows', h'⟩
    · trivial
   | agg cs => simp [leafy] at hl
   | tup cs => simp [leafy] at hl
   | own => simp [leafy] at hl
   | _ => simp only [Abs.killn]; trivial
 | own => rw [killnD_own]; exact .own _ _ _ _
 | agg cs _ ih =>
  rw [killnD_agg]
  cases hl with
  | agg _ hl =>
   refine .agg _ fun i d' hd => ?_
   simp only [List.getElem?_map, Option.map_eq_some_iff] at hd
   obtain ⟨e, he, rfl⟩ := hd
   exact ih i e he (hl i e he)
 | tup cs _ ih =>
  rw [killnD_tup]
  cases hl with
  | tup _ hl =>
   refine .tup _ fun i d' hd => ?_
   simp only [List.getElem?_map, Option.map_eq_some_iff] at hd
   obtain ⟨e, he, rfl⟩ := hd
   exact ih i e he (hl i e he)
theorem St.killnδ_er (h : St G w S δ Fr) (n d s : Nat) : (killnδ G n d δ s).er = killnS G n d (fun s => (δ s).er) s := by
 unfold killnδ killnS
 split
 · exact (killnD_facts n d (h.ok s)).1
 · rfl
theorem St.killnδ_ann (h : St G w S δ Fr) (n d s : Nat) : (killnδ G n d δ s).ann = (δ s).ann := by
 unfold killnδ
 split
 · exact (killnD_facts n d (h.ok s)).2.1
 · rfl
theorem St.killnδ_ok (h : St G w S δ Fr) (n d s : Nat) : Ok w S (killnδ G n d δ s) (Fr s) := by
 unfold killnδ
 split
 · exact (killnD_facts n d (h.ok s)).2.2
 · exact h.ok s
theorem St.killnδ_rt (h : St G w S δ Fr) (n d s : Nat) : rin (G.rtOf s) (killnδ G n d δ s).er = true := by
 unfold killnδ
 split
 · rw [(killnD_facts n d (h.ok s)).1]; exact killn_rin _ n d _ (h.rt s)
 · exact h.rt s
theorem subD_killnD_own {t : DV} (n d : Nat) (q : List Step) {v : Value} {bx : Bool} {k : Nat} {rows : List (List DV)} : Abs.subD (killnD n d t) q = some (.own v bx k rows) ↔ Abs.subD t q = some (.own v bx k rows) := by
 induction q generalizing t with
 | nil =>
  simp only [Abs.subD, Option.some.injEq]
  cases t <;> simp
 | cons s q ih =>
  obtain ⟨i, j, k0⟩ := s
  cases t with
  | lf a v => simp [Abs.subD]
  | own h b k1 rows1 => rw [killnD_own]
  | agg cs =>
   simp only [killnD_agg, Abs.subD, List.getElem?_map]
   cases hj : cs[j]? with
   | none => simp
   | some c => simp only [Option.map_some]; exact ih
  | tup cs =>
   simp only [killnD_tup, Abs.subD, List.getElem?_map]
   cases hj : cs[j]? with
   | none => simp
   | some c => simp only [Option.map_some]; exact ih
theorem killnδ_own (n d r : Nat) (p : List Step) {v : Value} {bx : Bool} {k : Nat} {rows : List (List DV)} : Abs.subD (killnδ G n d δ r) p = some (.own v bx k rows) ↔ Abs.subD (δ r) p = some (.own v bx k rows) := by
 unfold killnδ
 split
 · exact subD_killnD_own n d p
 · exact Iff.rfl
theorem own_above {t t' y : DV} (q : List Step) : ∀ (p : List Step), q.length < p.length → putD t p y = some t' → ∀ {v : Value} {bx : Bool} {k : Nat} {rows : List (List DV)}, Abs.subD t q = some (.own v bx k rows) → ∃ rows', Abs.subD t' q = some (.own v bx k rows') := by
 induction q generalizing t t' with
 | nil =>
  intro p hl hp v bx k rows hq
  simp only [Abs.subD, Option.some.injEq] at hq
  subst hq
  match p, hl with
  | (i, j, k0) :: p, _ =>
   simp only [putD] at hp
   split at hp
   · split at hp
     · split at hp
       · simp only [Option.some.injEq] at hp; subst hp; exact ⟨_, by simp [Abs.subD]; rfl⟩
       · cases hp
     · cases hp
   · cases hp
 | cons s q ih =>
  intro p hl hp v bx k rows hq
  obtain ⟨i, j, k0⟩ := s
  match p, hl with
  | (i', j', k') :: p, hl =>
   have hl' : q.length < p.length := by simpa using hl
   cases t with
   | lf a v => simp [Abs.subD] at hq
   | own h b k1 rows1 =>
    simp only [putD] at hp
    split at hp
    · rename_i row hrow
      split at hp
      · rename_i c hc
        split at hp
        · rename_i c' hc'
          simp only [Option.some.injEq] at hp
          subst hp
          simp only [Abs.subD] at hq ⊢
          cases hi : rows1[i]? with
          | none => simp [hi] at hq
          | some row2 =>
           simp only [hi] at hq
           cases hj : row2[j]? with
           | none => simp [hj] at hq
           | some c2 =>
            simp only [hj] at hq
            have hi2 : i < rows1.length := (List.getElem?_eq_some_iff.1 hi).1
            have hj2 : j < row2.length := (List.getElem?_eq_some_iff.1 hj).1
            by_cases e1 : i' = i
            · subst e1
              rw [hi] at hrow; cases hrow
              rw [List.getElem?_set_self hi2]
              by_cases e2 : j' = j
              · subst e2
                rw [hj] at hc; cases hc
                simp only [List.getElem?_set_self hj2]
                exact ih p hl' hc' hq
              · simp only [List.getElem?_set_ne e2, hj]
                exact ⟨rows, hq⟩
            · rw [List.getElem?_set_ne e1]
              simp only [hi, hj]
              exact ⟨rows, hq⟩
        · cases hp
      · cases hp
    · cases hp
   | agg cs =>
    simp only [putD] at hp
    split at hp
    · rename_i c hc
      split at hp
      · rename_i c' hc'
        simp only [Option.some.injEq] at hp
        subst hp
        simp only [Abs.subD] at hq ⊢
        cases hj : cs[j]? with
        | none => simp [hj] at hq
        | some c2 =>
         simp only [hj] at hq
         have hj2 : j < cs.length := (List.getElem?_eq_some_iff.1 hj).1
         by_cases e2 : j' = j
         · subst e2
           rw [hj] at hc; cases hc
           simp only [List.getElem?_set_self hj2]
           exact ih p hl' hc' hq
         · simp only [List.getElem?_set_ne e2, hj]
           exact ⟨rows, hq⟩
      · cases hp
    · cases hp
   | tup cs =>
    simp only [putD] at hp
    split at hp
    · rename_i c hc
      split at hp
      · rename_i c' hc'
        simp only [Option.some.injEq] at hp
        subst hp
        simp only [Abs.subD] at hq ⊢
        cases hj : cs[j]? with
        | none => simp [hj] at hq
        | some c2 =>
         simp only [hj] at hq
         have hj2 : j < cs.length := (List.getElem?_eq_some_iff.1 hj).1
         by_cases e2 : j' = j
         · subst e2
           rw [hj] at hc; cases hc
           simp only [List.getElem?_set_self hj2]
           exact ih p hl' hc' hq
         · simp only [List.getElem?_set_ne e2, hj]
           exact ⟨rows, hq⟩
      · cases hp
    · cases hp
theorem St.setn (h : St G w S δ Fr) (n d : Nat) (dn : DV) (Fn : Nat → Prop) (hw : ∀ b, S b → w'.heap[b]? = w.heap[b]?) (hf : ∀ s, s ≠ d → ∀ x, Fr s x → w'.heap[x]? = w.heap[x]?)
 (hSS : ∀ b, S b → S' b) (hfS : ∀ s, s ≠ d → ∀ x, Fr s x → ¬ S' x) (hn : Ok w' S' dn Fn) (hdis : ∀ s, s ≠ d → ∀ x, Fn x → ¬ Fr s x) (hrt : rin (G.rtOf d) dn.er = true) (hal : AlOK δ dn)
 (hab : ∀ p v bx k rows, p.length < n → Abs.subD (δ d) p = some (.own v bx k rows) → ∃ rows', Abs.subD dn p = some (.own v bx k rows')) :
 St G w' S' (upd (killnδ G n d δ) d dn) (upd Fr d Fn) := by
 have hkeep : ∀ r p v bx k rows, (r ≠ d ∨ p.length < n) → Abs.subD (δ r) p = some (.own v bx k rows) → ∃ rows', Abs.subD (upd (killnδ G n d δ) d dn r) p = some (.own v bx k rows') := by
  intro r p v bx k rows hr hq
  by_cases e : r = d
  · subst e
    rw [upd_same]
    exact hab p v bx k rows (by omega) hq
  · rw [upd_ne _ _ e]
    exact ⟨rows, (killnδ_own n d r p).2 hq⟩
 have hkeep2 : ∀ r, r ≠ d → (upd (killnδ G n d δ) d dn r).ann = (δ r).ann := by
  intro r hr
  rw [upd_ne _ _ hr]
  exact h.killnδ_ann n d r
 refine ⟨?_, ?_, ?_, ?_, h.self⟩
 · intro s
   by_cases hs : s = d
   · subst hs; rw [upd_same, upd_same]; exact hn
   · rw [upd_ne _ _ hs, upd_ne _ _ hs]
     exact (h.killnδ_ok n d s).mono hw (hf s hs) hSS (hfS s hs)
 · intro s t x h1 h2
   by_cases hs : s = d <;> by_cases ht : t = d
   · omega
   · subst hs
     rw [upd_same] at h1
     rw [upd_ne _ _ ht] at h2
     exact absurd h2 (hdis t ht x h1)
   · subst ht
     rw [upd_same] at h2
     rw [upd_ne _ _ hs] at h1
     exact absurd h1 (hdis s hs x h2)
   · rw [upd_ne _ _ hs] at h1
     rw [upd_ne _ _ ht] at h2
     exact h.dis s t x h1 h2
 · intro s
   by_cases hs : s = d
   · subst hs
     rw [upd_same]
     refine hal.mono hrt (fun r hr p v bx k rows hq => hkeep r p v bx k rows (.inl ?_) hq) (fun r hr => hkeep2 r ?_)
     · rintro rfl; exact h.self _ hr
     · rintro rfl; exact h.self _ hr
   · rw [upd_ne _ _ hs]
     unfold killnδ
     split
     · exact (h.al s).killn n d (h.ok s).lfy hkeep hkeep2
     · rename_i hn
       have hd : d ∉ G.rtOf s := fun hm => hn (Gi.mem_als hm)
       refine (h.al s).mono (h.rt s) (fun r hr p v bx k rows hq => hkeep r p v bx k rows (.inl ?_) hq) (fun r hr => hkeep2 r ?_)
       · rintro rfl; exact hd hr
       · rintro rfl; exact hd hr
 · intro s
   by_cases hs : s = d
   · subst hs; rw [upd_same]; exact hrt
   · rw [upd_ne _ _ hs]; exact h.killnδ_rt n d s
end Go.Abs
namespace Go.Abs
variable {w w' : World} {S S' : Nat → Prop} {G : Gi} {δ : Nat → DV} {Fr : Nat → Nat → Prop}
structure Nx (w : World) (S U : Nat → Prop) (w' : World) (S' U' : Nat → Prop) : Prop where
 os : w'.os = w.os
 tape : w'.tape = w.tape
 output : w'.output = w.output
 size : w.heap.size ≤ w'.heap.size
 block : ∀ b, b < w.heap.size → ¬ U b → w'.heap[b]? = w.heap[b]?
 sub : ∀ b, S b → S' b
 sup : ∀ b, S' b → S b ∨ U b ∨ w.heap.size ≤ b
 lt : (∀ b, S b → b < w.heap.size) → ∀ b, S' b → b < w'.heap.size
 own : ∀ x, U' x → U x ∨ w.heap.size ≤ x
theorem Nx.refl (w : World) (S U : Nat → Prop) : Nx w S U w S U :=
 ⟨rfl, rfl, rfl, Nat.le_refl _, fun _ _ _ => rfl, fun _ h => h, fun _ h => .inl h, fun h => h, fun _ h => .inl h⟩
theorem Nx.less {w : World} {S U U' : Nat → Prop} (h : ∀ x, U' x → U x) : Nx w S U w S U' :=
 ⟨rfl, rfl, rfl, Nat.le_refl _, fun _ _ _ => rfl, fun _ h => h, fun _ h => .inl h, fun h => h, fun x hx => .inl (h x hx)⟩
theorem Nx.trans {w w1 w2 : World} {S S1 S2 U U1 U2 : Nat → Prop} (h : Nx w S U w1 S1 U1) (k : Nx w1 S1 U1 w2 S2 U2) : Nx w S U w2 S2 U2 := by
 refine ⟨k.os.trans h.os, k.tape.trans h.tape, k.output.trans h.output, Nat.le_trans h.size k.size, ?_, fun b hb => k.sub b (h.sub b hb), ?_, fun hl b hb => k.lt (h.lt hl) b hb, ?_⟩
 · intro b hb hU
   rw [k.block b (Nat.lt_of_lt_of_le hb h.size) ?_, h.block b hb hU]
   intro hU1
   rcases h.own b hU1 with h1 | h1
   · exact hU h1
   · omega
 · intro b hb
   have hs := h.size
   rcases k.sup b hb with h1 | h1 | h1
   · exact h.sup b h1
   · rcases h.own b h1 with h2 | h2
     · exact .inr (.inl h2)
     · exact .inr (.inr h2)
   · exact .inr (.inr (Nat.le_trans hs h1))
 · intro x hx
   have hs := h.size
   rcases k.own x hx with h1 | h1
   · exact h.own x h1
   · exact .inr (Nat.le_trans hs h1)
abbrev Owned (Fr : Nat → Nat → Prop) : Nat → Prop := fun x => ∃ s, Fr s x
theorem kills_eq (d : Nat) (σ : Sg) : kills (G.als d) d σ = killS G d σ := by
 unfold kills killS
 split
 · rename_i h; funext s; simp [h]
 · rfl
theorem AlOK.dead (v : Value) : AlOK δ (.lf .dead v) := .lf _ _ trivial
theorem St.empty (h : St G w S δ Fr) (s : Nat) :
 St G w S (upd (killδ G s δ) s (.lf .dead (δ s).ann)) (upd Fr s fun _ => False) := by
 refine h.set s _ _ (fun _ _ => rfl) (fun _ _ _ _ => rfl) (fun _ h => h) (fun t _ x hx => (h.ok t).notS x hx) (.lf _ _ _ trivial (fun _ h => h)) (fun _ _ _ h => h.elim) (by simp) (AlOK.dead _)
theorem er_upd_kill (h : St G w S δ Fr) (d : Nat) (x : DV) : (fun s => (upd (killδ G d δ) d x s).er) = upd (killS G d (fun s => (δ s).er)) d x.er := by
 funext s
 by_cases hs : s = d
 · subst hs; simp [upd]
 · simp only [upd, hs, if_false]; exact h.killδ_er d s
theorem ann_upd_kill (h : St G w S δ Fr) (d : Nat) (x : DV) (s : Nat) : (upd (killδ G d δ) d x s).ann = if s = d then x.ann else (δ s).ann := by
 by_cases hs : s = d
 · subst hs; simp [upd]
 · simp only [upd, hs, if_false]; exact h.killδ_ann d s
theorem own_of_putD {t t' : DV} {a : AV} {v0 : Value} (p : List Step) (hp : putD t p (.lf a v0) = some t') (q : List Step) {v : Value} {bx : Bool} {k : Nat} {rows : List (List DV)}
 (hq : subD t' q = some (.own v bx k rows)) : ∃ rows', subD t q = some (.own v bx k rows') := by
 induction p generalizing t t' q with
 | nil =>
  simp only [putD, Option.some.injEq] at hp
  subst hp
  cases q with
  | nil => simp [subD] at hq
  | cons s q => simp [subD] at hq
 | cons s p ih =>
  obtain ⟨i, j, k0⟩ := s
  cases t with
  | lf a v => simp [putD] at hp
  | own hh b k1 rows1 =>
   simp only [putD] at hp
   cases hi : rows1[i]? with
   | none => simp [hi] at hp
   | some row =>
    simp only [hi] at hp
    cases hj : row[j]? with
    | none => simp [hj] at hp
    | some c =>
     simp only [hj] at hp
     cases hc : putD c p (.lf a v0) with
     | none => simp [hc] at hp
     | some c' =>
      simp only [hc, Option.some.injEq] at hp
      subst hp
      have hlt := (List.getElem?_eq_some_iff.1 hi).1
      have hji := (List.getElem?_eq_some_iff.1 hj).1
      cases q with
      | nil =>
       simp only [subD, Option.some.injEq, DV.own.injEq] at hq
       obtain ⟨rfl, rfl, rfl, _⟩ := hq
       exact ⟨_, rfl⟩
      | cons s2 q =>
       obtain ⟨i2, j2, k2⟩ := s2
       simp only [subD] at hq ⊢
       by_cases h1 : i2 = i
       · subst h1
         simp only [List.getElem?_set_self hlt] at hq
         simp only [hi]
         by_cases h2 : j2 = j
         · subst h2
           simp only [List.getElem?_set_self hji] at hq
           simp only [hj]
           exact ih hc q hq
         · rw [List.getElem?_set_ne (by omega)] at hq
           exact ⟨rows, hq⟩
       · rw [List.getElem?_set_ne (by omega)] at hq
         exact ⟨rows, hq⟩
  | agg cs =>
   simp only [putD] at hp
   cases hj : cs[j]? with
   | none => simp [hj] at hp
   | some c =>
    simp only [hj] at hp
    cases hc : putD c p (.lf a v0) with
    | none => simp [hc] at hp
    | some c' =>
     simp only [hc, Option.some.injEq] at hp
     subst hp
     have hji := (List.getElem?_eq_some_iff.1 hj).1
     cases q with
     | nil => simp [subD] at hq
     | cons s2 q =>
      obtain ⟨i2, j2, k2⟩ := s2
      simp only [subD] at hq ⊢
      by_cases h2 : j2 = j
      · subst h2
        simp only [List.getElem?_set_self hji] at hq
        simp only [hj]
        exact ih hc q hq
      · rw [List.getElem?_set_ne (by omega)] at hq
        exact ⟨rows, hq⟩
  | tup cs =>
   simp only [putD] at hp
   cases hj : cs[j]? with
   | none => simp [hj] at hp
   | some c =>
    simp only [hj] at hp
    cases hc : putD c p (.lf a v0) with
    | none => simp [hc] at hp
    | some c' =>
     simp only [hc, Option.some.injEq] at hp
     subst hp
     have hji := (List.getElem?_eq_some_iff.1 hj).1
     cases q with
     | nil => simp [subD] at hq
     | cons s2 q =>
      obtain ⟨i2, j2, k2⟩ := s2
      simp only [subD] at hq ⊢
      by_cases h2 : j2 = j
      · subst h2
        simp only [List.getElem?_set_self hji] at hq
        simp only [hj]
        exact ih hc q hq
      · rw [List.getElem?_set_ne (by omega)] at hq
        exact ⟨rows, hq⟩
theorem putD_al {t t' new : DV} (p : List Step) (hp : putD t p new = some t') (ht : AlOK δ t) (hn : AlOK δ new) : AlOK δ t' := by
 induction p generalizing t t' with
 | nil => simp only [putD, Option.some.injEq] at hp; exact hp ▸ hn
 | cons s p ih =>
  obtain ⟨i, j, k⟩ := s
  cases ht with
  | lf a v h => simp [putD] at hp
  | own hh b k1 rows =>
   simp only [putD] at hp
   split at hp
   · split at hp
     · split at hp
       · simp only [Option.some.injEq] at hp; subst hp; exact .own _ _ _ _
       · cases hp
     · cases hp
   · cases hp
  | agg cs hr =>
   simp only [putD] at hp
   split at hp
   · rename_i c hc
     split at hp
     · rename_i c' hc'
       simp only [Option.some.injEq] at hp
       subst hp
       refine .agg _ fun i d hd => ?_
       by_cases hi : i = j
       · subst hi
         rw [List.getElem?_set_self (List.getElem?_eq_some_iff.1 hc).1] at hd
         obtain rfl := Option.some.inj hd
         exact ih hc' (hr i c hc)
       · rw [List.getElem?_set_ne (by omega)] at hd
         exact hr i d hd
     · cases hp
   · cases hp
  | tup cs hr =>
   simp only [putD] at hp
   split at hp
   · rename_i c hc
     split at hp
     · rename_i c' hc'
       simp only [Option.some.injEq] at hp
       subst hp
       refine .tup _ fun i d hd => ?_
       by_cases hi : i = j
       · subst hi
         rw [List.getElem?_set_self (List.getElem?_eq_some_iff.1 hc).1] at hd
         obtain rfl := Option.some.inj hd
         exact ih hc' (hr i c hc)
       · rw [List.getElem?_set_ne (by omega)] at hd
         exact hr i d hd
     · cases hp
   · cases hp
theorem putD_rin {L : List Nat} {t t' new : DV} (p : List Step) (hp : putD t p new = some t') (ht : rin L t.er = true) (hn : rin L new.er = true) : rin L t'.er = true := by
 induction p generalizing t t' with
 | nil => simp only [putD, Option.some.injEq] at hp; exact hp ▸ hn
 | cons s p ih =>
  obtain ⟨i, j, k⟩ := s
  cases t with
  | lf a v => simp [putD] at hp
  | own hh b k1 rows =>
   simp only [putD] at hp
   split at hp
   · split at hp
     · split at hp
       · simp only [Option.some.injEq] at hp; subst hp; simp
       · cases hp
     · cases hp
   · cases hp
  | agg cs =>
   simp only [putD] at hp
   split at hp
   · rename_i c hc
     split at hp
     · rename_i c' hc'
       simp only [Option.some.injEq] at hp
       subst hp
       simp only [er_agg, rin_agg, List.all_map, List.all_eq_true] at ht ⊢
       intro x hx
       rcases List.mem_or_eq_of_mem_set hx with h | rfl
       · exact ht x h
       · exact ih hc' (ht c (List.mem_of_getElem? hc))
     · cases hp
   · cases hp
  | tup cs =>
   simp only [putD] at hp
   split at hp
   · rename_i c hc
     split at hp
     · rename_i c' hc'
       simp only [Option.some.injEq] at hp
       subst hp
       simp only [er_tup, rin_tup, List.all_map, List.all_eq_true] at ht ⊢
       intro x hx
       rcases List.mem_or_eq_of_mem_set hx with h | rfl
       · exact ht x h
       · exact ih hc' (ht c (List.mem_of_getElem? hc))
     · cases hp
   · cases hp
theorem St.replace {n : DV} (h : St G w S δ Fr) (r : Nat) (p : List Step) (hs : subD (δ r) p = some n) :
 ∃ Fo, Ok w S n Fo ∧ (∀ x, Fo x → Fr r x) ∧ ∀ (S' : Nat → Prop) (new : DV), new.ann = n.ann → Ok w S' new (fun _ => False) → (∀ b, S b → S' b) → (∀ t b, Fr t b → ¬ Fo b → ¬ S' b) →
  (∀ L, rin L new.er = true) → AlOK δ new →
  ∃ t F', putD (δ r) p new = some t ∧ St G w S' (upd (killδ G r δ) r t) (upd Fr r F') ∧ (∀ x, F' x ↔ Fr r x ∧ ¬ Fo x) ∧ t.ann = (δ r).ann := by
 obtain ⟨Fo, ho, hsub, hrep⟩ := (h.ok r).replace p hs
 refine ⟨Fo, ho, hsub, ?_⟩
 intro S' new ha hn hSS hfS hroot hal
 obtain ⟨t, F', ht, hok, hiff, hann⟩ := hrep w S' new (fun _ => False) ha hn (fun _ h => h.elim) (fun _ _ => rfl) (fun _ _ _ => rfl) hSS (fun b hb hb' => hfS r b hb hb')
 have hiff' : ∀ x, F' x ↔ Fr r x ∧ ¬ Fo x := fun x => by rw [hiff x]; simp
 refine ⟨t, F', ht, ?_, hiff', hann⟩
 refine h.set r t F' (fun _ _ => rfl) (fun _ _ _ _ => rfl) hSS ?_ hok ?_ (putD_rin p ht (h.rt r) (hroot _)) (putD_al p ht (h.al r) hal)
 · intro s hs' x hx
   exact hfS s x hx fun ho' => hs' (h.dis s r x hx (hsub x ho'))
 · intro s hs' x hx hx'
   exact hs' (h.dis s r x hx' ((hiff' x).1 hx).1)
theorem er_upd_killn (h : St G w S δ Fr) (n d : Nat) (x : DV) : (fun s => (upd (killnδ G n d δ) d x s).er) = upd (killnS G n d (fun s => (δ s).er)) d x.er := by
 funext s
 by_cases hs : s = d
 · subst hs; simp [upd]
 · simp only [upd, hs, if_false]; exact h.killnδ_er n d s
theorem ann_upd_killn (h : St G w S δ Fr) (n d : Nat) (x : DV) (s : Nat) : (upd (killnδ G n d δ) d x s).ann = if s = d then x.ann else (δ s).ann := by
 by_cases hs : s = d
 · subst hs; simp [upd]
 · simp only [upd, hs, if_false]; exact h.killnδ_ann n d s
theorem St.replacen {n : DV} (h : St G w S δ Fr) (r : Nat) (p : List Step) (hs : subD (δ r) p = some n) :
 ∃ Fo, Ok w S n Fo ∧ (∀ x, Fo x → Fr r x) ∧ ∀ (S' : Nat → Prop) (new : DV), new.ann = n.ann → Ok w S' new (fun _ => False) → (∀ b, S b → S' b) → (∀ t b, Fr t b → ¬ Fo b → ¬ S' b) →
  (∀ L, rin L new.er = true) → AlOK δ new →
  ∃ t F', putD (δ r) p new = some t ∧ St G w S' (upd (killnδ G p.length r δ) r t) (upd Fr r F') ∧ (∀ x, F' x ↔ Fr r x ∧ ¬ Fo x) ∧ t.ann = (δ r).ann := by
 obtain ⟨Fo, ho, hsub, hrep⟩ := (h.ok r).replace p hs
 refine ⟨Fo, ho, hsub, ?_⟩
 intro S' new ha hn hSS hfS hroot hal
 obtain ⟨t, F', ht, hok, hiff, hann⟩ := hrep w S' new (fun _ => False) ha hn (fun _ h => h.elim) (fun _ _ => rfl) (fun _ _ _ => rfl) hSS (fun b hb hb' => hfS r b hb hb')
 have hiff' : ∀ x, F' x ↔ Fr r x ∧ ¬ Fo x := fun x => by rw [hiff x]; simp
 refine ⟨t, F', ht, ?_, hiff', hann⟩
 refine h.setn p.length r t F' (fun _ _ => rfl) (fun _ _ _ _ => rfl) hSS ?_ hok ?_ (putD_rin p ht (h.rt r) (hroot _)) (putD_al p ht (h.al r) hal) ?_
 · intro s hs' x hx
   exact hfS s x hx fun ho' => hs' (h.dis s r x hx (hsub x ho'))
 · intro s hs' x hx hx'
   exact hs' (h.dis s r x hx' ((hiff' x).1 hx).1)
 · intro q v bx k rows hq hsq
   exact own_above q p hq ht hsq
theorem St.tk1 (h : St G w S δ Fr) {r : Nat} {p : List Step} {a : AV} {τ : Sg} (ht : Abs.tk1 G r p (fun s => (δ s).er) = some (a, τ)) :
 ∃ δ' F' D Ff, St G w S δ' F' ∧ (fun s => (δ' s).er) = τ ∧ (∀ s, (δ' s).ann = (δ s).ann) ∧ Ok w S D Ff ∧ D.er = a ∧ (∃ v bx k rows, D = .own v bx k rows) ∧ subD (δ r) p = some D ∧ (∀ s x, F' s x → ¬ Ff x) ∧
  (∀ x, Owned F' x ∨ Ff x → Owned Fr x) ∧ (∀ q v bx k rows, subD (δ' r) q = some (.own v bx k rows) → ∃ rows', subD (δ r) q = some (.own v bx k rows')) ∧ (∀ s, s ≠ r → δ' s = killnδ G p.length r δ s) := by
 unfold Abs.tk1 at ht
 split at ht
 · rename_i b k rows hs
   split at ht
   · rename_i t hp
     simp only [Option.some.injEq, Prod.mk.injEq] at ht
     obtain ⟨rfl, rfl⟩ := ht
     obtain ⟨D, hD, hDe⟩ := subD_of_sub (h.ok r).lfy hs
     obtain ⟨Fo, ho, hsub, hrep⟩ := h.replacen r p hD
     obtain ⟨td, F', htd, hst, hiff, hann⟩ := hrep S (.lf .dead D.ann) (by simp) (.lf _ _ _ trivial (fun _ h => h)) (fun _ h => h) (fun t b hb _ => (h.ok t).notS b hb) (by simp) (AlOK.dead _)
     have hte : td.er = t := by
      obtain ⟨t', h1, h2⟩ := putD_of_put (d := δ r) (p := p) (a := t) (.lf .dead D.ann) (h.ok r).lfy (by simpa using hp)
      rw [htd] at h1
      obtain rfl := Option.some.inj h1
      exact h2
     have hown : ∃ v bx k rows, D = .own v bx k rows := by
      have := ho.lfy
      cases D with
      | own v bx k rows => exact ⟨v, bx, k, rows, rfl⟩
      | lf a v => cases this with | lf _ _ hl => simp at hDe; subst hDe; simp [leafy] at hl
      | agg cs => simp at hDe
      | tup cs => simp at hDe
     refine ⟨_, _, D, Fo, hst, by rw [er_upd_killn h, hte], ?_, ho, hDe, hown, hD, ?_, ?_, ?_, fun s hs' => upd_ne _ _ hs'⟩
     · intro s; rw [ann_upd_killn h]; split
       · rename_i e; rw [e, hann]
       · rfl
     · intro s x hx hF
       by_cases hs' : s = r
       · subst hs'; rw [upd_same] at hx; exact ((hiff x).1 hx).2 hF
       · rw [upd_ne _ _ hs'] at hx
         exact hs' (h.dis s r x hx (hsub x hF))
     · rintro x (⟨s, hx⟩ | hx)
       · by_cases hs' : s = r
         · subst hs'; rw [upd_same] at hx; exact ⟨s, ((hiff x).1 hx).1⟩
         · rw [upd_ne _ _ hs'] at hx; exact ⟨s, hx⟩
       · exact ⟨r, hsub x hx⟩
     · intro q v bx k' rows' hq
       rw [upd_same] at hq
       exact own_of_putD p htd q hq
   · cases ht
 · cases ht
end Go.Abs
namespace Go.Abs
variable {w w' : World} {S S' : Nat → Prop} {G : Gi} {δ : Nat → DV} {Fr : Nat → Nat → Prop}
theorem own_of_killD {t : DV} (d : Nat) (q : List Step) {v : Value} {bx : Bool} {k : Nat} {rows : List (List DV)} (hq : subD (killD d t) q = some (.own v bx k rows)) : subD t q = some (.own v bx k rows) := by
 induction q generalizing t with
 | nil =>
  simp only [subD, Option.some.injEq] at hq ⊢
  cases t with
  | lf a v => simp at hq
  | own => simpa using hq
  | agg => simp at hq
  | tup => simp at hq
 | cons s q ih =>
  obtain ⟨i, j, k0⟩ := s
  cases t with
  | lf a v => simp [subD] at hq
  | own h b k1 rows1 => rw [killD_own] at hq; exact hq
  | agg cs =>
   simp only [killD_agg, subD, List.getElem?_map] at hq ⊢
   cases hj : cs[j]? with
   | none => simp [hj] at hq
   | some c => simp only [hj, Option.map_some] at hq ⊢; exact ih hq
  | tup cs =>
   simp only [killD_tup, subD, List.getElem?_map] at hq ⊢
   cases hj : cs[j]? with
   | none => simp [hj] at hq
   | some c => simp only [hj, Option.map_some] at hq ⊢; exact ih hq
theorem own_of_killδ (d r : Nat) (q : List Step) {v : Value} {bx : Bool} {k : Nat} {rows : List (List DV)} (hq : subD (killδ G d δ r) q = some (.own v bx k rows)) : subD (δ r) q = some (.own v bx k rows) := by
 unfold killδ at hq
 split at hq
 · exact own_of_killD d q hq
 · exact hq
def Hd (δ δ' : Nat → DV) : Prop := ∀ r q v bx k rows, subD (δ' r) q = some (.own v bx k rows) → ∃ rows', subD (δ r) q = some (.own v bx k rows')
theorem Hd.refl (δ : Nat → DV) : Hd δ δ := fun _ _ _ _ _ rows h => ⟨rows, h⟩
theorem Hd.trans {δ δ' δ'' : Nat → DV} (h : Hd δ δ') (k : Hd δ' δ'') : Hd δ δ'' := by
 intro r q v bx kk rows hq
 obtain ⟨rows', h'⟩ := k r q v bx kk rows hq
 exact h r q v bx kk rows' h'
def OkL (w : World) (S : Nat → Prop) : List DV → (Nat → Prop) → Prop
 | [], F => ∀ x, ¬ F x
 | d :: ds, F => ∃ F1 F2, Ok w S d F1 ∧ OkL w S ds F2 ∧ (∀ x, F1 x → ¬ F2 x) ∧ ∀ x, F x ↔ F1 x ∨ F2 x
def Parts (w : World) (S : Nat → Prop) (cs : List DV) (F : Nat → Prop) : Prop :=
 ∃ Fs : Nat → Nat → Prop, (∀ (i : Nat) d, cs[i]? = some d → Ok w S d (Fs i)) ∧ (∀ i i' x, Fs i x → Fs i' x → i = i') ∧ (∀ i x, Fs i x → ∃ d, cs[i]? = some d) ∧ (∀ x, F x ↔ ∃ i, Fs i x)
theorem OkL_iff {cs : List DV} {F : Nat → Prop} : OkL w S cs F ↔ Parts w S cs F := by
 induction cs generalizing F with
 | nil =>
  constructor
  · intro h
    exact ⟨fun _ _ => False, by simp, fun _ _ _ h => h.elim, fun _ _ h => h.elim, fun x => ⟨fun hx => absurd hx (h x), fun ⟨_, h⟩ => h.elim⟩⟩
  · rintro ⟨Fs, h1, h2, h3, h4⟩ x hx
    obtain ⟨i, hi⟩ := (h4 x).1 hx
    obtain ⟨d, hd⟩ := h3 i x hi
    simp at hd
 | cons d ds ih =>
  constructor
  · rintro ⟨F1, F2, h1, h2, h3, h4⟩
    obtain ⟨Fs, g1, g2, g3, g4⟩ := ih.1 h2
    refine ⟨fun i => match i with | 0 => F1 | i + 1 => Fs i, ?_, ?_, ?_, ?_⟩
    · intro i e he
      cases i with
      | zero => simp only [List.getElem?_cons_zero, Option.some.injEq] at he; exact he ▸ h1
      | succ i => simp only [List.getElem?_cons_succ] at he; exact g1 i e he
    · intro i i' x hx hy
      cases i <;> cases i'
      · rfl
      · exact absurd ((g4 x).2 ⟨_, hy⟩) (h3 x hx)
      · exact absurd ((g4 x).2 ⟨_, hx⟩) (h3 x hy)
      · rename_i a b; rw [g2 a b x hx hy]
    · intro i x hx
      cases i with
      | zero => exact ⟨d, rfl⟩
      | succ i => obtain ⟨e, he⟩ := g3 i x hx; exact ⟨e, by simpa using he⟩
    · intro x
      rw [h4 x]
      constructor
      · rintro (h | h)
        · exact ⟨0, h⟩
        · obtain ⟨i, hi⟩ := (g4 x).1 h; exact ⟨i + 1, hi⟩
      · rintro ⟨i, hi⟩
        cases i with
        | zero => exact .inl hi
        | succ i => exact .inr ((g4 x).2 ⟨i, hi⟩)
  · rintro ⟨Fs, g1, g2, g3, g4⟩
    refine ⟨Fs 0, fun x => ∃ i, Fs (i + 1) x, g1 0 d rfl, ih.2 ⟨fun i => Fs (i + 1), ?_, ?_, ?_, fun x => Iff.rfl⟩, ?_, ?_⟩
    · intro i e he; exact g1 (i + 1) e (by simpa using he)
    · intro i i' x hx hy; have := g2 _ _ x hx hy; omega
    · intro i x hx; obtain ⟨e, he⟩ := g3 _ x hx; exact ⟨e, by simpa using he⟩
    · rintro x hx ⟨i, hi⟩; have := g2 _ _ x hx hi; omega
    · intro x
      rw [g4 x]
      constructor
      · rintro ⟨i, hi⟩
        cases i with
        | zero => exact .inl hi
        | succ i => exact .inr ⟨i, hi⟩
      · rintro (h | ⟨i, h⟩)
        · exact ⟨0, h⟩
        · exact ⟨i + 1, h⟩
theorem Ok_agg_iff {cs : List DV} {F : Nat → Prop} : Ok w S (.agg cs) F ↔ OkL w S cs F := by
 rw [OkL_iff]
 constructor
 · intro h
   cases h with
   | agg _ Fs _ h1 h2 h3 h4 => exact ⟨Fs, h1, h2, h3, h4⟩
 · rintro ⟨Fs, h1, h2, h3, h4⟩
   exact .agg cs Fs F h1 h2 h3 h4
theorem Ok_tup_iff {cs : List DV} {F : Nat → Prop} : Ok w S (.tup cs) F ↔ OkL w S cs F := by
 rw [OkL_iff]
 constructor
 · intro h
   cases h with
   | tup _ Fs _ h1 h2 h3 h4 => exact ⟨Fs, h1, h2, h3, h4⟩
 · rintro ⟨Fs, h1, h2, h3, h4⟩
   exact .tup cs Fs F h1 h2 h3 h4
theorem OkL.mono {cs : List DV} {F : Nat → Prop} (h : OkL w S cs F) (hw : ∀ b, S b → w'.heap[b]? = w.heap[b]?) (hf : ∀ b, F b → w'.heap[b]? = w.heap[b]?) (hS : ∀ b, S b → S' b) (hn : ∀ x, F x → ¬ S' x) : OkL w' S' cs F :=
 Ok_agg_iff.1 ((Ok_agg_iff.2 h).mono hw hf hS hn)
theorem St.tkL {δ0 : Nat → DV} (ds : List DV) : ∀ {δ : Nat → DV} {Fr : Nat → Nat → Prop} {F : Nat → Prop} {l : List AV} {τ : Sg}, St G w S δ Fr → OkL w S ds F → (∀ d ∈ ds, AlOK δ0 d) → Hd δ0 δ → (∀ s x, Fr s x → ¬ F x) →
 Abs.tkL G (ds.map DV.er) (fun s => (δ s).er) = some (l, τ) →
 ∃ δ' F' ds' Ff, St G w S δ' F' ∧ (fun s => (δ' s).er) = τ ∧ (∀ s, (δ' s).ann = (δ s).ann) ∧ OkL w S ds' Ff ∧ ds'.map DV.er = l ∧ ds'.map DV.ann = ds.map DV.ann ∧ (∀ s x, F' s x → ¬ Ff x) ∧
  (∀ x, Owned F' x ∨ Ff x → Owned Fr x ∨ F x) ∧ Hd δ0 δ' ∧ (∀ a ∈ l, cellA a = true) := by
 induction ds with
 | nil =>
  intro δ Fr F l τ h hok hal hhd hdis ht
  simp only [List.map_nil, Abs.tkL, Option.some.injEq, Prod.mk.injEq] at ht
  obtain ⟨rfl, rfl⟩ := ht
  exact ⟨δ, Fr, [], F, h, rfl, fun _ => rfl, hok, rfl, rfl, hdis, fun x hx => hx, hhd, by simp⟩
 | cons d ds ih =>
  intro δ Fr F l τ h hok hal hhd hdis ht
  obtain ⟨F1, F2, hd, hds, h12, hF⟩ := hok
  have hald := hal d (by simp)
  have hal' : ∀ e ∈ ds, AlOK δ0 e := fun e he => hal e (by simp [he])
  simp only [List.map_cons, Abs.tkL] at ht
  cases hde : d.er with
  | al r p =>
   simp only [hde] at ht
   split at ht
   · rename_i n τ1 ht1
     split at ht
     · rename_i l' τ' ht2
       simp only [Option.some.injEq, Prod.mk.injEq] at ht
       obtain ⟨rfl, rfl⟩ := ht
       obtain ⟨δ1, F1', D, Ff, hst, her, hann, hD, hDe, ⟨v, bx, k, rows, rfl⟩, hsub, hdis1, hown1, hhd1, hoth⟩ := h.tk1 ht1
       have hH : Hd δ δ1 := by
        intro r' q v bx k rows hq
        by_cases hr : r' = r
        · subst hr; exact hhd1 q v bx k rows hq
        · rw [hoth r' hr] at hq; exact ⟨rows, (killnδ_own _ r r' q).1 hq⟩
       subst her
       have hdF2 : ∀ s x, F1' s x → ¬ F2 x := by
        intro s x hx hx2
        obtain ⟨t, ht⟩ := hown1 x (.inl ⟨s, hx⟩)
        exact hdis t x ht ((hF x).2 (.inr hx2))
       obtain ⟨δ2, F2', ds', Fd, hst2, her2, hann2, hok2, hmap, hmapa, hdis2, hown2, hhd2, hcell⟩ := ih hst hds hal' (hhd.trans hH) hdF2 ht2
       have hv : v = d.ann := by
        cases d with
        | lf a u =>
         simp only [er_lf] at hde
         subst hde
         cases hald with
         | lf _ _ hl =>
          obtain ⟨bx', k', rows', hl⟩ := hl
          obtain ⟨rows'', hq⟩ := hhd r p v bx k rows hsub
          rw [hl] at hq
          simp only [Option.some.injEq, DV.own.injEq] at hq
          simp [hq.1]
        | own => simp at hde
        | agg => simp at hde
        | tup => simp at hde
       have hFf : ∀ x, Ff x → ¬ F2 x := by
        intro x hx hx2
        obtain ⟨t, ht⟩ := hown1 x (.inr hx)
        exact hdis t x ht ((hF x).2 (.inr hx2))
       have hdd : ∀ x, Owned F2' x ∨ Fd x → ¬ Ff x := by
        intro x hx hf
        rcases hown2 x hx with ⟨s, hs⟩ | h2
        · exact hdis1 s x hs hf
        · exact hFf x hf h2
       refine ⟨δ2, F2', .own v bx k rows :: ds', fun x => Ff x ∨ Fd x, hst2, her2, fun s => (hann2 s).trans (hann s), ⟨Ff, Fd, hD, hok2, fun x hx hx' => hdd x (.inr hx') hx, fun x => Iff.rfl⟩, ?_, ?_, ?_, ?_, hhd2, ?_⟩
       · simp only [List.map_cons, hDe, hmap]
       · simp only [List.map_cons, hmapa, ann_own, hv]
       · rintro s x hx (hf | hf)
         · exact hdd x (.inl ⟨s, hx⟩) hf
         · exact hdis2 s x hx hf
       · rintro x (hx | hx | hx)
         · rcases hown2 x (.inl hx) with h1 | h1
           · exact .inl (hown1 x (.inl h1))
           · exact .inr ((hF x).2 (.inr h1))
         · exact .inl (hown1 x (.inr hx))
         · rcases hown2 x (.inr hx) with h1 | h1
           · exact .inl (hown1 x (.inl h1))
           · exact .inr ((hF x).2 (.inr h1))
       · intro a ha
         simp only [List.mem_cons] at ha
         rcases ha with rfl | ha
         · rw [← hDe]; simp [cellA]
         · exact hcell a ha
     · cases ht
   · cases ht
  | _ =>
   simp only [hde] at ht
   split at ht
   · rename_i hc
     split at ht
     · rename_i l' τ' ht2
       simp only [Option.some.injEq, Prod.mk.injEq] at ht
       obtain ⟨rfl, rfl⟩ := ht
       have hdF2 : ∀ s x, Fr s x → ¬ F2 x := fun s x hx hx2 => hdis s x hx ((hF x).2 (.inr hx2))
       obtain ⟨δ2, F2', ds', Fd, hst2, her2, hann2, hok2, hmap, hmapa, hdis2, hown2, hhd2, hcell⟩ := ih h hds hal' hhd hdF2 ht2
       have hdd : ∀ x, Owned F2' x ∨ Fd x → ¬ F1 x := by
        intro x hx hf
        rcases hown2 x hx with ⟨s, hs⟩ | h2
        · exact hdis s x hs ((hF x).2 (.inl hf))
        · exact h12 x hf h2
       refine ⟨δ2, F2', d :: ds', fun x => F1 x ∨ Fd x, hst2, her2, hann2, ⟨F1, Fd, hd, hok2, fun x hx hx' => hdd x (.inr hx') hx, fun x => Iff.rfl⟩, ?_, ?_, ?_, ?_, hhd2, ?_⟩
       · simp only [List.map_cons, hde, hmap]
       · simp only [List.map_cons, hmapa]
       · rintro s x hx (hf | hf)
         · exact hdd x (.inl ⟨s, hx⟩) hf
         · exact hdis2 s x hx hf
       · rintro x (hx | hx | hx)
         · rcases hown2 x (.inl hx) with h1 | h1
           · exact .inl h1
           · exact .inr ((hF x).2 (.inr h1))
         · exact .inr ((hF x).2 (.inl hx))
         · rcases hown2 x (.inr hx) with h1 | h1
           · exact .inl h1
           · exact .inr ((hF x).2 (.inr h1))
       · intro a ha
         simp only [List.mem_cons] at ha
         rcases ha with rfl | ha
         · exact hc
         · exact hcell a ha
     · cases ht
   · cases ht
end Go.Abs
namespace Go.Abs
variable {w w' : World} {S S' : Nat → Prop} {G : Gi} {δ : Nat → DV} {Fr : Nat → Nat → Prop}
mutual
def cstD : AV → Option DV
 | .sc v => if plainV v = true then some (.lf (.sc v) v) else none
 | .own false k [] => some (.own (.slice none 0 0) false k [])
 | .sl x k [] => some (.lf (.sl x k []) (.slice none 0 0))
 | .agg cs => match cstL cs with
  | some ds => some (.agg ds)
  | none => none
 | _ => none
def cstL : List AV → Option (List DV)
 | [] => some []
 | a :: r => match cstD a with
  | some d => match cstL r with
   | some ds => some (d :: ds)
   | none => none
  | none => none
end
theorem cst_facts (a : AV) : ∀ D, cstD a = some D → D.er = a ∧ Ok w S D (fun _ => False) ∧ AlOK δ D ∧ (∀ L, rin L a = true) := by
 refine AV.rec (motive_1 := fun a => ∀ D, cstD a = some D → D.er = a ∧ Ok w S D (fun _ => False) ∧ AlOK δ D ∧ (∀ L, rin L a = true)) (motive_2 := fun _ => True)
  (motive_3 := fun l => ∀ ds, cstL l = some ds → ds.map DV.er = l ∧ OkL w S ds (fun _ => False) ∧ (∀ d ∈ ds, AlOK δ d) ∧ (∀ L, rinL L l = true)) ?_ ?_ ?_ ?_ ?_ ?_ ?_ ?_ ?_ ?_ ?_ ?_ ?_ ?_ ?_ ?_ ?_ a
 · intro v D h
   simp only [cstD] at h
   split at h
   · rename_i hp
     obtain rfl := Option.some.inj h
     exact ⟨by simp, .lf _ _ _ ⟨rfl, hp⟩ (fun _ h => h), .lf _ _ trivial, by simp⟩
   · cases h
 · intro x k rows _ D h
   cases rows with
   | nil =>
    simp only [cstD] at h
    obtain rfl := Option.some.inj h
    exact ⟨by simp, .lf _ _ _ (Fz.nil x k none 0 (fun _ => rfl)) (fun _ h => h), .lf _ _ trivial, by simp⟩
   | cons r rs => simp [cstD] at h
 · intro b k rows _ D h
   cases b with
   | true => simp [cstD] at h
   | false =>
    cases rows with
    | nil =>
     simp only [cstD] at h
     obtain rfl := Option.some.inj h
     exact ⟨by simp, .nil k _ (fun _ h => h), .own _ _ _ _, by simp⟩
    | cons r rs => simp [cstD] at h
 · intro cs ih D h
   simp only [cstD] at h
   split at h
   · rename_i ds hds
     obtain rfl := Option.some.inj h
     obtain ⟨h1, h2, h3, h4⟩ := ih ds hds
     refine ⟨by simp [h1], Ok_agg_iff.2 h2, .agg _ fun i d hd => h3 d (List.mem_of_getElem? hd), fun L => by simp only [rin]; exact h4 L⟩
   · cases h
 · intro cs _ D h; simp [cstD] at h
 · intro r p D h; simp [cstD] at h
 · intro r p i j k D h; simp [cstD] at h
 · intro cs _ D h; simp [cstD] at h
 · intro D h; simp [cstD] at h
 · intro D h; simp [cstD] at h
 · intro f rs D h; simp [cstD] at h
 · intro s o us D h; simp [cstD] at h
 · intro f css _ D h; simp [cstD] at h
 · trivial
 · intros; trivial
 · intro ds h
   simp only [cstL, Option.some.injEq] at h
   subst h
   exact ⟨rfl, fun _ h => h, by simp, fun L => by simp [rinL]⟩
 · intro a l iha ihl ds h
   simp only [cstL] at h
   split at h
   · rename_i d hd
     split at h
     · rename_i ds' hds
       obtain rfl := Option.some.inj h
       obtain ⟨h1, h2, h3, h4⟩ := iha d hd
       obtain ⟨g1, g2, g3, g4⟩ := ihl ds' hds
       refine ⟨by simp [h1, g1], ⟨_, _, h2, g2, fun _ h => h.elim, fun x => by simp⟩, ?_, fun L => by simp [rinL, h4 L, g4 L]⟩
       intro e he
       simp only [List.mem_cons] at he
       rcases he with rfl | he
       · exact h3
       · exact g3 e he
     · cases h
   · cases h
def ArOK : Ar → Prop
 | .t _ => True
 | .c a => ∃ D, cstD a = some D
def argv (δ : Nat → DV) : Ar → Value
 | .t s => (δ s).ann
 | .c a => match cstD a with
  | some D => D.ann
  | none => undef
theorem AlOK_cells {ds : List DV} (hc : ∀ a ∈ ds.map DV.er, cellA a = true) : ∀ d ∈ ds, AlOK δ d := by
 intro d hd
 have h1 := hc d.er (List.mem_map_of_mem hd)
 cases d with
 | lf a v => refine .lf a v ?_; simp only [er_lf] at h1; cases a <;> simp_all [cellA, AlLeaf]
 | own => exact .own _ _ _ _
 | agg cs => simp [cellA] at h1
 | tup cs => simp [cellA] at h1
structure Fly (G : Gi) (w : World) (S : Nat → Prop) (δ : Nat → DV) (Fr : Nat → Nat → Prop) (δ' : Nat → DV) (F' : Nat → Nat → Prop) (D : DV) (Ff : Nat → Prop) : Prop where
 st : St G w S δ' F'
 ann : ∀ s, (δ' s).ann = (δ s).ann
 ok : Ok w S D Ff
 al : AlOK δ' D
 dis : ∀ s x, F' s x → ¬ Ff x
 own : ∀ x, Owned F' x ∨ Ff x → Owned Fr x
theorem St.tk (h : St G w S δ Fr) {x : Ar} {a : AV} {τ : Sg} (hx : ArOK x) (ht : Abs.tk G x (fun s => (δ s).er) = some (a, τ)) :
 ∃ δ' F' D Ff, Fly G w S δ Fr δ' F' D Ff ∧ (fun s => (δ' s).er) = τ ∧ D.er = a ∧ D.ann = argv δ x := by
 cases x with
 | c c =>
  obtain ⟨D, hD⟩ := hx
  simp only [Abs.tk, Option.some.injEq, Prod.mk.injEq] at ht
  obtain ⟨rfl, rfl⟩ := ht
  obtain ⟨h1, h2, h3, _⟩ := cst_facts (w := w) (S := S) (δ := δ) c D hD
  exact ⟨δ, Fr, D, _, ⟨h, fun _ => rfl, h2, h3, fun _ _ _ h => h, fun x hx => hx.elim id False.elim⟩, rfl, h1, by simp [argv, hD]⟩
 | t s =>
  simp only [Abs.tk] at ht
  have hleaf : ∀ b, (δ s).er = b → leafy b = true → ∃ v, δ s = .lf b v := by
   intro b hb hl
   have := (h.ok s).lfy
   cases hd : δ s with
   | lf c v => rw [hd] at hb; simp at hb; exact ⟨v, by rw [hb]⟩
   | own => rw [hd] at hb; simp at hb; subst hb; simp [leafy] at hl
   | agg => rw [hd] at hb; simp at hb; subst hb; simp [leafy] at hl
   | tup => rw [hd] at hb; simp at hb; subst hb; simp [leafy] at hl
  have hcopy : ∀ b, (δ s).er = b → leafy b = true → ∃ δ' F' D Ff, Fly G w S δ Fr δ' F' D Ff ∧ (fun s => (δ' s).er) = (fun s => (δ s).er) ∧ D.er = b ∧ D.ann = argv δ (.t s) := by
   intro b hb hl
   obtain ⟨v, hv⟩ := hleaf b hb hl
   have hok := h.ok s
   rw [hv] at hok
   cases hok with
   | lf _ _ _ ha hF =>
    exact ⟨δ, Fr, .lf b v, fun _ => False, ⟨h, fun _ => rfl, .lf _ _ _ ha (fun _ h => h), hv ▸ h.al s, fun _ _ _ h => h, fun x hx => hx.elim id False.elim⟩, rfl, by simp, by simp [argv, hv]⟩
  cases hs : (δ s).er with
  | al r p =>
   simp only [hs] at ht
   obtain ⟨δ1, F1, D, Ff, hst, her, hann, hD, hDe, ⟨v, bx, k, rows, rfl⟩, hsub, hdis, hown, hhd, hoth⟩ := h.tk1 ht
   refine ⟨δ1, F1, _, Ff, ⟨hst, hann, hD, .own _ _ _ _, hdis, hown⟩, her, hDe, ?_⟩
   obtain ⟨u, hu⟩ := hleaf _ hs rfl
   have hal := h.al s
   rw [hu] at hal
   cases hal with
   | lf _ _ hl =>
    obtain ⟨bx', k', rows', hl⟩ := hl
    rw [hl] at hsub
    simp only [Option.some.injEq, DV.own.injEq] at hsub
    simp [argv, hu, hsub.1]
  | own b k rows =>
   simp only [hs, Option.some.injEq, Prod.mk.injEq] at ht
   obtain ⟨rfl, rfl⟩ := ht
   have hst := h.empty s
   refine ⟨_, _, δ s, Fr s, ⟨hst, ?_, h.ok s, ?_, ?_, ?_⟩, by rw [er_upd_kill h]; simp, hs, rfl⟩
   · intro t; rw [ann_upd_kill h]; split
     · rename_i e; rw [e]; simp
     · rfl
   · have := (h.ok s).lfy
     cases hd : δ s with
     | own => exact .own _ _ _ _
     | lf c v => rw [hd] at hs this; cases this with | lf _ _ hl => simp at hs; subst hs; simp [leafy] at hl
     | agg => rw [hd] at hs; simp at hs
     | tup => rw [hd] at hs; simp at hs
   · intro t x hx hf
     by_cases e : t = s
     · subst e; rw [upd_same] at hx; exact hx
     · rw [upd_ne _ _ e] at hx; exact e (h.dis t s x hx hf)
   · rintro x (⟨t, hx⟩ | hx)
     · by_cases e : t = s
       · subst e; rw [upd_same] at hx; exact hx.elim
       · rw [upd_ne _ _ e] at hx; exact ⟨t, hx⟩
     · exact ⟨s, hx⟩
  | agg cs =>
   simp only [hs] at ht
   obtain ⟨ds, hds, hcs⟩ : ∃ ds, δ s = .agg ds ∧ ds.map DV.er = cs := by
    have := (h.ok s).lfy
    cases hd : δ s with
    | agg ds => rw [hd] at hs; simp at hs; exact ⟨ds, rfl, hs⟩
    | lf c v => rw [hd] at hs this; cases this with | lf _ _ hl => simp at hs; subst hs; simp [leafy] at hl
    | own => rw [hd] at hs; simp at hs
    | tup => rw [hd] at hs; simp at hs
   split at ht
   · rename_i hpl
     simp only [Option.some.injEq, Prod.mk.injEq] at ht
     obtain ⟨rfl, rfl⟩ := ht
     have hok := h.ok s
     rw [hds] at hok
     -- nothing is owned
     have hempty : OkL w S ds (fun _ => False) := by
      have hokL := Ok_agg_iff.1 hok
      clear hok hds
      rw [← hcs] at hpl
      clear hcs hs
      generalize Fr s = F at hokL
      induction ds generalizing F with
      | nil => exact fun _ h => h
      | cons d ds ih =>
       obtain ⟨F1, F2, h1, h2, _, _⟩ := hokL
       simp only [List.map_cons, List.all_cons, Bool.and_eq_true] at hpl
       refine ⟨fun _ => False, fun _ => False, ?_, ih hpl.2 F2 h2, fun _ h => h.elim, fun x => by simp⟩
       cases h1 with
       | lf a v _ ha hF => exact .lf a v _ ha (fun _ h => h)
       | nil => simp [plainA] at hpl
       | own => simp [plainA] at hpl
       | agg => simp [plainA] at hpl
       | tup => simp [plainA] at hpl
     exact ⟨δ, Fr, .agg ds, fun _ => False, ⟨h, fun _ => rfl, Ok_agg_iff.2 hempty, hds ▸ h.al s, fun _ _ _ h => h, fun x hx => hx.elim id False.elim⟩, rfl, by simp [hcs], by simp [argv, hds]⟩
   · split at ht
     · rename_i l τ' htl
       simp only [Option.some.injEq, Prod.mk.injEq] at ht
       obtain ⟨rfl, rfl⟩ := ht
       have hst := h.empty s
       have hok := h.ok s
       rw [hds] at hok
       have hals : ∀ d ∈ ds, AlOK δ d := by
        have := h.al s
        rw [hds] at this
        cases this with
        | agg _ hr => intro d hd; obtain ⟨i, hi⟩ := List.getElem?_of_mem hd; exact hr i d hi
       have hH : Hd δ (upd (killδ G s δ) s (.lf .dead (δ s).ann)) := by
        intro r q v bx k rows hq
        by_cases e : r = s
        · subst e
          rw [upd_same] at hq
          cases q <;> simp [subD] at hq
        · rw [upd_ne _ _ e] at hq
          exact ⟨rows, own_of_killδ s r q hq⟩
       have hdis : ∀ t x, (upd Fr s fun _ => False) t x → ¬ Fr s x := by
        intro t x hx hf
        by_cases e : t = s
        · subst e; rw [upd_same] at hx; exact hx
        · rw [upd_ne _ _ e] at hx; exact e (h.dis t s x hx hf)
       have herr : (fun t => (upd (killδ G s δ) s (.lf .dead (δ s).ann) t).er) = upd (killS G s fun s => (δ s).er) s .dead := by rw [er_upd_kill h]; simp
       obtain ⟨δ2, F2, ds', Ff, hst2, her2, hann2, hok2, hmap, hmapa, hdis2, hown2, _, hcell⟩ := hst.tkL ds (Ok_agg_iff.1 hok) hals hH hdis (l := l) (τ := τ') (by rw [herr, hcs]; exact htl)
       refine ⟨δ2, F2, .agg ds', Ff, ⟨hst2, ?_, Ok_agg_iff.2 hok2, .agg _ fun i d hd => ?_, hdis2, ?_⟩, her2, by simp [hmap], by simp [argv, hds, hmapa]⟩
       · intro t; rw [hann2, ann_upd_kill h]; split
         · rename_i e; rw [e]; simp
         · rfl
       · exact AlOK_cells (by rw [hmap]; exact hcell) d (List.mem_of_getElem? hd)
       · intro x hx
         rcases hown2 x hx with ⟨t, hx'⟩ | hx'
         · by_cases e : t = s
           · subst e; rw [upd_same] at hx'; exact hx'.elim
           · rw [upd_ne _ _ e] at hx'; exact ⟨t, hx'⟩
         · exact ⟨s, hx'⟩
     · cases ht
  | sc v => simp only [hs, Option.some.injEq, Prod.mk.injEq] at ht; obtain ⟨rfl, rfl⟩ := ht; exact hcopy _ hs rfl
  | sl e k rows => simp only [hs, Option.some.injEq, Prod.mk.injEq] at ht; obtain ⟨rfl, rfl⟩ := ht; exact hcopy _ hs rfl
  | adr r p i j k => simp only [hs, Option.some.injEq, Prod.mk.injEq] at ht; obtain ⟨rfl, rfl⟩ := ht; exact hcopy _ hs rfl
  | fp cs => simp only [hs, Option.some.injEq, Prod.mk.injEq] at ht; obtain ⟨rfl, rfl⟩ := ht; exact hcopy _ hs rfl
  | tup cs => simp [hs] at ht
  | dead => simp [hs] at ht
  | un => simp [hs] at ht
  | cl f rs => simp [hs] at ht
  | vb s o us => simp [hs] at ht
  | fcl f css => simp [hs] at ht
theorem St.fzAt (h : St G w S δ Fr) {r : Nat} {p : List Step} {a : AV} {τ : Sg} (ht : Abs.fzAt G r p (fun s => (δ s).er) = some (a, τ)) :
 ∃ (δ' : Nat → DV) (F' : Nat → Nat → Prop) (Fo : Nat → Prop) (v : Value) (bx : Bool) (k : Nat) (rows : List (List DV)), St G w (fun x => S x ∨ Fo x) δ' F' ∧ (fun s => (δ' s).er) = τ ∧ (∀ s, (δ' s).ann = (δ s).ann) ∧ subD (δ r) p = some (.own v bx k rows) ∧ Fz w (fun x => S x ∨ Fo x) a v ∧
  a = frz (DV.own v bx k rows).er ∧ (∀ s x, F' s x → ¬ Fo x) ∧ (∀ x, Owned F' x ∨ Fo x → Owned Fr x) ∧ Hd δ δ' := by
 unfold Abs.fzAt at ht
 split at ht
 · rename_i b k rows hs
   split at ht
   · rename_i t hp
     simp only [Option.some.injEq, Prod.mk.injEq] at ht
     obtain ⟨rfl, rfl⟩ := ht
     obtain ⟨D, hD, hDe⟩ := subD_of_sub (h.ok r).lfy hs
     obtain ⟨Fo, ho, hsub, hrep⟩ := h.replace r p hD
     have hown : ∃ v bx k rows, D = .own v bx k rows := by
      have := ho.lfy
      cases D with
      | own v bx k rows => exact ⟨v, bx, k, rows, rfl⟩
      | lf a v => cases this with | lf _ _ hl => simp at hDe; subst hDe; simp [leafy] at hl
      | agg cs => simp at hDe
      | tup cs => simp at hDe
     obtain ⟨v, bx, k1, rows1, rfl⟩ := hown
     have hfz : Fz w (fun x => S x ∨ Fo x) (frz (.own b k rows)) v := by have := ho.freeze; rw [hDe] at this; simpa using this
     have hnew : Ok w (fun x => S x ∨ Fo x) (.lf (frz (.own b k rows)) v) (fun _ => False) := by
      refine .lf _ _ _ ?_ (fun _ h => h)
      cases b with
      | true => simp only [frz_box]; trivial
      | false => simp only [frz_vec] at hfz ⊢; exact hfz
     obtain ⟨td, F', htd, hst, hiff, hann⟩ := hrep (fun x => S x ∨ Fo x) (.lf (frz (.own b k rows)) v) (by simp) hnew (fun _ h => .inl h)
      (fun t b' hb hno hS => hS.elim ((h.ok t).notS b' hb) hno) (by intro L; cases b <;> simp) (.lf _ _ (by cases b <;> simp [AlLeaf]))
     have hte : td.er = t := by
      obtain ⟨t', h1, h2⟩ := putD_of_put (d := δ r) (p := p) (a := t) (.lf (frz (.own b k rows)) v) (h.ok r).lfy (by simpa using hp)
      rw [htd] at h1
      obtain rfl := Option.some.inj h1
      exact h2
     refine ⟨_, _, Fo, v, bx, k1, rows1, hst, by rw [er_upd_kill h, hte], ?_, hD, hfz, by rw [hDe], ?_, ?_, ?_⟩
     · intro s; rw [ann_upd_kill h]; split
       · rename_i e; rw [e, hann]
       · rfl
     · intro s x hx hF
       by_cases hs' : s = r
       · subst hs'; rw [upd_same] at hx; exact ((hiff x).1 hx).2 hF
       · rw [upd_ne _ _ hs'] at hx
         exact hs' (h.dis s r x hx (hsub x hF))
     · rintro x (⟨s, hx⟩ | hx)
       · by_cases hs' : s = r
         · subst hs'; rw [upd_same] at hx; exact ⟨s, ((hiff x).1 hx).1⟩
         · rw [upd_ne _ _ hs'] at hx; exact ⟨s, hx⟩
       · exact ⟨r, hsub x hx⟩
     · intro r' q v' bx' k' rows' hq
       by_cases e : r' = r
       · subst e
         rw [upd_same] at hq
         exact own_of_putD p htd q hq
       · rw [upd_ne _ _ e] at hq
         exact ⟨rows', own_of_killδ r r' q hq⟩
   · cases ht
 · cases ht
theorem St.wr (h : St G w S δ Fr) {dst : Dst} (hkl : dst.kl = G.als dst.d) (hrs : dst.rs = G.rtOf dst.d) {D : DV} {Ff : Nat → Prop} {σ' : Sg} (hw : ∀ b, S b → w'.heap[b]? = w.heap[b]?) (hf : ∀ s x, Fr s x → w'.heap[x]? = w.heap[x]?)
 (hSS : ∀ b, S b → S' b) (hfS : ∀ s x, Fr s x → ¬ S' x) (hD : Ok w' S' D Ff) (hdis : ∀ s x, Fr s x → ¬ Ff x) (hal : AlOK δ D) (hwr : Abs.wr dst D.er (fun s => (δ s).er) = some σ') :
 ∃ δ' F', St G w' S' δ' F' ∧ (fun s => (δ' s).er) = σ' ∧ (∀ s, (δ' s).ann = if s = dst.d then D.ann else (δ s).ann) ∧ (∀ x, Owned F' x → Owned Fr x ∨ Ff x) := by
 unfold Abs.wr at hwr
 split at hwr
 · rename_i hr
   simp only [Option.some.injEq] at hwr
   subst hwr
   refine ⟨_, _, h.set dst.d D Ff hw (fun s _ => hf s) hSS (fun s _ => hfS s) hD (fun s _ x hx hx' => hdis s x hx' hx) (hrs ▸ hr) hal, ?_, fun s => ann_upd_kill h dst.d D s, ?_⟩
   · rw [er_upd_kill h, hkl, kills_eq]
   · rintro x ⟨s, hx⟩
     by_cases e : s = dst.d
     · subst e; rw [upd_same] at hx; exact .inr hx
     · rw [upd_ne _ _ e] at hx; exact .inl ⟨s, hx⟩
 · cases hwr
end Go.Abs
namespace Go.Abs
variable {w w' : World} {S S' : Nat → Prop} {G : Gi} {δ : Nat → DV} {Fr : Nat → Nat → Prop} {P : Program}
def sameS : Value → Value → Bool
 | .bool a, .bool b => a == b
 | .int k a, .int k' b => decide (k = k') && decide (a = b)
 | .string a, .string b => decide (a.data = b.data)
 | .pointer none, .pointer none => true
 | .slice none 0 0, .slice none 0 0 => true
 | .nilFunc, .nilFunc => true
 | .nilIface, .nilIface => true
 | _, _ => false
def sameL : List Value → List Value → Bool
 | [], [] => true
 | a :: l, b :: r => sameS a b && sameL l r
 | _, _ => false
def sameV : Value → Value → Bool
 | .agg a, .agg b => sameL a.toList b.toList
 | a, b => sameS a b
theorem sameS_eq {a b : Value} (h : sameS a b = true) : a = b := by
 unfold sameS at h
 split at h <;> simp_all
 rename_i x y
 cases x; cases y; simp_all
theorem sameL_eq : ∀ {a b : List Value}, sameL a b = true → a = b
 | [], [], _ => rfl
 | [], _ :: _, h => by simp [sameL] at h
 | _ :: _, [], h => by simp [sameL] at h
 | a :: l, b :: r, h => by
  simp only [sameL, Bool.and_eq_true] at h
  rw [sameS_eq h.1, sameL_eq h.2]
theorem sameV_eq {a b : Value} (h : sameV a b = true) : a = b := by
 unfold sameV at h
 split at h
 · rename_i x y; have := sameL_eq h; rw [Value.agg.injEq]; exact Array.ext' this
 · exact sameS_eq h
def chkA (x : Operand) (y : Ar) : Bool :=
 match x, y with
 | .tmp s, .t s' => s == s'
 | .const v, .c a => match cstD a with
  | some D => sameV v D.ann
  | none => false
 | _, _ => false
def Rd (δ : Nat → DV) (a : Act) : Prop := ∀ s, a.tmps.getD s undef = (δ s).ann
theorem chkA_sound {x : Operand} {y : Ar} {a : Act} (h : chkA x y = true) (ha : Rd δ a) : ArOK y ∧ a.eval x = argv δ y := by
 unfold chkA at h
 split at h
 · simp only [beq_iff_eq] at h; subst h; exact ⟨trivial, ha _⟩
 · rename_i v c
   split at h
   · rename_i D hD
     exact ⟨⟨D, hD⟩, by simp [Act.eval, argv, hD, sameV_eq h]⟩
   · cases h
 · cases h
def chkL : List Operand → List Ar → Bool
 | [], [] => true
 | x :: l, y :: r => chkA x y && chkL l r
 | _, _ => false
def chkO : Option Operand → Option Ar → Bool
 | none, none => true
 | some x, some y => chkA x y
 | _, _ => false
def szOf (P : Program) (t : TypeId) : Option Nat := (P.info? t).map (·.size)
def isAggT (P : Program) (t : TypeId) : Option Bool := (P.underlying t).map fun | .struct _ => true | .array _ _ => true | _ => false
theorem run_sizeOf {t : TypeId} {n : Nat} (h : szOf P t = some n) (w : World) : (sizeOf t).run P w = .ok n w := by
 unfold szOf at h
 cases hi : P.info? t with
 | none => simp [hi] at h
 | some i => simp only [hi, Option.map_some, Option.some.injEq] at h; simp [sizeOf, typeInfo, hi, h]
theorem run_isAgg {t : TypeId} {b : Bool} (h : isAggT P t = some b) (w : World) : (isAgg t).run P w = .ok b w := by
 unfold isAggT at h
 cases hi : P.underlying t with
 | none => simp [hi] at h
 | some d => simp only [hi, Option.map_some, Option.some.injEq] at h; cases d <;> simp_all [isAgg, underlying]
theorem subD_append (t : DV) (p q : List Step) : subD t (p ++ q) = (subD t p).bind (subD · q) := by
 induction p generalizing t with
 | nil => simp [subD]
 | cons s p ih =>
  obtain ⟨i, j, k⟩ := s
  cases t with
  | lf a v => simp [subD]
  | own h b k1 rows =>
   simp only [List.cons_append, subD]
   cases rows[i]? with
   | none => rfl
   | some row => simp only []; cases row[j]? with
    | none => rfl
    | some c => exact ih c
  | agg cs => simp only [List.cons_append, subD]; cases cs[j]? with
   | none => rfl
   | some c => exact ih c
  | tup cs => simp only [List.cons_append, subD]; cases cs[j]? with
   | none => rfl
   | some c => exact ih c
theorem viewL_get (r : Nat) (p : List Step) (l : List AV) (i n : Nat) : (viewL r p i l)[n]? = (l[n]?).map (view r (p ++ [(0, i + n, 0)])) := by
 induction l generalizing i n with
 | nil => simp [viewL]
 | cons c cs ih =>
  cases n with
  | zero => simp [viewL]
  | succ n => simp only [viewL, List.getElem?_cons_succ, ih, Nat.add_assoc, Nat.add_comm 1 n]
theorem OkL_empty {ds : List DV} (h : ∀ d ∈ ds, Ok w S d (fun _ => False)) : OkL w S ds (fun _ => False) := by
 induction ds with
 | nil => exact fun _ h => h
 | cons d ds ih => exact ⟨_, _, h d (by simp), ih (fun e he => h e (by simp [he])), fun _ h => h.elim, fun x => by simp⟩
theorem mkList {α β : Type} (cs : List α) (Φ : Nat → α → β → Prop) (h : ∀ i c, cs[i]? = some c → ∃ D, Φ i c D) : ∃ Ds : List β, Ds.length = cs.length ∧ ∀ i c, cs[i]? = some c → ∃ D, Ds[i]? = some D ∧ Φ i c D := by
 induction cs generalizing Φ with
 | nil => exact ⟨[], rfl, by simp⟩
 | cons c cs ih =>
  obtain ⟨D, hD⟩ := h 0 c rfl
  obtain ⟨Ds, h1, h2⟩ := ih (fun i => Φ (i + 1)) (fun i c' hc => h (i + 1) c' (by simpa using hc))
  refine ⟨D :: Ds, by simp [h1], ?_⟩
  intro i c' hc
  cases i with
  | zero => simp only [List.getElem?_cons_zero, Option.some.injEq] at hc; subst hc; exact ⟨D, rfl, hD⟩
  | succ i => simp only [List.getElem?_cons_succ] at hc ⊢; exact h2 i c' hc
theorem mem_mk {α β : Type} {cs : List α} {Ds : List β} {Φ : Nat → α → β → Prop} (hl : Ds.length = cs.length) (h : ∀ i c, cs[i]? = some c → ∃ D, Ds[i]? = some D ∧ Φ i c D) (i : Nat) (D : β) (hD : Ds[i]? = some D) : ∃ c, cs[i]? = some c ∧ Φ i c D := by
 have hi : i < cs.length := by rw [← hl]; exact (List.getElem?_eq_some_iff.1 hD).1
 obtain ⟨D', h1, h2⟩ := h i cs[i] (List.getElem?_eq_getElem hi)
 rw [hD] at h1
 obtain rfl := Option.some.inj h1
 exact ⟨_, List.getElem?_eq_getElem hi, h2⟩
theorem map_mk {α β γ : Type} {cs : List α} {Ds : List β} {Φ : Nat → α → β → Prop} (hl : Ds.length = cs.length) (h : ∀ i c, cs[i]? = some c → ∃ D, Ds[i]? = some D ∧ Φ i c D) (f : β → γ) (l : List γ) (hll : l.length = cs.length)
 (hf : ∀ i c D, Φ i c D → cs[i]? = some c → l[i]? = some (f D)) : Ds.map f = l := by
 apply List.ext_getElem?
 intro i
 by_cases hi : i < cs.length
 · obtain ⟨D, h1, h2⟩ := h i cs[i] (List.getElem?_eq_getElem hi)
   rw [List.getElem?_map, h1, hf i _ D h2 (List.getElem?_eq_getElem hi)]
   rfl
 · rw [List.getElem?_eq_none (by simp; omega), List.getElem?_eq_none (by omega)]
theorem viewL_length (r : Nat) (p : List Step) (l : List AV) (i : Nat) : (viewL r p i l).length = l.length := by
 induction l generalizing i with
 | nil => simp [viewL]
 | cons c cs ih => simp [viewL, ih]
theorem viewD {t : DV} {F : Nat → Prop} (r : Nat) (h : Ok w S t F) : ∀ (p : List Step), subD (δ r) p = some t → AlOK δ t →
 ∃ D, D.er = view r p t.er ∧ D.ann = t.ann ∧ Ok w S D (fun _ => False) ∧ AlOK δ D := by
 induction h with
 | lf a v F ha hF =>
  intro p hp hal
  have hl := ha.leafy
  refine ⟨.lf a v, ?_, rfl, .lf a v _ ha (fun _ h => h), hal⟩
  cases a <;> simp_all [view, leafy]
 | nil k F hF =>
  intro p hp hal
  exact ⟨.lf (.al r p) (.slice none 0 0), by simp [view], by simp, .lf _ _ _ trivial (fun _ h => h), .lf _ _ ⟨_, _, _, hp⟩⟩
 | own bx k rows b c arr E Fs F hb hk hcap hSb hv hr hd hval hbF hF ih =>
  intro p hp hal
  exact ⟨.lf (.al r p) (hdr bx b rows.length c), by simp [view], by simp, .lf _ _ _ trivial (fun _ h => h), .lf _ _ ⟨_, _, _, hp⟩⟩
 | agg cs Fs F hr hd hval hF ih =>
  intro p hp hal
  cases hal with
  | agg _ hal =>
   obtain ⟨Ds, hl, hDs⟩ := mkList cs (fun i d D => D.er = view r (p ++ [(0, i, 0)]) d.er ∧ D.ann = d.ann ∧ Ok w S D (fun _ => False) ∧ AlOK δ D)
    (fun i d hd => ih i d hd _ (by rw [subD_append, hp]; simp [subD, hd]) (hal i d hd))
   refine ⟨.agg Ds, ?_, ?_, Ok_agg_iff.2 (OkL_empty fun D hD => ?_), .agg _ fun i D hD => ?_⟩
   · simp only [er_agg, view, AV.agg.injEq]
     refine map_mk hl hDs _ _ (by simp [viewL_length]) fun i c D hΦ hc => ?_
     rw [viewL_get, List.getElem?_map, hc]; simp [hΦ.1]
   · simp only [ann_agg]; congr 2
     exact map_mk hl hDs _ _ (by simp) fun i c D hΦ hc => by simp [hc, hΦ.2.1]
   · obtain ⟨i, hi⟩ := List.getElem?_of_mem hD
     obtain ⟨c, _, hΦ⟩ := mem_mk hl hDs i D hi
     exact hΦ.2.2.1
   · obtain ⟨c, _, hΦ⟩ := mem_mk hl hDs i D hD
     exact hΦ.2.2.2
 | tup cs Fs F hr hd hval hF ih =>
  intro p hp hal
  cases hal with
  | tup _ hal =>
   obtain ⟨Ds, hl, hDs⟩ := mkList cs (fun i d D => D.er = view r (p ++ [(0, i, 0)]) d.er ∧ D.ann = d.ann ∧ Ok w S D (fun _ => False) ∧ AlOK δ D)
    (fun i d hd => ih i d hd _ (by rw [subD_append, hp]; simp [subD, hd]) (hal i d hd))
   refine ⟨.tup Ds, ?_, ?_, Ok_tup_iff.2 (OkL_empty fun D hD => ?_), .tup _ fun i D hD => ?_⟩
   · simp only [er_tup, view, AV.tup.injEq]
     refine map_mk hl hDs _ _ (by simp [viewL_length]) fun i c D hΦ hc => ?_
     rw [viewL_get, List.getElem?_map, hc]; simp [hΦ.1]
   · simp only [ann_tup]; congr 2
     exact map_mk hl hDs _ _ (by simp) fun i c D hΦ hc => by simp [hc, hΦ.2.1]
   · obtain ⟨i, hi⟩ := List.getElem?_of_mem hD
     obtain ⟨c, _, hΦ⟩ := mem_mk hl hDs i D hi
     exact hΦ.2.2.1
   · obtain ⟨c, _, hΦ⟩ := mem_mk hl hDs i D hD
     exact hΦ.2.2.2
theorem viewC_length (r : Nat) (p : List Step) (i k j : Nat) (l : List AV) : (viewC r p i k j l).length = l.length := by
 induction l generalizing j with
 | nil => simp [viewC]
 | cons c cs ih => simp [viewC, ih]
theorem viewC_get (r : Nat) (p : List Step) (i k j n : Nat) (l : List AV) : (viewC r p i k j l)[n]? = (l[n]?).map (vC r p i (j + n) k) := by
 induction l generalizing j n with
 | nil => simp [viewC]
 | cons c cs ih =>
  cases n with
  | zero => simp [viewC]
  | succ n => simp only [viewC, List.getElem?_cons_succ, ih, Nat.add_assoc, Nat.add_comm 1 n]
theorem viewF_length (s j : Nat) (l : List AV) : (viewF s j l).length = l.length := by
 induction l generalizing j with
 | nil => simp [viewF]
 | cons c cs ih => simp [viewF, ih]
theorem viewF_get (s j n : Nat) (l : List AV) : (viewF s j l)[n]? = (l[n]?).map (vF s (j + n)) := by
 induction l generalizing j n with
 | nil => simp [viewF]
 | cons c cs ih =>
  cases n with
  | zero => simp [viewF]
  | succ n => simp only [viewF, List.getElem?_cons_succ, ih, Nat.add_assoc, Nat.add_comm 1 n]
end Go.Abs
namespace Go.Abs
variable {w w' : World} {S S' : Nat → Prop} {G : Gi} {δ : Nat → DV} {Fr : Nat → Nat → Prop} {P : Program}
def Lf (w : World) (S : Nat → Prop) (δ : Nat → DV) (a : AV) (v : Value) : Prop := ∃ D : DV, D.er = a ∧ D.ann = v ∧ Ok w S D (fun _ => False) ∧ AlOK δ D
theorem Lf.sc (v : Value) (h : plainV v = true) : Lf w S δ (.sc v) v := ⟨.lf (.sc v) v, by simp, by simp, .lf _ _ _ ⟨rfl, h⟩ (fun _ h => h), .lf _ _ trivial⟩
theorem Lf.al {r : Nat} {p : List Step} {v : Value} {bx : Bool} {k : Nat} {rows : List (List DV)} (h : subD (δ r) p = some (.own v bx k rows)) : Lf w S δ (.al r p) v :=
 ⟨.lf (.al r p) v, by simp, by simp, .lf _ _ _ trivial (fun _ h => h), .lf _ _ ⟨_, _, _, h⟩⟩
theorem Lf.adr {r : Nat} {p : List Step} {i j k b : Nat} {v : Value} {bx : Bool} {rows : List (List DV)} (h : subD (δ r) p = some (.own v bx k rows)) (hb : hblk v = some b) : Lf w S δ (.adr r p i j k) (.pointer (some ⟨b, i * k + j, none⟩)) :=
 ⟨.lf (.adr r p i j k) _, by simp, by simp, .lf _ _ _ trivial (fun _ h => h), .lf _ _ ⟨_, _, _, _, h, hb, rfl⟩⟩
theorem Lf.fp {cs : List AV} {b off : Nat} (hS : S b) (h : ∀ (j : Nat) a, cs[j]? = some a → ∃ u, w.cell? ⟨b, off + j, none⟩ = some u ∧ Fz w S a u) : Lf w S δ (.fp cs) (.pointer (some ⟨b, off, none⟩)) :=
 ⟨.lf (.fp cs) _, by simp, by simp, .lf _ _ _ ⟨b, off, rfl, hS, h⟩ (fun _ h => h), .lf _ _ trivial⟩
theorem St.leaf (h : St G w S δ Fr) {s : Nat} {a : AV} (hs : (δ s).er = a) (hl : leafy a = true) : δ s = .lf a (δ s).ann ∧ LeafOK w S a (δ s).ann ∧ AlLeaf δ a (δ s).ann := by
 have hok := h.ok s
 have hal := h.al s
 cases hd : δ s with
 | lf b v =>
  rw [hd] at hs hok hal
  simp only [er_lf] at hs
  subst hs
  cases hok with
  | lf _ _ _ ha _ => cases hal with | lf _ _ hl => exact ⟨by simp, ha, hl⟩
 | own => rw [hd] at hs; simp at hs; subst hs; simp [leafy] at hl
 | agg => rw [hd] at hs; simp at hs; subst hs; simp [leafy] at hl
 | tup => rw [hd] at hs; simp at hs; subst hs; simp [leafy] at hl
theorem St.argSc (h : St G w S δ Fr) {x : Ar} (hx : ArOK x) {v : Value} (ha : ar (fun s => (δ s).er) x = .sc v) : argv δ x = v ∧ plainV v = true := by
 cases x with
 | t s =>
  obtain ⟨_, h2, _⟩ := h.leaf (s := s) ha rfl
  exact ⟨h2.1, h2.2⟩
 | c a =>
  obtain ⟨D, hD⟩ := hx
  simp only [ar] at ha
  subst ha
  simp only [cstD] at hD
  split at hD
  · rename_i hp
    obtain rfl := Option.some.inj hD
    exact ⟨by simp [argv, cstD, hp], hp⟩
  · cases hD
theorem asI_sc {a : AV} {n : Int} (h : asI a = some n) : ∃ k, a = .sc (.int k n) := by
 unfold asI at h
 split at h
 · simp only [Option.some.injEq] at h; subst h; exact ⟨_, rfl⟩
 · cases h
theorem St.node (h : St G w S δ Fr) {s r : Nat} {p : List Step} (hs : (δ s).er = .al r p) {bx : Bool} {k : Nat} {rows : List (List AV)} (hn : sub (δ r).er p = some (.own bx k rows)) :
 ∃ rowsD F, subD (δ r) p = some (.own (δ s).ann bx k rowsD) ∧ rowsD.map (·.map DV.er) = rows ∧ Ok w S (.own (δ s).ann bx k rowsD) F := by
 obtain ⟨_, _, hal⟩ := h.leaf hs rfl
 obtain ⟨bx', k', rows', hl⟩ := hal
 obtain ⟨D, hD, hDe⟩ := subD_of_sub (h.ok r).lfy hn
 rw [hl] at hD
 obtain rfl := Option.some.inj hD
 simp only [er_own, AV.own.injEq] at hDe
 obtain ⟨rfl, rfl, h3⟩ := hDe
 obtain ⟨F, hF, _⟩ := (h.ok r).subD hl
 exact ⟨rows', F, hl, h3, hF⟩
theorem St.nodeS (h : St G w S δ Fr) {s : Nat} {bx : Bool} {k : Nat} {rows : List (List AV)} (hs : (δ s).er = .own bx k rows) :
 ∃ rowsD, δ s = .own (δ s).ann bx k rowsD ∧ rowsD.map (·.map DV.er) = rows := by
 have := (h.ok s).lfy
 cases hd : δ s with
 | own v b k' rows' => rw [hd] at hs; simp only [er_own, AV.own.injEq] at hs; obtain ⟨rfl, rfl, h3⟩ := hs; exact ⟨rows', by simp, h3⟩
 | lf b v => rw [hd] at hs this; cases this with | lf _ _ hl => simp at hs; subst hs; simp [leafy] at hl
 | agg => rw [hd] at hs; simp at hs
 | tup => rw [hd] at hs; simp at hs
theorem St.adrOf (h : St G w S δ Fr) {s r i j k : Nat} {p : List Step} (ha : Abs.adrOf (fun s => (δ s).er) (.t s) = some (r, p, i, j, k)) :
 ∃ v bx rowsD b F, subD (δ r) p = some (.own v bx k rowsD) ∧ hblk v = some b ∧ (δ s).ann = .pointer (some ⟨b, i * k + j, none⟩) ∧ Ok w S (.own v bx k rowsD) F ∧ (∀ x, F x → Fr r x) := by
 simp only [Abs.adrOf] at ha
 cases hs : (δ s).er with
 | adr r' p' i' j' k' =>
  simp only [hs, Option.some.injEq, Prod.mk.injEq] at ha
  obtain ⟨rfl, rfl, rfl, rfl, rfl⟩ := ha
  obtain ⟨_, _, hal⟩ := h.leaf hs rfl
  obtain ⟨v, bx, rows, b, hl, hb, he⟩ := hal
  obtain ⟨F, hF, hsub⟩ := (h.ok _).subD hl
  exact ⟨v, bx, rows, b, F, hl, hb, he, hF, hsub⟩
 | own bx k' rows =>
  cases bx with
  | false => simp [hs] at ha
  | true =>
   simp only [hs, Option.some.injEq, Prod.mk.injEq] at ha
   obtain ⟨rfl, rfl, rfl, rfl, rfl⟩ := ha
   obtain ⟨rowsD, hd, _⟩ := h.nodeS hs
   have hok := h.ok s
   rw [hd] at hok
   generalize hv : (δ s).ann = v at *
   cases hok with
   | own _ _ _ b c arr E Fs _ hb hk hcap hSb hv' hr hdd hval hbF hF =>
    exact ⟨hdr true b rowsD.length c, true, rowsD, b, Fr s, by simp [subD, hd], by simp, by simp [hdr], by rw [← hd]; exact h.ok s, fun x hx => hx⟩
 | al r' p' =>
  simp only [hs] at ha
  split at ha
  · rename_i k' rows' hn
    simp only [Option.some.injEq, Prod.mk.injEq] at ha
    obtain ⟨rfl, rfl, rfl, rfl, rfl⟩ := ha
    obtain ⟨rowsD, F, hl, _, hF⟩ := h.node hs hn
    obtain ⟨F2, hF2, hsub⟩ := (h.ok _).subD hl
    generalize hv : (δ s).ann = v at *
    cases hF2 with
    | own _ _ _ b c arr E Fs _ hb hk hcap hSb hv' hr hdd hval hbF hF' =>
     exact ⟨hdr true b rowsD.length c, true, rowsD, b, F2, hl, by simp, by simp [hdr], .own true _ _ b c arr E Fs _ hb hk hcap hSb hv' hr hdd hval hbF hF', hsub⟩
  · cases ha
 | _ => simp [hs] at ha
theorem run_loadVar {t : TypeId} {g : Bool} {n b off : Nat} {vs : List Value} (hn : szOf P t = some n) (hg : isAggT P t = some g) (h1 : g = true ∨ n = 1) (hl : vs.length = n) (hc : ∀ (j : Nat) v, vs[j]? = some v → w.cell? ⟨b, off + j, none⟩ = some v) :
 (loadVar t ⟨b, off, none⟩).run P w = .ok (if g = true then .agg vs.toArray else vs.headD undef) w := by
 cases g with
 | true =>
  have := run_loadCells_list (P := P) w ⟨b, off, none⟩ vs (fun j v hv => by rw [Addr.add_lit]; exact hc j v hv)
  rw [hl] at this
  simp [loadVar, run_isAgg hg, run_sizeOf hn, this]
 | false =>
  obtain rfl := h1.resolve_left (by simp)
  match vs, hl with
  | [v], _ =>
   have h0 := hc 0 v rfl
   simp only [Nat.add_zero] at h0
   simp [loadVar, run_isAgg hg, h0]
theorem gather {agg : Bool} {n : Nat} {cs : List AV} {v : AV} (hv : asCells agg n cs = some v) (Ds : List DV) (he : Ds.map DV.er = cs) (hok : ∀ D ∈ Ds, Ok w S D (fun _ => False)) (hal : ∀ D ∈ Ds, AlOK δ D) :
 cs.length = n ∧ Lf w S δ v (if agg = true then .agg (Ds.map DV.ann).toArray else (Ds.map DV.ann).headD undef) := by
 unfold asCells at hv
 split at hv
 · rename_i hn
   refine ⟨hn, ?_⟩
   cases agg with
   | true =>
    simp only [if_true, Option.some.injEq] at hv
    subst hv
    exact ⟨.agg Ds, by simp [he], by simp, Ok_agg_iff.2 (OkL_empty hok), .agg _ fun i d hd => hal d (List.mem_of_getElem? hd)⟩
   | false =>
    simp only [Bool.false_eq_true, if_false] at hv
    split at hv
    · rename_i c
      simp only [Option.some.injEq] at hv
      subst hv
      match Ds, he with
      | [D], he =>
       simp only [List.map_cons, List.map_nil, List.cons.injEq, and_true] at he
       exact ⟨D, he, by simp, hok D (by simp), hal D (by simp)⟩
    · cases hv
 · cases hv
theorem frozenLeaf {a : AV} {v : Value} (h : Fz w S a v) : ∃ D : DV, D.er = plainC a ∧ D.ann = v ∧ Ok w S D (fun _ => False) ∧ AlOK δ D := by
 cases h with
 | sc v hp => exact ⟨.lf (.sc v) v, by simp [plainC], by simp, .lf _ _ _ ⟨rfl, hp⟩ (fun _ h => h), .lf _ _ trivial⟩
 | nil x k a c hx => exact ⟨.lf (.sl x k []) _, by simp [plainC], by simp, .lf _ _ _ (Fz.nil x k a c hx) (fun _ h => h), .lf _ _ trivial⟩
 | sl x k rows b off c vs hx hlc hS hk hc hr => exact ⟨.lf (.sl x k rows) _, by simp [plainC], by simp, .lf _ _ _ (Fz.sl x k rows b off c vs hx hlc hS hk hc hr) (fun _ h => h), .lf _ _ trivial⟩
 | dead => exact ⟨.lf .dead v, by simp [plainC], by simp, .lf _ _ _ trivial (fun _ h => h), .lf _ _ trivial⟩
 | agg cs vs => exact ⟨.lf .dead _, by simp [plainC], rfl, .lf _ _ _ trivial (fun _ h => h), .lf _ _ trivial⟩
 | tup cs vs => exact ⟨.lf .dead _, by simp [plainC], rfl, .lf _ _ _ trivial (fun _ h => h), .lf _ _ trivial⟩
end Go.Abs
namespace Go.Abs
variable {w w' : World} {S S' : Nat → Prop} {G : Gi} {δ : Nat → DV} {Fr : Nat → Nat → Prop} {P : Program}
def Gives (P : Program) (w : World) (S : Nat → Prop) (δ : Nat → DV) (a : Act) (o : Oper) (v : AV) : Prop :=
 ∃ u, (execOp a.eval o).run P w = .ok (.value u) w ∧ Lf w S δ v u
theorem gives_cp (h : St G w S δ Fr) {a : Act} (ha : Rd δ a) {o : Oper} {x : Operand} {y : Ar} (ho : o.op = .move x) (hc : chkA x y = true) {v : AV} (hv : valOf (.cp y) (fun s => (δ s).er) = some v) : Gives P w S δ a o v := by
 obtain ⟨hy, he⟩ := chkA_sound hc ha
 refine ⟨argv δ y, by simp [execOp, ho, he], ?_⟩
 cases y with
 | t s =>
  simp only [valOf, Option.some.injEq] at hv
  subst hv
  obtain ⟨D, h1, h2, h3, h4⟩ := viewD (δ := δ) s (h.ok s) [] (by simp [subD]) (h.al s)
  exact ⟨D, h1, h2, h3, h4⟩
 | c c =>
  simp only [valOf, Option.some.injEq] at hv
  subst hv
  obtain ⟨D, hD⟩ := hy
  obtain ⟨h1, h2, h3, _⟩ := cst_facts (w := w) (S := S) (δ := δ) c D hD
  exact ⟨D, h1, by simp [argv, hD], h2, h3⟩
theorem gives_pick (h : St G w S δ Fr) {a : Act} (ha : Rd δ a) {o : Oper} {c x y : Operand} {c' x' y' : Ar} (ho : o.op = .pick c x y) (h1 : chkA c c' = true) (h2 : chkA x x' = true) (h3 : chkA y y' = true) {v : AV}
 (hv : valOf (.pick c' x' y') (fun s => (δ s).er) = some v) : Gives P w S δ a o v := by
 obtain ⟨hc, ec⟩ := chkA_sound h1 ha
 obtain ⟨hx, ex⟩ := chkA_sound h2 ha
 obtain ⟨hy, ey⟩ := chkA_sound h3 ha
 simp only [valOf] at hv
 split at hv
 · rename_i b hb
   obtain ⟨e1, _⟩ := h.argSc hc hb
   split at hv
   · rename_i u hu
     simp only [Option.some.injEq] at hv
     subst hv
     refine ⟨u, ?_, ?_⟩
     · cases b with
       | true => have := (h.argSc hx (by simpa using hu)).1; simp [execOp, ho, ec, e1, asBool, ex, this]
       | false => have := (h.argSc hy (by simpa using hu)).1; simp [execOp, ho, ec, e1, asBool, ey, this]
     · cases b with
       | true => exact Lf.sc u (h.argSc hx (by simpa using hu)).2
       | false => exact Lf.sc u (h.argSc hy (by simpa using hu)).2
   · cases hv
 · cases hv
theorem node_cells {v : Value} {bx : Bool} {k : Nat} {rows : List (List DV)} {F : Nat → Prop} (h : Ok w S (.own v bx k rows) F) {r : Nat} {p : List Step} (hs : subD (δ r) p = some (.own v bx k rows)) {b : Nat} (hb : hblk v = some b) {i : Nat} {row : List DV}
 (hi : rows[i]? = some row) (j n : Nat) :
 ∃ Ds : List DV, Ds.map DV.er = viewC r p i k j (((row.map DV.er).drop j).take n) ∧ (∀ D ∈ Ds, Ok w S D (fun _ => False)) ∧ (∀ D ∈ Ds, AlOK δ D) ∧ (∀ (m : Nat) u, (Ds.map DV.ann)[m]? = some u → w.cell? ⟨b, i * k + j + m, none⟩ = some u) := by
 generalize hvv : v = v' at h
 cases h with
 | nil => simp at hi
 | own _ _ _ b' c arr E Fs _ hbb hk hcap hSb hv hr hd hval hbF hF =>
  subst hvv
  simp only [hblk_hdr, Option.some.injEq] at hb
  subst hb
  obtain ⟨Ds, hl, hDs⟩ := mkList ((row.drop j).take n) (fun m d D => D.er = vC r p i (j + m) k d.er ∧ D.ann = d.ann ∧ Ok w S D (fun _ => False) ∧ AlOK δ D ∧ w.cell? ⟨b', i * k + j + m, none⟩ = some D.ann) (by
   intro m d hd'
   have hd2 : row[j + m]? = some d := by
    rw [List.getElem?_take] at hd'
    split at hd'
    · simpa using hd'
    · cases hd'
   have hok := hr i (j + m) row d hi hd2
   have hcell : w.cell? ⟨b', i * k + j + m, none⟩ = some d.ann := by
    simp only [World.cell?, hbb]
    have := hv i (j + m) row d hi hd2
    rw [show i * k + j + m = i * k + (j + m) from by omega]
    simpa using this
   cases hok with
   | lf a v _ ha hFF =>
    have hl := ha.leafy
    cases a with
    | sc u => exact ⟨.lf (.sc u) v, by simp [vC], by simp, .lf _ _ _ ha (fun _ h => h), .lf _ _ trivial, hcell⟩
    | sl x k' rows' => exact ⟨.lf (.sl x k' rows') v, by simp [vC], by simp, .lf _ _ _ ha (fun _ h => h), .lf _ _ trivial, hcell⟩
    | own => simp [leafy] at hl
    | agg => simp [leafy] at hl
    | tup => simp [leafy] at hl
    | _ => exact ⟨.lf .dead v, by simp [vC], by simp, .lf _ _ _ trivial (fun _ h => h), .lf _ _ trivial, by simpa using hcell⟩
   | nil k' _ hFF => exact ⟨.lf (.al r (p ++ [(i, j + m, k)])) (.slice none 0 0), by simp [vC], by simp, .lf _ _ _ trivial (fun _ h => h), .lf _ _ ⟨false, k', [], by rw [subD_append, hs]; simp [subD, hi, hd2]⟩, by simpa using hcell⟩
   | own bx' k' rows' b'' c' arr' E' Fs' _ g1 g2 g3 g4 g5 g6 g7 g8 g9 g10 =>
    exact ⟨.lf (.al r (p ++ [(i, j + m, k)])) (hdr bx' b'' rows'.length c'), by simp [vC], by simp, .lf _ _ _ trivial (fun _ h => h), .lf _ _ ⟨bx', k', rows', by rw [subD_append, hs]; simp [subD, hi, hd2]⟩, by simpa using hcell⟩
   | agg cs => exact ⟨.lf .dead (.agg (cs.map DV.ann).toArray), by simp [vC], by simp, .lf _ _ _ trivial (fun _ h => h), .lf _ _ trivial, by simpa using hcell⟩
   | tup cs => exact ⟨.lf .dead (.tuple (cs.map DV.ann).toArray), by simp [vC], by simp, .lf _ _ _ trivial (fun _ h => h), .lf _ _ trivial, by simpa using hcell⟩)
  refine ⟨Ds, ?_, ?_, ?_, ?_⟩
  · refine map_mk hl hDs _ _ (by simp [viewC_length]) fun m d D hΦ hd' => ?_
    rw [viewC_get, ← List.map_drop, ← List.map_take, List.getElem?_map, hd']
    simp [hΦ.1]
  · intro D hD; obtain ⟨m, hm⟩ := List.getElem?_of_mem hD; obtain ⟨c, _, hΦ⟩ := mem_mk hl hDs m D hm; exact hΦ.2.2.1
  · intro D hD; obtain ⟨m, hm⟩ := List.getElem?_of_mem hD; obtain ⟨c, _, hΦ⟩ := mem_mk hl hDs m D hm; exact hΦ.2.2.2.1
  · intro m u hu
    rw [List.getElem?_map, Option.map_eq_some_iff] at hu
    obtain ⟨D, hD, rfl⟩ := hu
    obtain ⟨c, _, hΦ⟩ := mem_mk hl hDs m D hD
    exact hΦ.2.2.2.2
theorem part_gives (h : St G w S δ Fr) {s : Nat} {cs : List AV} (hs : (δ s).er = .agg cs) {agg : Bool} {n off : Nat} {v : AV} (hv : asCells agg n (viewF s off ((cs.drop off).take n)) = some v) :
 ∃ vals : List Value, (δ s).ann = .agg vals.toArray ∧ ((vals.drop off).take n).length = n ∧ Lf w S δ v (if agg = true then .agg ((vals.drop off).take n).toArray else ((vals.drop off).take n).headD undef) := by
 obtain ⟨ds, hds, hm⟩ : ∃ ds, δ s = .agg ds ∧ ds.map DV.er = cs := by
  have := (h.ok s).lfy
  cases hd : δ s with
  | agg ds => rw [hd] at hs; simp at hs; exact ⟨ds, rfl, hs⟩
  | lf c v => rw [hd] at hs this; cases this with | lf _ _ hl => simp at hs; subst hs; simp [leafy] at hl
  | own => rw [hd] at hs; simp at hs
  | tup => rw [hd] at hs; simp at hs
 have hok := h.ok s
 have hal := h.al s
 rw [hds] at hok hal
 cases hok with
 | agg _ Fs _ hr hdd hval hF =>
  cases hal with
  | agg _ hal =>
   obtain ⟨Ds, hl, hDs⟩ := mkList ((ds.drop off).take n) (fun m d D => D.er = vF s (off + m) d.er ∧ D.ann = d.ann ∧ Ok w S D (fun _ => False) ∧ AlOK δ D) (by
    intro m d hm'
    have hd : ds[off + m]? = some d := by
     rw [List.getElem?_take] at hm'
     split at hm'
     · rw [List.getElem?_drop] at hm'; exact hm'
     · cases hm'
    have hokd := hr _ d hd
    have hald := hal _ d hd
    cases d with
    | lf a u =>
     have hlf := hokd.lfy
     cases hlf with
     | lf _ _ hleaf =>
      cases hokd with
      | lf _ _ _ ha hF' =>
       refine ⟨.lf a u, ?_, rfl, .lf _ _ _ ha (fun _ h => h), hald⟩
       simp only [er_lf]
       cases a <;> simp_all [vF, leafy]
    | own u bx k rows =>
     refine ⟨.lf (.al s [(0, off + m, 0)]) u, by simp [vF], by simp, .lf _ _ _ trivial (fun _ h => h), .lf _ _ ⟨bx, k, rows, by simp [subD, hds, hd]⟩⟩
    | agg l => exact ⟨.lf .dead (DV.agg l).ann, by simp [vF], by simp, .lf _ _ _ trivial (fun _ h => h), .lf _ _ trivial⟩
    | tup l => exact ⟨.lf .dead (DV.tup l).ann, by simp [vF], by simp, .lf _ _ _ trivial (fun _ h => h), .lf _ _ trivial⟩)
   have her : Ds.map DV.er = viewF s off ((cs.drop off).take n) := map_mk hl hDs _ _ (by rw [viewF_length, ← hm]; simp) fun i d D hΦ hd => by
    rw [viewF_get, ← hm, ← List.map_drop, ← List.map_take, List.getElem?_map, hd, hΦ.1]; rfl
   have hann : Ds.map DV.ann = ((ds.map DV.ann).drop off).take n := map_mk hl hDs _ _ (by simp) fun i d D hΦ hd => by
    rw [← List.map_drop, ← List.map_take, List.getElem?_map, hd, hΦ.2.1]; rfl
   obtain ⟨hlen, hlf⟩ := gather (w := w) (S := S) (δ := δ) hv Ds her (fun D hD => by obtain ⟨m, hm'⟩ := List.getElem?_of_mem hD; obtain ⟨c, _, hΦ⟩ := mem_mk hl hDs m D hm'; exact hΦ.2.2.1)
    (fun D hD => by obtain ⟨m, hm'⟩ := List.getElem?_of_mem hD; obtain ⟨c, _, hΦ⟩ := mem_mk hl hDs m D hm'; exact hΦ.2.2.2)
   refine ⟨ds.map DV.ann, by rw [hds]; simp, ?_, ?_⟩
   · rw [← hann, List.length_map]
     have := congrArg List.length her
     rw [List.length_map] at this
     rw [this, hlen]
   · rw [hann] at hlf; exact hlf
theorem gives_ld (h : St G w S δ Fr) {a : Act} (ha : Rd δ a) {o : Oper} {t : TypeId} {x : Operand} {g : Bool} {n : Nat} {y : Ar} (ho : o.op = .load t x) (hn : szOf P t = some n) (hg : isAggT P t = some g) (hg1 : g = true ∨ n = 1) (hc : chkA x y = true) {v : AV}
 (hv : valOf (.ld g n y) (fun s => (δ s).er) = some v) : Gives P w S δ a o v := by
 obtain ⟨hy, he⟩ := chkA_sound hc ha
 cases y with
 | c c => simp [valOf] at hv
 | t s =>
  have key : ∀ (b off : Nat) (Ds : List DV), (δ s).ann = .pointer (some ⟨b, off, none⟩) → asCells g n (Ds.map DV.er) = some v → (∀ D ∈ Ds, Ok w S D (fun _ => False)) → (∀ D ∈ Ds, AlOK δ D) →
   (∀ (m : Nat) u, (Ds.map DV.ann)[m]? = some u → w.cell? ⟨b, off + m, none⟩ = some u) → Gives P w S δ a o v := by
   intro b off Ds hp hcs hok hal hcell
   obtain ⟨hlen, hlf⟩ := gather hcs Ds rfl hok hal
   refine ⟨_, ?_, hlf⟩
   have := run_loadVar (P := P) (w := w) (b := b) (off := off) (vs := Ds.map DV.ann) hn hg hg1 (by simpa using hlen) hcell
   simp only [execOp, ho, he, argv, hp, Instr.loadAt, Instr.sureAddr, Sem.run_bind, Sem.run_pure, Result.andThen_ok, this]
  simp only [valOf] at hv
  cases hs : (δ s).er with
  | fp cs =>
   simp only [hs] at hv
   obtain ⟨_, h2, _⟩ := h.leaf hs rfl
   obtain ⟨b, off, hp, hS, hcell⟩ := h2
   obtain ⟨Ds, hl, hDs⟩ := mkList (cs.take n) (fun m c D => D.er = plainC c ∧ w.cell? ⟨b, off + m, none⟩ = some D.ann ∧ Ok w S D (fun _ => False) ∧ AlOK δ D) (by
    intro m c hm
    rw [List.getElem?_take] at hm
    split at hm
    · obtain ⟨u, hu, hf⟩ := hcell m c hm
      obtain ⟨D, h1, h2, h3, h4⟩ := frozenLeaf (δ := δ) hf
      exact ⟨D, h1, by rw [h2]; exact hu, h3, h4⟩
    · cases hm)
   refine key b off Ds hp ?_ ?_ ?_ ?_
   · rw [← hv]; congr 1
     exact map_mk hl hDs _ _ (by simp) fun i c D hΦ hc => by simp only [List.getElem?_map, hc, Option.map_some, hΦ.1]
   · intro D hD; obtain ⟨m, hm⟩ := List.getElem?_of_mem hD; obtain ⟨c, _, hΦ⟩ := mem_mk hl hDs m D hm; exact hΦ.2.2.1
   · intro D hD; obtain ⟨m, hm⟩ := List.getElem?_of_mem hD; obtain ⟨c, _, hΦ⟩ := mem_mk hl hDs m D hm; exact hΦ.2.2.2
   · intro m u hu
     rw [List.getElem?_map, Option.map_eq_some_iff] at hu
     obtain ⟨D, hD, rfl⟩ := hu
     obtain ⟨c, _, hΦ⟩ := mem_mk hl hDs m D hD
     exact hΦ.2.1
  | vb q off us =>
   simp only [hs] at hv
   obtain ⟨_, ⟨b, hp, hS, hcell⟩, hann⟩ := h.leaf hs rfl
   split at hv
   · rename_i cs hq
     obtain ⟨vals, hva, hlen, hlf⟩ := part_gives h hq hv
     have hus : vals = us := by
      have h1 : (δ q).ann = .agg us.toArray := hann
      rw [hva, Value.agg.injEq] at h1
      have := congrArg Array.toList h1
      simpa using this
     subst hus
     refine ⟨_, ?_, hlf⟩
     have := run_loadVar (P := P) (w := w) (b := b) (off := off) (vs := (vals.drop off).take n) hn hg hg1 hlen (fun j v hj => by
      rw [List.getElem?_take] at hj
      split at hj
      · rw [List.getElem?_drop] at hj; exact hcell _ v hj
      · cases hj)
     simp only [execOp, ho, he, argv, hp, Instr.loadAt, Instr.sureAddr, Sem.run_bind, Sem.run_pure, Result.andThen_ok, this]
   · cases hv
  | _ =>
   simp only [hs] at hv
   split at hv
   · rename_i r p i j k hadr
     obtain ⟨vh, bx, rowsD, b, F, hsub, hb, hp, hok, _⟩ := h.adrOf hadr
     split at hv
     · rename_i bx' k' rows hn'
       obtain ⟨D, hD, hDe⟩ := subD_of_sub (h.ok r).lfy hn'
       rw [hsub] at hD
       obtain rfl := Option.some.inj hD
       simp only [er_own, AV.own.injEq] at hDe
       obtain ⟨rfl, rfl, rfl⟩ := hDe
       split at hv
       · rename_i row hrow
         rw [List.getElem?_map, Option.map_eq_some_iff] at hrow
         obtain ⟨rowD, hrD, rfl⟩ := hrow
         obtain ⟨Ds, h1, h2, h3, h4⟩ := node_cells hok hsub hb hrD j n
         exact key b (i * k + j) Ds hp (by rw [h1]; exact hv) h2 h3 h4
       · cases hv
     · cases hv
   · cases hv
end Go.Abs
namespace Go.Abs
variable {w w' : World} {S S' : Nat → Prop} {G : Gi} {δ : Nat → DV} {Fr : Nat → Nat → Prop} {P : Program}
theorem run_fieldAt {t : TypeId} {fs : Array Field} {f : Nat} {fd : Field} {n : Nat} (hu : P.underlying t = some (.struct fs)) (hf : fs[f]? = some fd) (hn : szOf P fd.type = some n) (h0 : n ≠ 0) (b off : Nat) (w : World) :
 (Instr.fieldAt t (.pointer (some ⟨b, off, none⟩)) f).run P w = .ok (.pointer (some ⟨b, off + fd.offset, none⟩)) w := by
 simp [Instr.fieldAt, underlying, hu, hf, Instr.sureAddr, fieldPlace, run_sizeOf hn, h0, Addr.add_lit]
theorem gives_fad (h : St G w S δ Fr) {a : Act} (ha : Rd δ a) {o : Oper} {t : TypeId} {x : Operand} {f off : Nat} {y : Ar} (ho : o.op = .fieldAddr t x f) {fs : Array Field} {fd : Field} {n : Nat} (hu : P.underlying t = some (.struct fs)) (hf : fs[f]? = some fd) (hoff : fd.offset = off)
 (hn : szOf P fd.type = some n) (h0 : n ≠ 0) (hc : chkA x y = true) {v : AV} (hv : valOf (.fad off y) (fun s => (δ s).er) = some v) : Gives P w S δ a o v := by
 obtain ⟨hy, he⟩ := chkA_sound hc ha
 subst hoff
 cases y with
 | c c => simp [valOf] at hv
 | t s =>
  simp only [valOf] at hv
  cases hs : (δ s).er with
  | fp cs =>
   simp only [hs, Option.some.injEq] at hv
   subst hv
   obtain ⟨_, h2, _⟩ := h.leaf hs rfl
   obtain ⟨b, off, hp, hS, hcell⟩ := h2
   refine ⟨.pointer (some ⟨b, off + fd.offset, none⟩), ?_, Lf.fp hS fun j a hj => ?_⟩
   · simp only [execOp, ho, he, argv, hp, Sem.run_bind, run_fieldAt hu hf hn h0, Result.andThen_ok, Sem.run_pure]
   · rw [List.getElem?_drop] at hj
     rw [show off + fd.offset + j = off + (fd.offset + j) from by omega]
     exact hcell _ a hj
  | vb q o us =>
   simp only [hs, Option.some.injEq] at hv
   subst hv
   obtain ⟨_, ⟨b, hp, hS, hcell⟩, hann⟩ := h.leaf hs rfl
   refine ⟨.pointer (some ⟨b, o + fd.offset, none⟩), ?_, ⟨.lf (.vb q (o + fd.offset) us) _, by simp, by simp, .lf _ _ _ ⟨b, rfl, hS, hcell⟩ (fun _ h => h), .lf _ _ hann⟩⟩
   simp only [execOp, ho, he, argv, hp, Sem.run_bind, run_fieldAt hu hf hn h0, Result.andThen_ok, Sem.run_pure]
  | _ =>
   simp only [hs] at hv
   split at hv
   · rename_i r p i j k hadr
     simp only [Option.some.injEq] at hv
     subst hv
     obtain ⟨vh, bx, rowsD, b, F, hsub, hb, hp, hok, _⟩ := h.adrOf hadr
     refine ⟨.pointer (some ⟨b, i * k + (j + fd.offset), none⟩), ?_, Lf.adr hsub hb⟩
     simp only [execOp, ho, he, argv, hp, Sem.run_bind, run_fieldAt hu hf hn h0, Result.andThen_ok, Sem.run_pure, Nat.add_assoc]
   · cases hv
theorem run_indexAt_slice {t e : TypeId} {k : Nat} (hu : P.underlying t = some (.slice e)) (hk : szOf P e = some k) {b off len c : Nat} {kk : IntKind} {n : Int} (h0 : 0 ≤ n) (h1 : n < len) (w : World) :
 (Instr.indexAt t (.slice (some ⟨b, off, none⟩) len c) (.int kk n)).run P w = .ok (.pointer (some ⟨b, off + n.toNat * k, none⟩)) w := by
 simp [Instr.indexAt, asIntOf, underlying, hu, h0, h1, run_sizeOf hk, Addr.add_lit]
theorem St.hdD (h : St G w S δ Fr) {x : Ar} (hx : ArOK x) {n : AV} {pl : Option (Nat × List Step)} (hh : hd (fun s => (δ s).er) x = some (n, pl)) :
 (∀ b k rows, n = .own b k rows → ∃ rowsD F, rowsD.map (·.map DV.er) = rows ∧ Ok w S (.own (argv δ x) b k rowsD) F ∧ ∀ r p, pl = some (r, p) → subD (δ r) p = some (.own (argv δ x) b k rowsD)) ∧
 (∀ e k rows, n = .sl e k rows → (∃ s, x = .t s ∧ (δ s).er = .sl e k rows) → Fz w S (.sl e k rows) (argv δ x)) := by
 cases x with
 | c c =>
  obtain ⟨D, hD⟩ := hx
  obtain ⟨h1, h2, h3, _⟩ := cst_facts (w := w) (S := S) (δ := δ) c D hD
  constructor
  · rintro b k rows rfl
    simp only [hd] at hh
    split at hh
    · simp only [Option.some.injEq, Prod.mk.injEq, AV.own.injEq] at hh
      obtain ⟨⟨rfl, rfl, rfl⟩, rfl⟩ := hh
      cases D with
      | own v b' k'' rowsD =>
       simp only [er_own, AV.own.injEq] at h1
       obtain ⟨rfl, rfl, h3'⟩ := h1
       exact ⟨rowsD, _, h3', by simpa [argv, hD] using h2, by simp⟩
      | lf a v => simp only [er_lf] at h1; subst h1; cases h2 with | lf _ _ _ ha _ => exact ha.elim
      | agg => simp at h1
      | tup => simp at h1
    · cases hh
  · rintro e k rows rfl ⟨s, hs, _⟩; cases hs
 | t s =>
  simp only [hd] at hh
  constructor
  · rintro b k rows rfl
    cases hs : (δ s).er with
    | al r p =>
     simp only [hs] at hh
     split at hh
     · rename_i n' hn
       simp only [Option.some.injEq, Prod.mk.injEq] at hh
       obtain ⟨rfl, rfl⟩ := hh
       obtain ⟨rowsD, F, h1, h2, h3⟩ := h.node hs hn
       exact ⟨rowsD, F, h2, h3, by rintro r' p' ⟨⟩; exact h1⟩
     · cases hh
    | own b' k' rows' =>
     simp only [hs, Option.some.injEq, Prod.mk.injEq] at hh
     obtain ⟨h1, rfl⟩ := hh
     obtain ⟨rowsD, hd', hm⟩ := h.nodeS (hs.trans h1)
     refine ⟨rowsD, Fr s, hm, ?_, ?_⟩
     · have := h.ok s; rw [hd'] at this; simpa [argv] using this
     · rintro r p ⟨⟩; simpa [subD, argv] using hd'
    | sl e' k' rows' => simp only [hs, Option.some.injEq, Prod.mk.injEq] at hh; exact absurd hh.1 (by simp)
    | _ => simp [hs] at hh
  · rintro e k rows rfl ⟨s', hs', he⟩
    cases hs'
    exact (h.leaf he rfl).2.1
theorem gives_iad (h : St G w S δ Fr) {a : Act} (ha : Rd δ a) {o : Oper} {t e : TypeId} {x i : Operand} {k : Nat} {y j : Ar} (ho : o.op = .indexAddr t x i) (hu : P.underlying t = some (.slice e)) (hk : szOf P e = some k) (hc : chkA x y = true) (hc2 : chkA i j = true) {v : AV}
 (hv : valOf (.iad k y j) (fun s => (δ s).er) = some v) : Gives P w S δ a o v := by
 obtain ⟨hy, he⟩ := chkA_sound hc ha
 obtain ⟨hj, hei⟩ := chkA_sound hc2 ha
 simp only [valOf] at hv
 split at hv
 · rename_i k' rows r p n hh hn
   split at hv
   · rename_i hcond
     obtain ⟨rfl, h0, h1⟩ := hcond
     simp only [Option.some.injEq] at hv
     subst hv
     obtain ⟨kk, hn⟩ := asI_sc hn
     obtain ⟨ei, _⟩ := h.argSc hj hn
     obtain ⟨rowsD, F, hm, hok, hpl⟩ := (h.hdD hy hh).1 _ _ _ rfl
     have hsub := hpl r p rfl
     generalize argv δ y = vh at *
     have hlen : rowsD.length = rows.length := by rw [← hm]; simp
     cases hok with
     | nil => simp at hlen; rw [← hlen] at h1; simp at h1; omega
     | own _ _ _ b c arr E Fs _ hb hk' hcap hSb hv' hr hdd hval hbF hF =>
      refine ⟨.pointer (some ⟨b, n.toNat * k' + 0, none⟩), ?_, Lf.adr hsub (by simp)⟩
      simp only [execOp, ho, he, hei, ei, hdr, Sem.run_bind, Bool.false_eq_true, if_false, run_indexAt_slice hu hk h0 (show n < (rowsD.length : Nat) by rw [hlen]; exact h1), Result.andThen_ok, Sem.run_pure]
      simp
   · cases hv
 · rename_i ee k' rows pl n hh hn
   split at hv
   · rename_i hcond
     obtain ⟨rfl, h0⟩ := hcond
     obtain ⟨kk, hn⟩ := asI_sc hn
     obtain ⟨ei, _⟩ := h.argSc hj hn
     rw [Option.map_eq_some_iff] at hv
     obtain ⟨row, hrow, rfl⟩ := hv
     have hsl : ∃ s, y = .t s ∧ (δ s).er = .sl ee k' rows := by
      cases y with
      | c c =>
       obtain ⟨D, hD⟩ := hy
       simp only [hd] at hh
       split at hh
       · simp at hh
       · cases hh
      | t s =>
       refine ⟨s, rfl, ?_⟩
       simp only [hd] at hh
       cases hs : (δ s).er with
       | sl e2 k2 rows2 => simp only [hs, Option.some.injEq, Prod.mk.injEq] at hh; exact hh.1
       | al r p =>
        simp only [hs] at hh
        split at hh
        · rename_i n' hn'
          simp only [Option.some.injEq, Prod.mk.injEq] at hh
          obtain ⟨rfl, _⟩ := hh
          -- an alias names a node
          obtain ⟨_, _, hal⟩ := h.leaf hs rfl
          obtain ⟨bx', k2, rows', hl⟩ := hal
          obtain ⟨D, hD, hDe⟩ := subD_of_sub (h.ok r).lfy hn'
          rw [hl] at hD
          obtain rfl := Option.some.inj hD
          simp at hDe
        · cases hh
       | own => simp [hs] at hh
       | _ => simp [hs] at hh
     have hfz := (h.hdD hy hh).2 _ _ _ rfl hsl
     have hlt : n.toNat < rows.length := (List.getElem?_eq_some_iff.1 hrow).1
     generalize argv δ y = vh at *
     cases hfz with
     | nil => simp at hrow
     | sl _ _ _ b off c vs hx hlc hS hk' hcell hr =>
      refine ⟨.pointer (some ⟨b, off + n.toNat * k', none⟩), ?_, Lf.fp hS fun m a hm => ?_⟩
      · simp only [execOp, ho, he, hei, ei, Sem.run_bind, run_indexAt_slice hu hk h0 (show n < (rows.length : Nat) by omega), Result.andThen_ok, Sem.run_pure]
      · refine ⟨vs n.toNat m, ?_, hr _ _ _ _ hrow hm⟩
        have := hcell _ _ _ _ hrow hm
        rw [show off + n.toNat * k' + m = off + (n.toNat * k' + m) from by omega]
        exact this
   · cases hv
 · cases hv
theorem gives_bin (h : St G w S δ Fr) {a : Act} (ha : Rd δ a) {o : Oper} {op : BinOp} {t u : TypeId} {x y : Operand} {x' y' : Ar} (ho : o.op = .binOp op t x y u) (hc : chkA x x' = true) (hc2 : chkA y y' = true) {v : AV}
 (hv : valOf (.bin op x' y') (fun s => (δ s).er) = some v) : Gives P w S δ a o v := by
 obtain ⟨hx, ex⟩ := chkA_sound hc ha
 obtain ⟨hy, ey⟩ := chkA_sound hc2 ha
 simp only [valOf] at hv
 unfold binF at hv
 split at hv
 · rename_i k n k' m h1 h2
   obtain ⟨e1, _⟩ := h.argSc hx h1
   obtain ⟨e2, _⟩ := h.argSc hy h2
   split at hv
   · rename_i hk
     subst hk
     rw [Option.map_eq_some_iff] at hv
     obtain ⟨u', hu', rfl⟩ := hv
     have hg : (eqGuard op t x y (.int k n) (.int k m)).run P w = .ok () w := by cases op <;> simp [eqGuard]
     have hr : (binOp op t (.int k n) (.int k m)).run P w = .ok u' w := by
      cases op <;> simp [binI] at hu' <;> first
       | (subst hu'; simp [binOp, Op.intArith, Op.intCmp]; done)
       | (obtain ⟨h0, rfl⟩ := hu'; simp [binOp, Op.intDiv, h0]; done)
     refine ⟨u', ?_, Lf.sc u' ?_⟩
     · simp only [execOp, ho, ex, ey, e1, e2, Sem.run_bind, hg, hr, Result.andThen_ok, Sem.run_pure]
     · cases op <;> simp [binI] at hu' <;> first
        | (subst hu'; rfl)
        | (obtain ⟨h0, rfl⟩ := hu'; rfl)
   · cases hv
 · rename_i n m h1 h2
   obtain ⟨e1, _⟩ := h.argSc hx h1
   obtain ⟨e2, _⟩ := h.argSc hy h2
   have hg : ∀ op, (eqGuard op t x y (.string n) (.string m)).run P w = .ok () w := by intro op; cases op <;> simp [eqGuard]
   split at hv
   · simp only [Option.some.injEq] at hv
     subst hv
     refine ⟨_, ?_, Lf.sc _ rfl⟩
     simp only [execOp, ho, ex, ey, e1, e2, Sem.run_bind, hg, Result.andThen_ok]
     simp [binOp, Op.stringOp]
   · simp only [Option.some.injEq] at hv
     subst hv
     refine ⟨_, ?_, Lf.sc _ rfl⟩
     simp only [execOp, ho, ex, ey, e1, e2, Sem.run_bind, hg, Result.andThen_ok]
     simp [binOp, Op.stringOp]
   · cases hv
 · cases hv
theorem gives_beq (h : St G w S δ Fr) {a : Act} (ha : Rd δ a) {o : Oper} {op : BinOp} {t u : TypeId} {x y : Operand} {x' y' : Ar} {neg : Bool} (ho : o.op = .binOp op t x y u) (hop : op = if neg = true then .neq else .eql) (ht : P.underlying t = some .bool) (hc : chkA x x' = true) (hc2 : chkA y y' = true) {v : AV}
 (hv : valOf (.beq neg x' y') (fun s => (δ s).er) = some v) : Gives P w S δ a o v := by
 obtain ⟨hx, ex⟩ := chkA_sound hc ha
 obtain ⟨hy, ey⟩ := chkA_sound hc2 ha
 simp only [valOf] at hv
 split at hv
 · rename_i n m h1 h2
   obtain ⟨e1, _⟩ := h.argSc hx h1
   obtain ⟨e2, _⟩ := h.argSc hy h2
   simp only [Option.some.injEq] at hv
   subst hv
   refine ⟨_, ?_, Lf.sc _ rfl⟩
   have hg : ∀ op, (eqGuard op t x y (.bool n) (.bool m)).run P w = .ok () w := by intro op; cases op <;> simp [eqGuard]
   cases neg with
   | true =>
    simp only [if_true] at hop
    subst hop
    simp only [execOp, ho, ex, ey, e1, e2, Sem.run_bind, hg, Result.andThen_ok, run_neq_bool w t n m ht, Sem.run_pure, if_true]
   | false =>
    simp only [Bool.false_eq_true, if_false] at hop
    subst hop
    simp only [execOp, ho, ex, ey, e1, e2, Sem.run_bind, hg, Result.andThen_ok, run_eql_bool w t n m ht, Sem.run_pure, Bool.false_eq_true, if_false]
 · cases hv
theorem gives_un (h : St G w S δ Fr) {a : Act} (ha : Rd δ a) {o : Oper} {op : UnOp} {t : TypeId} {x : Operand} {x' : Ar} (ho : o.op = .unOp op t x) (hc : chkA x x' = true) {v : AV} (hv : valOf (.un op x') (fun s => (δ s).er) = some v) : Gives P w S δ a o v := by
 obtain ⟨hx, ex⟩ := chkA_sound hc ha
 simp only [valOf] at hv
 unfold unF at hv
 split at hv
 · rename_i n h1
   obtain ⟨e1, _⟩ := h.argSc hx h1
   split at hv
   · simp only [Option.some.injEq] at hv
     subst hv
     exact ⟨_, by simp [execOp, ho, ex, e1, Op.unary], Lf.sc _ rfl⟩
   · cases hv
 · rename_i k n h1
   obtain ⟨e1, _⟩ := h.argSc hx h1
   split at hv
   · simp only [Option.some.injEq] at hv
     subst hv
     exact ⟨.int k (k.wrap (0 - n)), by simp [execOp, ho, ex, e1, Op.unary, Op.intArith], Lf.sc _ rfl⟩
   · cases hv
 · cases hv
theorem gives_cvt (h : St G w S δ Fr) {a : Act} (ha : Rd δ a) {o : Oper} {s d : TypeId} {k k0 : IntKind} {x : Operand} {x' : Ar} (ho : o.op = .convert s d x) (hs : P.underlying s = some (.int k0)) (hd : P.underlying d = some (.int k)) (hc : chkA x x' = true) {v : AV} (hv : valOf (.cvt k x') (fun s => (δ s).er) = some v) : Gives P w S δ a o v := by
 obtain ⟨hx, ex⟩ := chkA_sound hc ha
 simp only [valOf] at hv
 split at hv
 · rename_i k1 n h1
   obtain ⟨e1, _⟩ := h.argSc hx h1
   simp only [Option.some.injEq] at hv
   subst hv
   exact ⟨.int k (k.wrap n), by simp [execOp, ho, ex, e1, convert, underlying, hs, hd, Conv.intToInt], Lf.sc _ rfl⟩
 · cases hv
end Go.Abs
