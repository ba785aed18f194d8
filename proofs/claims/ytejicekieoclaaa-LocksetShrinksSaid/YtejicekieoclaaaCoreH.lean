/- The library's sort, compaction, search and growth as contracts. -/
import Derived.Test.YtejicekieoclaaaCoreG
import Derived.Sort.Grow
import Derived.Lib.SlicesCompact
import Derived.Shelf.Slices.SearchI
namespace Go.Abs
open Go.Sort
variable {w w' : World} {S S' : Nat → Prop} {P : Program}

def ints (l : List Int) : List (List AV) := l.map fun z => [AV.sc (.int .i64 z)]
theorem ints_length (l : List Int) : (ints l).length = l.length := by simp [ints]
theorem ints_get (l : List Int) (i : Nat) : (ints l)[i]? = (l[i]?).map fun z => [AV.sc (.int .i64 z)] := by simp [ints]

theorem own_ints {d : DV} {F : Nat → Prop} {zs : List Int} (h : Ok w S d F) (he : d.er = .own false 1 (ints zs)) :
    (d.ann = .slice none 0 0 ∧ zs = [] ∧ ∀ x, ¬ F x) ∨ ∃ b c arr E, d.ann = .slice (some ⟨b, 0, none⟩) zs.length c ∧ w.heap[b]? = some (.cells arr E (0, 0)) ∧ c = arr.size ∧ zs.length ≤ c ∧ ¬ S b ∧
      (∀ (i : Nat) (z : Int), zs[i]? = some z → arr[i]? = some (.int .i64 z)) ∧ (∀ x, F x ↔ x = b) := by
  cases h with
  | lf a v _ ha hF => simp only [er_lf] at he; subst he; exact ha.elim
  | agg => simp at he
  | tup => simp at he
  | nil k _ hF =>
    simp only [er_own, List.map_nil, AV.own.injEq, true_and] at he
    left
    refine ⟨by simp, ?_, hF⟩
    have := congrArg List.length he.2
    simpa [ints] using this.symm
  | own bx k rows b c arr E Fs _ hb hk hcap hSb hv hr hd hval hbF hF =>
    simp only [er_own, AV.own.injEq] at he
    obtain ⟨rfl, rfl, he⟩ := he
    right
    have hlen : rows.length = zs.length := by have := congrArg List.length he; simpa [ints] using this
    simp only [Bool.false_eq_true, if_false, Nat.mul_one] at hcap
    have hcell : ∀ (i : Nat) (z : Int), zs[i]? = some z → ∃ d v, rows[i]? = some [d] ∧ d = .lf (.sc (.int .i64 z)) v ∧ v = .int .i64 z := by
      intro i z hz
      have h1 : (rows.map (·.map DV.er))[i]? = some [AV.sc (.int .i64 z)] := by rw [he, ints_get, hz]; rfl
      rw [List.getElem?_map] at h1
      cases hri : rows[i]? with
      | none => simp [hri] at h1
      | some row =>
        simp only [hri, Option.map_some, Option.some.injEq] at h1
        obtain ⟨d, rfl, h2⟩ := List.map_eq_singleton_iff.1 h1
        clear h1
        have h1 := h2
        clear h2
        have hok := hr i 0 [d] d hri rfl
        cases hok with
        | lf a v _ ha hF => rw [er_lf] at h1; subst h1; exact ⟨_, v, rfl, rfl, ha.1⟩
        | nil => simp at h1
        | own => simp at h1
        | agg => simp at h1
        | tup => simp at h1
    refine ⟨b, c, arr, E, by simp [hdr, hlen], hb, hcap.1, by omega, hSb, ?_, ?_⟩
    · intro i z hz
      obtain ⟨d, v, h1, rfl, rfl⟩ := hcell i z hz
      have := hv i 0 _ _ h1 rfl
      simpa using this
    · intro x
      rw [hF x]
      constructor
      · rintro (h | ⟨i, j, h⟩)
        · exact h
        · obtain ⟨row, d, h1, h2⟩ := hval i j x h
          have hi : i < zs.length := by rw [← hlen]; exact (List.getElem?_eq_some_iff.1 h1).1
          obtain ⟨d', v, h3, rfl, _⟩ := hcell i zs[i] (List.getElem?_eq_getElem hi)
          rw [h1] at h3
          obtain rfl := Option.some.inj h3
          have hj : j = 0 := by have := (List.getElem?_eq_some_iff.1 h2).1; simp at this; exact this
          subst hj
          simp only [List.getElem?_cons_zero, Option.some.injEq] at h2
          subst h2
          have hok := hr i 0 _ _ h1 rfl
          cases hok with
          | lf _ _ _ _ hF' => exact absurd h (hF' x)
      · exact .inl

theorem ok_ints {b c : Nat} {arr : Array Value} {E : TypeId} {zs : List Int} (hb : w.heap[b]? = some (.cells arr E (0, 0))) (hc : c = arr.size) (hl : zs.length ≤ c) (hS : ¬ S b) (hz : ∀ (i : Nat) (z : Int), zs[i]? = some z → arr[i]? = some (.int .i64 z)) :
    ∃ d, d.er = .own false 1 (ints zs) ∧ d.ann = .slice (some ⟨b, 0, none⟩) zs.length c ∧ Ok w S d (fun x => x = b) := by
  have hrow : ∀ (i j : Nat) row d, (zs.map fun z => [DV.lf (.sc (.int .i64 z)) (.int .i64 z)])[i]? = some row → row[j]? = some d → ∃ z, zs[i]? = some z ∧ j = 0 ∧ d = .lf (.sc (.int .i64 z)) (.int .i64 z) := by
    intro i j row d h1 h2
    rw [List.getElem?_map] at h1
    cases hi : zs[i]? with
    | none => simp [hi] at h1
    | some z =>
      simp only [hi, Option.map_some, Option.some.injEq] at h1
      subst h1
      have hj : j = 0 := by have := (List.getElem?_eq_some_iff.1 h2).1; simp at this; exact this
      subst hj
      simp only [List.getElem?_cons_zero, Option.some.injEq] at h2
      exact ⟨z, rfl, rfl, h2.symm⟩
  have hok := Ok.own (w := w) (S := S) false 1 (zs.map fun z => [DV.lf (.sc (.int .i64 z)) (.int .i64 z)]) b c arr E (fun _ _ _ => False) (fun x => x = b) hb (by simp) (by simp [hc]; omega) hS
    (by intro i j row d h1 h2; obtain ⟨z, h3, rfl, rfl⟩ := hrow i j row d h1 h2; simpa using hz i z h3)
    (by intro i j row d h1 h2; obtain ⟨z, h3, rfl, rfl⟩ := hrow i j row d h1 h2; exact .lf _ _ _ ⟨rfl, rfl⟩ (fun _ h => h))
    (fun _ _ _ _ _ h => h.elim) (fun _ _ _ h => h.elim) (fun _ _ h => h) (fun x => by simp)
  exact ⟨_, by simp [ints], by simp [hdr], hok⟩

theorem holds_ints {b : Nat} {arr : Array Value} {E : TypeId} {zs : List Int} (hb : w.heap[b]? = some (.cells arr E (0, 0))) (hz : ∀ (i : Nat) (z : Int), zs[i]? = some z → arr[i]? = some (.int .i64 z)) : Holds (Value.int .i64) w b 0 zs.toArray := by
  intro j hj
  have hj' : j < zs.length := by simpa using hj
  refine ⟨?_, by simp [World.frozen?, hb]⟩
  have := hz j zs[j] (List.getElem?_eq_getElem hj')
  simp only [World.cell?, hb, Nat.zero_add]
  simp [this, hj']

theorem heap_put {g n : Nat} {os : Array Obj} {cur : Array Value} {e : TypeId} {fr : Nat × Nat} (d : Array Int) (hb : w.heap[g]? = some (.cells cur e fr)) :
    (grow (putRow (Value.int .i64) (Sort.ahead w n) g 0 d) os).heap[g]? = some (.cells (putCells (Value.int .i64) 0 d cur) e fr) := by
  have hg : g < w.heap.size := (Array.getElem?_eq_some_iff.1 hb).1
  rw [heap_grow_old _ _ (by simpa using hg)]
  simp [putRow, mapBlock, Sort.ahead, Array.getElem?_modify, hb, onCells]
theorem ext_put {g n : Nat} {os : Array Obj} (d : Array Int) {F : Nat → Prop} (hF : F g) : Ext w (grow (putRow (Value.int .i64) (Sort.ahead w n) g 0 d) os) F := by
  refine ⟨rfl, rfl, rfl, by simp, fun k hk hne => ?_⟩
  rw [heap_grow_old _ _ (by simpa using hk)]
  have : g ≠ k := fun e => hne (e ▸ hF)
  simp [putRow, mapBlock, Sort.ahead, Array.getElem?_modify, this]
theorem put_at {cur : Array Value} (ts : List Int) (h : ts.length ≤ cur.size) : ∀ (i : Nat) (z : Int), ts[i]? = some z → (putCells (Value.int .i64) 0 ts.toArray cur)[i]? = some (.int .i64 z) := by
  intro i z hz
  obtain ⟨hi, rfl⟩ := List.getElem?_eq_some_iff.1 hz
  simp [putCells, hi, show i < cur.size by omega]

theorem sort_sound {f : Nat}
    (hsort : ∀ (blk off cap : Nat) (zs : List Int) (w : World), Holds (Value.int .i64) w blk off zs.toArray → blk < w.heap.size → zs.length < 4611686018427387904 →
      Calls P f #[.slice (some ⟨blk, off, none⟩) zs.length cap] w fun e w' => e = .returned (.tuple #[]) ∧ ∃ n os, w' = grow (putRow (Value.int .i64) (Sort.ahead w n) blk off (zs.mergeSort fun x y => decide (x ≤ y)).toArray) os)
    (hnone : ∀ (p : Option Addr) (cap : Nat) (w : World), Calls P f #[.slice p 0 cap] w fun e w' => e = .returned (.tuple #[]) ∧ w' = w)
    (zs : List Int) (hl : zs.length < 4611686018427387904) : SoundAt P f [.own false 1 (ints zs)] (.tup []) [.own false 1 (ints (zs.mergeSort fun x y => decide (x ≤ y)))] := by
  intro w S ds F hds hok hS
  obtain ⟨d, rfl, hdd⟩ := List.map_eq_singleton_iff.1 hds
  replace hds := hdd
  obtain ⟨F1, F2, h1, h2, _, h4⟩ := Ok_tup_iff.1 hok
  have hF : ∀ x, F x ↔ F1 x := fun x => by rw [h4 x]; exact ⟨fun h => h.elim id fun h => absurd h (h2 x), .inl⟩
  rcases own_ints h1 hds with ⟨ha, rfl, hno⟩ | ⟨b, c, arr, E, ha, hb, hc, hlc, hSb, hz, hFb⟩
  · simp only [List.map_cons, List.map_nil, ha]
    refine (hnone none 0 w).mono ?_
    rintro e w' ⟨rfl, rfl⟩
    refine ⟨.tup [], [d], S, F, by simp, by simp, by simpa using hds, by simp [ha], ?_, ⟨rfl, rfl, rfl, Nat.le_refl _, fun _ _ _ => rfl⟩, fun _ h => h, fun _ h => .inl h, hS, fun _ h => .inl h⟩
    exact Ok_tup_iff.2 ⟨fun _ => False, F, Ok_tup_iff.2 (fun _ h => h), ⟨F1, F2, h1, h2, fun x hx => absurd hx (hno x), h4⟩, fun _ h => h.elim, fun x => by simp⟩
  · simp only [List.map_cons, List.map_nil, ha]
    refine (hsort b 0 c zs w (holds_ints hb hz) (Array.getElem?_eq_some_iff.1 hb).1 hl).mono ?_
    rintro e w' ⟨rfl, n, os, rfl⟩
    have hms : (zs.mergeSort fun x y => decide (x ≤ y)).length = zs.length := by simp
    obtain ⟨d', k1, k2, k3⟩ := ok_ints (S := S) (c := c) (heap_put (n := n) (os := os) (zs.mergeSort fun x y => decide (x ≤ y)).toArray hb) (by simp [putCells, hc]) (by rw [hms]; exact hlc) hSb (put_at _ (by rw [hms]; omega))
    refine ⟨.tup [], [d'], S, fun x => x = b, by simp, by simp, by simp [k1], by simp [k2], ?_, ext_put _ ((hF b).2 ((hFb b).2 rfl)), fun _ h => h, fun _ h => .inl h, fun x hx => ?_, fun x hx => .inl ((hF x).2 ((hFb x).2 hx))⟩
    · exact Ok_tup_iff.2 ⟨fun _ => False, fun x => x = b, Ok_tup_iff.2 (fun _ h => h), ⟨_, fun _ => False, k3, fun _ h => h, fun _ _ h => h, fun x => by simp⟩, fun _ h => h.elim, fun x => by simp⟩
    · have := hS x hx; simp; omega

theorem compact_sound {f : Nat}
    (hcomp : ∀ (blk off cap : Nat) (zs : List Int) (w : World), Holds (Value.int .i64) w blk off zs.toArray → zs.length ≤ 9223372036854775807 → zs.length ≤ cap →
      Calls P f #[.slice (some ⟨blk, off, none⟩) zs.length cap] w fun e w' => e = .returned (.slice (some ⟨blk, off, none⟩) (Lib.compact zs).length cap) ∧ ∃ q, w' = putRow (Value.int .i64) (Sort.ahead w q) blk off (Lib.compact zs ++ List.replicate (zs.length - (Lib.compact zs).length) 0).toArray)
    (hnone : ∀ (p : Option Addr) (cap : Nat) (w : World), Calls P f #[.slice p 0 cap] w fun e w' => e = .returned (.slice p 0 cap) ∧ w' = w)
    (zs : List Int) (hl : zs.length < 4611686018427387904) (hle : (Lib.compact zs).length ≤ zs.length) (hnil : Lib.compact ([] : List Int) = []) : SoundAt P f [.own false 1 (ints zs)] (.own false 1 (ints (Lib.compact zs))) [.dead] := by
  intro w S ds F hds hok hS
  obtain ⟨d, rfl, hdd⟩ := List.map_eq_singleton_iff.1 hds
  replace hds := hdd
  obtain ⟨F1, F2, h1, h2, _, h4⟩ := Ok_tup_iff.1 hok
  have hF : ∀ x, F x ↔ F1 x := fun x => by rw [h4 x]; exact ⟨fun h => h.elim id fun h => absurd h (h2 x), .inl⟩
  have hdead : ∀ w', OkL w' S [DV.lf .dead d.ann] (fun _ => False) := fun w' => OkL_empty fun x hx => by simp at hx; subst hx; exact .lf _ _ _ trivial (fun _ h => h)
  rcases own_ints h1 hds with ⟨ha, rfl, hno⟩ | ⟨b, c, arr, E, ha, hb, hc, hlc, hSb, hz, hFb⟩
  · simp only [List.map_cons, List.map_nil, ha]
    refine (hnone none 0 w).mono ?_
    rintro e w' ⟨rfl, rfl⟩
    refine ⟨d, [.lf .dead d.ann], S, F1, by rw [ha], by rw [hds, hnil], by simp, by simp [ha], ?_, ⟨rfl, rfl, rfl, Nat.le_refl _, fun _ _ _ => rfl⟩, fun _ h => h, fun _ h => .inl h, hS, fun x h => .inl ((hF x).2 h)⟩
    exact Ok_tup_iff.2 ⟨F1, fun _ => False, h1, hdead _, fun _ _ h => h, fun x => by simp⟩
  · simp only [List.map_cons, List.map_nil, ha]
    refine (hcomp b 0 c zs w (holds_ints hb hz) (by omega) hlc).mono ?_
    rintro e w' ⟨rfl, n, rfl⟩
    have hcl : (Lib.compact zs ++ List.replicate (zs.length - (Lib.compact zs).length) (0 : Int)).length = zs.length := by simp; omega
    have hh := heap_put (n := n) (os := #[]) (Lib.compact zs ++ List.replicate (zs.length - (Lib.compact zs).length) 0).toArray hb
    have he := ext_put (w := w) (n := n) (os := #[]) (g := b) (F := F) (Lib.compact zs ++ List.replicate (zs.length - (Lib.compact zs).length) 0).toArray ((hF b).2 ((hFb b).2 rfl))
    rw [grow_empty] at hh he
    obtain ⟨d', k1, k2, k3⟩ := ok_ints (S := S) (c := c) (zs := Lib.compact zs) hh (by simp [putCells, hc]) (by omega) hSb (fun i z hi => put_at (Lib.compact zs ++ List.replicate (zs.length - (Lib.compact zs).length) 0) (by rw [hcl]; omega) i z (by
      rw [List.getElem?_append_left (List.getElem?_eq_some_iff.1 hi).1]; exact hi))
    refine ⟨d', [.lf .dead d.ann], S, fun x => x = b, by rw [k2], k1, by simp, by simp [ha], ?_, he, fun _ h => h, fun _ h => .inl h, fun x hx => ?_, fun x hx => .inl ((hF x).2 ((hFb x).2 hx))⟩
    · exact Ok_tup_iff.2 ⟨_, fun _ => False, k3, hdead _, fun _ _ h => h, fun x => by simp⟩
    · have := hS x hx; simpa using this
end Go.Abs
namespace Go.Abs
open Go.Sort
variable {w w' : World} {S S' : Nat → Prop} {P : Program}

theorem fz_ints {e : Bool} {zs : List Int} {v : Value} (h : Fz w S (.sl e 1 (ints zs)) v) :
    (∃ a c, v = .slice a 0 c ∧ zs = []) ∨ ∃ b off c, v = .slice (some ⟨b, off, none⟩) zs.length c ∧ S b ∧ ∀ (i : Nat) (z : Int), zs[i]? = some z → w.cell? ⟨b, off + i, none⟩ = some (.int .i64 z) := by
  generalize hr : ints zs = rows at h
  cases h with
  | nil x k a c hx =>
    left
    refine ⟨a, c, rfl, ?_⟩
    have := congrArg List.length hr
    simpa [ints] using this
  | sl x k rows b off c vs hx hlc hS hk hc hf =>
    right
    subst hr
    refine ⟨b, off, c, by rw [ints_length], hS, ?_⟩
    intro i z hz
    have h1 : (ints zs)[i]? = some [AV.sc (.int .i64 z)] := by rw [ints_get, hz]; rfl
    have h2 := hc i 0 _ _ h1 rfl
    have h3 := hf i 0 _ _ h1 rfl
    generalize hv : vs i 0 = u at h2 h3
    cases h3 with
    | sc _ hp => simpa using h2

theorem getD_of {zs : List Int} {f : Nat → Option Value} (h : ∀ (i : Nat) (z : Int), zs[i]? = some z → f i = some (.int .i64 z)) : ∀ j, j < zs.length → f j = some (.int .i64 (zs.getD j 0)) := by
  intro j hj
  rw [h j zs[j] (List.getElem?_eq_getElem hj)]
  simp [hj]

theorem ext_drew (w : World) (q : Nat) (F : Nat → Prop) : Ext w (w.drewN q) F := ⟨rfl, rfl, rfl, Nat.le_refl _, fun _ _ _ => rfl⟩

theorem bsearch_says {f : Nat}
    (hb : ∀ (b off n c : Nat) (zs : List Int) (x : Int) (w : World), n ≤ zs.length → n < 4611686018427387904 → (∀ j, j < zs.length → w.cell? ⟨b, off + j, none⟩ = some (.int .i64 (zs.getD j 0))) → (zs.take n).Pairwise (· ≤ ·) →
      Calls P f #[.slice (some ⟨b, off, none⟩) n c, .int .i64 x] w fun e w' => e = .returned (.tuple #[.int .i64 ((zs.take n).countP (· < x) : Nat), .bool ((zs.take n).contains x)]) ∧ ∃ q, w' = w.drewN q)
    (he : ∀ (a : Option Addr) (c : Nat) (x : Int) (w : World), Calls P f #[.slice a 0 c, .int .i64 x] w fun e w' => e = .returned (.tuple #[.int .i64 0, .bool false]) ∧ w' = w)
    (zs : List Int) (x : Int) (hl : zs.length < 4611686018427387904) (hs : zs.Pairwise (· ≤ ·)) :
    Says P f [.sl false 1 (ints zs), .sc (.int .i64 x)] (.tup [.sc (.int .i64 (zs.countP (· < x) : Nat)), .sc (.bool (zs.contains x))]) := by
  intro w S ds F hds hok hS
  obtain ⟨d1, r1, rfl, h1, h2⟩ := List.map_eq_cons_iff.1 hds
  obtain ⟨d2, rfl, h3⟩ := List.map_eq_singleton_iff.1 h2
  replace h2 := h3
  obtain ⟨F1, F2, g1, g2, _, g4⟩ := Ok_tup_iff.1 hok
  obtain ⟨F3, F4, g5, _, _, _⟩ := g2
  have hv1 : Fz w S (.sl false 1 (ints zs)) d1.ann := by
    cases g1 with
    | lf a v _ ha hF => rw [er_lf] at h1; subst h1; rw [ann_lf]; exact ha
    | nil => simp at h1
    | own => simp at h1
    | agg => simp at h1
    | tup => simp at h1
  have hv2 : d2.ann = .int .i64 x := by
    cases g5 with
    | lf a v _ ha hF => rw [er_lf] at h2; subst h2; simpa using ha.1
    | nil => simp at h2
    | own => simp at h2
    | agg => simp at h2
    | tup => simp at h2
  have fin : ∀ q, ∀ e, e = Ending.returned (.tuple #[.int .i64 (zs.countP (· < x) : Nat), .bool (zs.contains x)]) → ∃ (r : DV) (os : List DV) (S' F' : Nat → Prop), e = .returned r.ann ∧ r.er = .tup [.sc (.int .i64 (zs.countP (· < x) : Nat)), .sc (.bool (zs.contains x))] ∧ os.map DV.er = [.dead, .dead] ∧ os.map DV.ann = [d1, d2].map DV.ann ∧
      Ok (w.drewN q) S' (.tup (r :: os)) F' ∧ Ext w (w.drewN q) F ∧ (∀ b, S b → S' b) ∧ (∀ b, S' b → S b ∨ F b ∨ w.heap.size ≤ b) ∧ (∀ b, S' b → b < (w.drewN q).heap.size) ∧ (∀ x, F' x → F x ∨ w.heap.size ≤ x) := by
    rintro q e rfl
    refine ⟨.tup [.lf (.sc (.int .i64 (zs.countP (· < x) : Nat))) (.int .i64 (zs.countP (· < x) : Nat)), .lf (.sc (.bool (zs.contains x))) (.bool (zs.contains x))], [.lf .dead d1.ann, .lf .dead d2.ann], S, fun _ => False, by simp, by simp, by simp, by simp, ?_, ext_drew w q F, fun _ h => h, fun _ h => .inl h, hS, fun _ h => h.elim⟩
    refine Ok_tup_iff.2 ⟨fun _ => False, fun _ => False, Ok_tup_iff.2 (OkL_empty ?_), OkL_empty ?_, fun _ h => h.elim, fun x => by simp⟩
    · intro d hd
      simp only [List.mem_cons, List.not_mem_nil, or_false] at hd
      rcases hd with rfl | rfl
      · exact .lf _ _ _ ⟨rfl, rfl⟩ (fun _ h => h)
      · exact .lf _ _ _ ⟨rfl, rfl⟩ (fun _ h => h)
    · intro d hd
      simp only [List.mem_cons, List.not_mem_nil, or_false] at hd
      rcases hd with rfl | rfl
      · exact .lf _ _ _ trivial (fun _ h => h)
      · exact .lf _ _ _ trivial (fun _ h => h)
  rcases fz_ints hv1 with ⟨a, c, hv, rfl⟩ | ⟨b, off, c, hv, _, hc⟩
  · simp only [List.map_cons, List.map_nil, hv, hv2]
    refine (he a c x w).mono ?_
    rintro e w' ⟨rfl, rfl⟩
    have := fin 0 _ rfl
    simpa [World.drewN, hv, hv2] using this
  · simp only [List.map_cons, List.map_nil, hv, hv2]
    refine (hb b off zs.length c zs x w (Nat.le_refl _) hl (getD_of hc) (by rw [List.take_length]; exact hs)).mono ?_
    rintro e w' ⟨rfl, q, rfl⟩
    rw [List.take_length]
    have := fin q _ rfl
    simpa only [List.map_cons, List.map_nil, hv, hv2] using this

theorem grow_says {f : Nat} {E : TypeId} (hE : ∀ (n : Nat) (w : World), 0 < n → n * 8 ≤ 140737488355328 → Calls P f #[.slice none 0 0, .int .i64 n] w fun e w' => ∃ (c : Nat) (arr : Array Value), arr.size = c ∧ e = .returned (.slice (some ⟨w.heap.size, 0, none⟩) 0 c) ∧ w' = w.drew.alloc (.cells arr E))
    (h0 : ∀ w : World, Calls P f #[.slice none 0 0, .int .i64 0] w fun e w' => e = .returned (.slice none 0 0) ∧ w' = w)
    (n : Nat) (hn : n * 8 ≤ 140737488355328) : Says P f [.sc (.slice none 0 0), .sc (.int .i64 n)] (.own false 1 []) := by
  intro w S ds F hds hok hS
  obtain ⟨d1, r1, rfl, h1, h2⟩ := List.map_eq_cons_iff.1 hds
  obtain ⟨d2, rfl, h3⟩ := List.map_eq_singleton_iff.1 h2
  replace h2 := h3
  obtain ⟨F1, F2, g1, g2, _, g4⟩ := Ok_tup_iff.1 hok
  obtain ⟨F3, F4, g5, _, _, _⟩ := g2
  have sc : ∀ {d : DV} {F : Nat → Prop} {u : Value}, Ok w S d F → d.er = .sc u → d.ann = u := by
    intro d F u hd he
    cases hd with
    | lf a v _ ha hF => rw [er_lf] at he; subst he; simpa using ha.1
    | nil => simp at he
    | own => simp at he
    | agg => simp at he
    | tup => simp at he
  have hv1 := sc g1 h1
  have hv2 := sc g5 h2
  have hdead : ∀ w', OkL w' S [DV.lf .dead d1.ann, DV.lf .dead d2.ann] (fun _ => False) := fun w' => OkL_empty fun d hd => by
    simp only [List.mem_cons, List.not_mem_nil, or_false] at hd
    rcases hd with rfl | rfl
    · exact .lf _ _ _ trivial (fun _ h => h)
    · exact .lf _ _ _ trivial (fun _ h => h)
  simp only [List.map_cons, List.map_nil, hv1, hv2]
  rcases Nat.eq_zero_or_pos n with rfl | hp
  · refine (h0 w).mono ?_
    rintro e w' ⟨rfl, rfl⟩
    refine ⟨.own (.slice none 0 0) false 1 [], [.lf .dead d1.ann, .lf .dead d2.ann], S, fun _ => False, by simp, by simp, by simp, by simp [hv1, hv2], ?_, ⟨rfl, rfl, rfl, Nat.le_refl _, fun _ _ _ => rfl⟩, fun _ h => h, fun _ h => .inl h, hS, fun _ h => h.elim⟩
    exact Ok_tup_iff.2 ⟨fun _ => False, fun _ => False, .nil _ _ (fun _ h => h), hdead _, fun _ h => h.elim, fun x => by simp⟩
  · refine (hE n w hp hn).mono ?_
    rintro e w' ⟨c, arr, hsz, rfl, rfl⟩
    have hh : (w.drew.alloc (.cells arr E)).heap = w.heap.push (.cells arr E) := rfl
    have hb : (w.drew.alloc (.cells arr E)).heap[w.heap.size]? = some (.cells arr E (0, 0)) := by rw [hh]; simp
    obtain ⟨d', k1, k2, k3⟩ := ok_ints (S := S) (c := c) (zs := []) hb hsz.symm (by simp) (fun h => by have := hS _ h; omega) (by simp)
    refine ⟨d', [.lf .dead d1.ann, .lf .dead d2.ann], S, fun x => x = w.heap.size, by rw [k2]; rfl, by rw [k1]; rfl, by simp, by simp [hv1, hv2], ?_, ⟨rfl, rfl, rfl, by rw [hh]; simp, fun k hk _ => ?_⟩, fun _ h => h, fun _ h => .inl h, fun x hx => ?_, fun x hx => .inr (by omega)⟩
    · exact Ok_tup_iff.2 ⟨_, fun _ => False, k3, hdead _, fun _ _ h => h, fun x => by simp⟩
    · rw [hh]; simp [Array.getElem?_push, Nat.ne_of_lt hk]
    · have := hS x hx; rw [hh]; simp; omega
end Go.Abs
