/- A calculus of abstract states of Go memory, and that it is sound (part D). -/
import Derived.Test.YteobdlimfbjjnaaDoorCoreC
import Derived.Sort.Grow
import Derived.Lib.SlicesCompact
import Derived.Shelf.Slices.SearchI
import Derived.IntWalk
import Derived.MapKept
import Derived.Lib.OthersKept
import Derived.Shelf.GgClosure.Gives
import Derived.WalkKit
import Derived.ProofKit
import Derived.OpenShut
import Derived.WideKeyArgs
import Derived.SizedLaws
import Derived.DataReads
import Derived.Below
import Derived.ChangeSame
set_option linter.unusedSimpArgs false
set_option linter.unusedVariables false
namespace Go.Abs
open Go.Sort
variable {w w' : World} {S S' : Nat → Prop} {P : Program}
def ints (l : List Int) : List (List AV) := l.map fun z => [AV.sc (.int .i64 z)]
theorem ints_get (l : List Int) (i : Nat) : (ints l)[i]? = (l[i]?).map fun z => [AV.sc (.int .i64 z)] := by simp [ints]
theorem own_ints {d : DV} {F : Nat → Prop} {zs : List Int} (h : Ok w S d F) (he : d.er = .own false 1 (ints zs)) :
 (d.ann = .slice none 0 0 ∧ zs = [] ∧ ∀ x, ¬ F x) ∨ ∃ b c arr E, d.ann = .slice (some ⟨b, 0, none⟩) zs.length c ∧ w.heap[b]? = some (.cells arr E (0, 0)) ∧ c = arr.size ∧ zs.length ≤ c ∧ ¬ S b ∧
  (∀ (i : Nat) (z : Int), zs[i]? = some z → arr[i]? = some (.int .i64 z)) ∧ (∀ x, F x ↔ x = b) := by
 cases h with
 | lf a v _ ha hF => simp only [er_lf] at he; subst he; exact ha.elim
 | agg => simp at he
 | tup => simp at he
 | nil k _ hF =>
  simp only [er_own, List.map_nil, AV.own.injEq, true_and] at he
  left
  refine ⟨by simp, ?_, hF⟩
  have := congrArg List.length he.2
  simpa [ints] using this.symm
 | own bx k rows b c arr E Fs _ hb hk hcap hSb hv hr hd hval hbF hF =>
  simp only [er_own, AV.own.injEq] at he
  obtain ⟨rfl, rfl, he⟩ := he
  right
  have hlen : rows.length = zs.length := by have := congrArg List.length he; simpa [ints] using this
  simp only [Bool.false_eq_true, if_false, Nat.mul_one] at hcap
  have hcell : ∀ (i : Nat) (z : Int), zs[i]? = some z → ∃ d v, rows[i]? = some [d] ∧ d = .lf (.sc (.int .i64 z)) v ∧ v = .int .i64 z := by
   intro i z hz
   have h1 : (rows.map (·.map DV.er))[i]? = some [AV.sc (.int .i64 z)] := by rw [he, ints_get, hz]; rfl
   rw [List.getElem?_map] at h1
   cases hri : rows[i]? with
   | none => simp [hri] at h1
   | some row =>
    simp only [hri, Option.map_some, Option.some.injEq] at h1
    obtain ⟨d, rfl, h2⟩ := List.map_eq_singleton_iff.1 h1
    clear h1
    have h1 := h2
    clear h2
    have hok := hr i 0 [d] d hri rfl
    cases hok with
    | lf a v _ ha hF => rw [er_lf] at h1; subst h1; exact ⟨_, v, rfl, rfl, ha.1⟩
    | nil => simp at h1
    | own => simp at h1
    | agg => simp at h1
    | tup => simp at h1
  refine ⟨b, c, arr, E, by simp [hdr, hlen], hb, hcap.1, by omega, hSb, ?_, ?_⟩
  · intro i z hz
    obtain ⟨d, v, h1, rfl, rfl⟩ := hcell i z hz
    have := hv i 0 _ _ h1 rfl
    simpa using this
  · intro x
    rw [hF x]
    constructor
    · rintro (h | ⟨i, j, h⟩)
      · exact h
      · obtain ⟨row, d, h1, h2⟩ := hval i j x h
        have hi : i < zs.length := by rw [← hlen]; exact (List.getElem?_eq_some_iff.1 h1).1
        obtain ⟨d', v, h3, rfl, _⟩ := hcell i zs[i] (List.getElem?_eq_getElem hi)
        rw [h1] at h3
        obtain rfl := Option.some.inj h3
        have hj : j = 0 := by have := (List.getElem?_eq_some_iff.1 h2).1; simp at this; exact this
        subst hj
        simp only [List.getElem?_cons_zero, Option.some.injEq] at h2
        subst h2
        have hok := hr i 0 _ _ h1 rfl
        cases hok with
        | lf _ _ _ _ hF' => exact absurd h (hF' x)
    · exact .inl
theorem ok_ints {b c : Nat} {arr : Array Value} {E : TypeId} {zs : List Int} (hb : w.heap[b]? = some (.cells arr E (0, 0))) (hc : c = arr.size) (hl : zs.length ≤ c) (hS : ¬ S b) (hz : ∀ (i : Nat) (z : Int), zs[i]? = some z → arr[i]? = some (.int .i64 z)) :
 ∃ d, d.er = .own false 1 (ints zs) ∧ d.ann = .slice (some ⟨b, 0, none⟩) zs.length c ∧ Ok w S d (fun x => x = b) := by
 have hrow : ∀ (i j : Nat) row d, (zs.map fun z => [DV.lf (.sc (.int .i64 z)) (.int .i64 z)])[i]? = some row → row[j]? = some d → ∃ z, zs[i]? = some z ∧ j = 0 ∧ d = .lf (.sc (.int .i64 z)) (.int .i64 z) := by
  intro i j row d h1 h2
  rw [List.getElem?_map] at h1
  cases hi : zs[i]? with
  | none => simp [hi] at h1
  | some z =>
   simp only [hi, Option.map_some, Option.some.injEq] at h1
   subst h1
   have hj : j = 0 := by have := (List.getElem?_eq_some_iff.1 h2).1; simp at this; exact this
   subst hj
   simp only [List.getElem?_cons_zero, Option.some.injEq] at h2
   exact ⟨z, rfl, rfl, h2.symm⟩
 have hok := Ok.own (w := w) (S := S) false 1 (zs.map fun z => [DV.lf (.sc (.int .i64 z)) (.int .i64 z)]) b c arr E (fun _ _ _ => False) (fun x => x = b) hb (by simp) (by simp [hc]; omega) hS
  (by intro i j row d h1 h2; obtain ⟨z, h3, rfl, rfl⟩ := hrow i j row d h1 h2; simpa using hz i z h3)
  (by intro i j row d h1 h2; obtain ⟨z, h3, rfl, rfl⟩ := hrow i j row d h1 h2; exact .lf _ _ _ ⟨rfl, rfl⟩ (fun _ h => h))
  (fun _ _ _ _ _ h => h.elim) (fun _ _ _ h => h.elim) (fun _ _ h => h) (fun x => by simp)
 exact ⟨_, by simp [ints], by simp [hdr], hok⟩
theorem holds_ints {b : Nat} {arr : Array Value} {E : TypeId} {zs : List Int} (hb : w.heap[b]? = some (.cells arr E (0, 0))) (hz : ∀ (i : Nat) (z : Int), zs[i]? = some z → arr[i]? = some (.int .i64 z)) : Holds (Value.int .i64) w b 0 zs.toArray := by
 intro j hj
 have hj' : j < zs.length := by simpa using hj
 refine ⟨?_, by simp [World.frozen?, hb]⟩
 have := hz j zs[j] (List.getElem?_eq_getElem hj')
 simp only [World.cell?, hb, Nat.zero_add]
 simp [this, hj']
theorem heap_put {g n : Nat} {os : Array Obj} {cur : Array Value} {e : TypeId} {fr : Nat × Nat} (d : Array Int) (hb : w.heap[g]? = some (.cells cur e fr)) :
 (grow (putRow (Value.int .i64) (Sort.ahead w n) g 0 d) os).heap[g]? = some (.cells (putCells (Value.int .i64) 0 d cur) e fr) := by
 have hg : g < w.heap.size := (Array.getElem?_eq_some_iff.1 hb).1
 rw [heap_grow_old _ _ (by simpa using hg)]
 simp [putRow, mapBlock, Sort.ahead, Array.getElem?_modify, hb, onCells]
theorem ext_put {g n : Nat} {os : Array Obj} (d : Array Int) {F : Nat → Prop} (hF : F g) : Ext w (grow (putRow (Value.int .i64) (Sort.ahead w n) g 0 d) os) F := by
 refine ⟨rfl, rfl, rfl, by simp, fun k hk hne => ?_⟩
 rw [heap_grow_old _ _ (by simpa using hk)]
 have : g ≠ k := fun e => hne (e ▸ hF)
 simp [putRow, mapBlock, Sort.ahead, Array.getElem?_modify, this]
theorem put_at {cur : Array Value} (ts : List Int) (h : ts.length ≤ cur.size) : ∀ (i : Nat) (z : Int), ts[i]? = some z → (putCells (Value.int .i64) 0 ts.toArray cur)[i]? = some (.int .i64 z) := by
 intro i z hz
 obtain ⟨hi, rfl⟩ := List.getElem?_eq_some_iff.1 hz
 simp [putCells, hi, show i < cur.size by omega]
theorem sort_sound {f : Nat}
 (hsort : ∀ (blk off cap : Nat) (zs : List Int) (w : World), Holds (Value.int .i64) w blk off zs.toArray → blk < w.heap.size → zs.length < 4611686018427387904 →
  Calls P f #[.slice (some ⟨blk, off, none⟩) zs.length cap] w fun e w' => e = .returned (.tuple #[]) ∧ ∃ n os, w' = grow (putRow (Value.int .i64) (Sort.ahead w n) blk off (zs.mergeSort fun x y => decide (x ≤ y)).toArray) os)
 (hnone : ∀ (p : Option Addr) (cap : Nat) (w : World), Calls P f #[.slice p 0 cap] w fun e w' => e = .returned (.tuple #[]) ∧ w' = w)
 (zs : List Int) (hl : zs.length < 4611686018427387904) : SoundAt P f [.own false 1 (ints zs)] (.tup []) [.own false 1 (ints (zs.mergeSort fun x y => decide (x ≤ y)))] := by
 intro w S ds F _ hds hok hS
 obtain ⟨d, rfl, hdd⟩ := List.map_eq_singleton_iff.1 hds
 replace hds := hdd
 obtain ⟨F1, F2, h1, h2, _, h4⟩ := Ok_tup_iff.1 hok
 have hF : ∀ x, F x ↔ F1 x := fun x => by rw [h4 x]; exact ⟨fun h => h.elim id fun h => absurd h (h2 x), .inl⟩
 rcases own_ints h1 hds with ⟨ha, rfl, hno⟩ | ⟨b, c, arr, E, ha, hb, hc, hlc, hSb, hz, hFb⟩
 · simp only [List.map_cons, List.map_nil, ha]
   refine (hnone none 0 w).mono ?_
   rintro e w' ⟨rfl, rfl⟩
   refine ⟨.tup [], [d], S, F, by simp, by simp, by simpa using hds, by simp [ha], ?_, ⟨rfl, rfl, rfl, Nat.le_refl _, fun _ _ _ => rfl⟩, fun _ h => h, fun _ h => .inl h, hS, fun _ h => .inl h⟩
   exact Ok_tup_iff.2 ⟨fun _ => False, F, Ok_tup_iff.2 (fun _ h => h), ⟨F1, F2, h1, h2, fun x hx => absurd hx (hno x), h4⟩, fun _ h => h.elim, fun x => by simp⟩
 · simp only [List.map_cons, List.map_nil, ha]
   refine (hsort b 0 c zs w (holds_ints hb hz) (Array.getElem?_eq_some_iff.1 hb).1 hl).mono ?_
   rintro e w' ⟨rfl, n, os, rfl⟩
   have hms : (zs.mergeSort fun x y => decide (x ≤ y)).length = zs.length := by simp
   obtain ⟨d', k1, k2, k3⟩ := ok_ints (S := S) (c := c) (heap_put (n := n) (os := os) (zs.mergeSort fun x y => decide (x ≤ y)).toArray hb) (by simp [putCells, hc]) (by rw [hms]; exact hlc) hSb (put_at _ (by rw [hms]; omega))
   refine ⟨.tup [], [d'], S, fun x => x = b, by simp, by simp, by simp [k1], by simp [k2], ?_, ext_put _ ((hF b).2 ((hFb b).2 rfl)), fun _ h => h, fun _ h => .inl h, fun x hx => ?_, fun x hx => .inl ((hF x).2 ((hFb x).2 hx))⟩
   · exact Ok_tup_iff.2 ⟨fun _ => False, fun x => x = b, Ok_tup_iff.2 (fun _ h => h), ⟨_, fun _ => False, k3, fun _ h => h, fun _ _ h => h, fun x => by simp⟩, fun _ h => h.elim, fun x => by simp⟩
   · have := hS x hx; simp; omega
theorem compact_sound {f : Nat}
 (hcomp : ∀ (blk off cap : Nat) (zs : List Int) (w : World), Holds (Value.int .i64) w blk off zs.toArray → zs.length ≤ 9223372036854775807 → zs.length ≤ cap →
  Calls P f #[.slice (some ⟨blk, off, none⟩) zs.length cap] w fun e w' => e = .returned (.slice (some ⟨blk, off, none⟩) (Lib.compact zs).length cap) ∧ ∃ q, w' = putRow (Value.int .i64) (Sort.ahead w q) blk off (Lib.compact zs ++ List.replicate (zs.length - (Lib.compact zs).length) 0).toArray)
 (hnone : ∀ (p : Option Addr) (cap : Nat) (w : World), Calls P f #[.slice p 0 cap] w fun e w' => e = .returned (.slice p 0 cap) ∧ w' = w)
 (zs : List Int) (hl : zs.length < 4611686018427387904) (hle : (Lib.compact zs).length ≤ zs.length) (hnil : Lib.compact ([] : List Int) = []) : SoundAt P f [.own false 1 (ints zs)] (.own false 1 (ints (Lib.compact zs))) [.dead] := by
 intro w S ds F _ hds hok hS
 obtain ⟨d, rfl, hdd⟩ := List.map_eq_singleton_iff.1 hds
 replace hds := hdd
 obtain ⟨F1, F2, h1, h2, _, h4⟩ := Ok_tup_iff.1 hok
 have hF : ∀ x, F x ↔ F1 x := fun x => by rw [h4 x]; exact ⟨fun h => h.elim id fun h => absurd h (h2 x), .inl⟩
 have hdead : ∀ w', OkL w' S [DV.lf .dead d.ann] (fun _ => False) := fun w' => OkL_empty fun x hx => by simp at hx; subst hx; exact .lf _ _ _ trivial (fun _ h => h)
 rcases own_ints h1 hds with ⟨ha, rfl, hno⟩ | ⟨b, c, arr, E, ha, hb, hc, hlc, hSb, hz, hFb⟩
 · simp only [List.map_cons, List.map_nil, ha]
   refine (hnone none 0 w).mono ?_
   rintro e w' ⟨rfl, rfl⟩
   refine ⟨d, [.lf .dead d.ann], S, F1, by rw [ha], by rw [hds, hnil], by simp, by simp [ha], ?_, ⟨rfl, rfl, rfl, Nat.le_refl _, fun _ _ _ => rfl⟩, fun _ h => h, fun _ h => .inl h, hS, fun x h => .inl ((hF x).2 h)⟩
   exact Ok_tup_iff.2 ⟨F1, fun _ => False, h1, hdead _, fun _ _ h => h, fun x => by simp⟩
 · simp only [List.map_cons, List.map_nil, ha]
   refine (hcomp b 0 c zs w (holds_ints hb hz) (by omega) hlc).mono ?_
   rintro e w' ⟨rfl, n, rfl⟩
   have hcl : (Lib.compact zs ++ List.replicate (zs.length - (Lib.compact zs).length) (0 : Int)).length = zs.length := by simp; omega
   have hh := heap_put (n := n) (os := #[]) (Lib.compact zs ++ List.replicate (zs.length - (Lib.compact zs).length) 0).toArray hb
   have he := ext_put (w := w) (n := n) (os := #[]) (g := b) (F := F) (Lib.compact zs ++ List.replicate (zs.length - (Lib.compact zs).length) 0).toArray ((hF b).2 ((hFb b).2 rfl))
   rw [grow_empty] at hh he
   obtain ⟨d', k1, k2, k3⟩ := ok_ints (S := S) (c := c) (zs := Lib.compact zs) hh (by simp [putCells, hc]) (by omega) hSb (fun i z hi => put_at (Lib.compact zs ++ List.replicate (zs.length - (Lib.compact zs).length) 0) (by rw [hcl]; omega) i z (by
    rw [List.getElem?_append_left (List.getElem?_eq_some_iff.1 hi).1]; exact hi))
   refine ⟨d', [.lf .dead d.ann], S, fun x => x = b, by rw [k2], k1, by simp, by simp [ha], ?_, he, fun _ h => h, fun _ h => .inl h, fun x hx => ?_, fun x hx => .inl ((hF x).2 ((hFb x).2 hx))⟩
   · exact Ok_tup_iff.2 ⟨_, fun _ => False, k3, hdead _, fun _ _ h => h, fun x => by simp⟩
   · have := hS x hx; simpa using this
end Go.Abs
namespace Go.Abs
open Go.Sort
variable {w w' : World} {S S' : Nat → Prop} {P : Program}
end Go.Abs
namespace Go.Abs
variable {P : Program} {G : Gi}
theorem toDst_mono {d : Option Dst} {v : AV} {K K' : Sg → Prop} {τ : Sg} (h : ∀ σ, K σ → K' σ) (ht : toDst d v K τ) : toDst d v K' τ := by
 unfold toDst at *
 split at ht
 · split at ht
   · exact h _ ht
   · exact ht.elim
 · exact h _ ht
theorem aop_mono {o : IOper} {K K' : Sg → Prop} {σ : Sg} (h : ∀ σ, K σ → K' σ) (ht : aop P G o K σ) : aop P G o K' σ := by
 obtain ⟨τ, h1, h2⟩ := aop_step.1 ht
 exact aop_step.2 ⟨τ, h1, h _ h2⟩
theorem aops_mono {K K' : Sg → Prop} (h : ∀ σ, K σ → K' σ) : ∀ {os : List IOper} {σ : Sg}, aops P G os K σ → aops P G os K' σ
 | [], _, ht => h _ ht
 | _ :: _, _, ht => aop_mono (fun _ hx => aops_mono h hx) ht
theorem axs_mono {K K' : Sg → Prop} (h : ∀ σ, K σ → K' σ) : ∀ {xs : List XOp} {σ : Sg}, axs P G xs K σ → axs P G xs K' σ
 | [], _, ht => h _ ht
 | .o _ :: _, _, ht => aop_mono (fun _ hx => axs_mono h hx) ht
 | .nilq d neg x :: xs, σ, ht => by
  simp only [axs] at ht ⊢
  split at ht
  · split at ht
    · exact fun b hb => toDst_mono (fun _ hx => axs_mono h hx) (ht b hb)
    · exact ht.elim
  · exact ht.elim
 | .gld d g n :: xs, σ, ht => by
  simp only [axs] at ht ⊢
  split at ht
  · exact toDst_mono (fun _ hx => axs_mono h hx) ht
  · exact ht.elim
 | .bxv d n s :: xs, σ, ht => by
  simp only [axs] at ht ⊢
  split at ht
  · exact ⟨ht.1, fun us hu => toDst_mono (fun _ hx => axs_mono h hx) (ht.2 us hu)⟩
  · exact ht.elim
 | .clo d f x args :: xs, σ, ht => by
  simp only [axs] at ht ⊢
  split at ht
  · obtain ⟨res, h1, h3⟩ := ht
    refine ⟨res, h1, ?_⟩
    split at h3
    · exact toDst_mono (fun _ hx => axs_mono h hx) h3
    · exact h3.elim
  · exact ht.elim
 | .lnd d f pre x c post :: xs, σ, ht => by
  simp only [axs] at ht ⊢
  split at ht
  · split at ht
    · obtain ⟨res, out, o, h1, h2, h2', h2'', h3⟩ := ht
      refine ⟨res, out, o, h1, h2, h2', h2'', ?_⟩
      split at h3
      · exact toDst_mono (fun _ hx => axs_mono h hx) h3
      · exact h3.elim
    · exact ht.elim
  · exact ht.elim
 | .lend d f x rest :: xs, σ, ht => by
  simp only [axs] at ht ⊢
  split at ht
  · split at ht
    · obtain ⟨res, out, h1, h2, h3⟩ := ht
      refine ⟨res, out, h1, h2, ?_⟩
      split at h3
      · rename_i hp hv
        exact toDst_mono (fun _ hx => axs_mono h hx) h3
      · exact h3.elim
    · exact ht.elim
  · exact ht.elim
theorem aopsB_mono {f : Flo} {K K' : Sg → Prop} (h : ∀ σ, K σ → K' σ) : ∀ {os : List IOper} {σ : Sg}, aopsB P G f os K σ → aopsB P G f os K' σ
 | [], _, ht => h _ ht
 | _ :: _, _, ht => ⟨ht.1, aop_mono (fun _ hx => aopsB_mono h hx) ht.2⟩
theorem awp_mono {ic : IC} : ∀ {Q Q' : Exit → Sg → Prop} {σ : Sg}, (∀ e σ, Q e σ → Q' e σ) → awp P G ic Q σ → awp P G ic Q' σ := by
 induction ic with
 | skip => exact fun h ht => h _ _ ht
 | bad => exact fun _ ht => ht
 | rex xs => exact fun h ht => axs_mono (h .normal) ht
 | reg ops => exact fun h ht => aops_mono (h .normal) ht
 | flc r i1 i2 d1 ops => exact fun h ht => aops_mono (h .normal) ht
 | flo f a b => exact fun h ht => aopsB_mono (fun _ hx => aops_mono (h .normal) hx) ht
 | gz r p a iha =>
  intro Q Q' σ h ht
  simp only [awp] at ht ⊢
  split at ht
  · exact iha h ht
  · exact ht.elim
 | seq a b iha ihb =>
  intro Q Q' σ h ht
  refine iha (fun e σ' hq => ?_) ht
  cases e with
  | normal => exact ihb h hq
  | _ => exact h _ _ hq
 | cond c a b iha ihb =>
  intro Q Q' σ h ht
  rw [awp_cond] at ht ⊢
  split at ht
  · split at ht
    · rename_i hx; simp only [hx, if_true]; exact iha h ht
    · rename_i hx; simp only [hx]; exact ihb h ht
  · exact ht.elim
 | block id a iha =>
  intro Q Q' σ h ht
  refine iha (fun e σ' hq => ?_) ht
  cases e with
  | exit i =>
   rw [blockA_exit] at hq ⊢
   split
   · rename_i hi; rw [if_pos hi] at hq; exact h _ _ hq
   · rename_i hi; rw [if_neg hi] at hq; exact h _ _ hq
  | _ => exact h _ _ hq
 | loop a iha =>
  intro Q Q' σ h ht
  obtain ⟨I, h0, hr⟩ := ht
  refine ⟨I, h0, fun n τ hI => iha (fun e σ' hq => ?_) (hr n τ hI)⟩
  cases e with
  | normal => exact hq
  | _ => exact h _ _ hq
 | exit id => exact fun h ht => h _ _ ht
 | ret => exact fun h ht => h _ _ ht
abbrev si (n : Int) : AV := .sc (.int .i64 n)
abbrev sb (b : Bool) : AV := .sc (.bool b)
def resIs (x : Option (List AV × Sg)) (res : AV) : Prop := match x with
 | some (vs, _) => one vs = res
 | none => False
theorem resIs_some (vs : List AV) (τ : Sg) (res : AV) : resIs (some (vs, τ)) res = (one vs = res) := (rfl)
theorem Ends_ret (G : Gi) (rs : List RV) (res : AV) (σ : Sg) : Ends G rs res .ret σ = resIs (takeRes G rs σ) res := by
 unfold Ends resIs
 cases takeRes G rs σ with
 | none => simp
 | some x => obtain ⟨vs, τ⟩ := x; simp
theorem Ends_normal (G : Gi) (rs : List RV) (res : AV) (σ : Sg) : Ends G rs res .normal σ = resIs (takeRes G rs σ) res := by
 unfold Ends resIs
 cases takeRes G rs σ with
 | none => simp
 | some x => obtain ⟨vs, τ⟩ := x; simp
theorem one_one (v : AV) : one [v] = v := (rfl)
theorem one_two (v u : AV) (l : List AV) : one (v :: u :: l) = .tup (v :: u :: l) := (rfl)
end Go.Abs
namespace Go.Abs
variable {P : Program} {G : Gi}
theorem kills_nil (d : Nat) (σ : Sg) : kills [] d σ = σ := (rfl)
theorem killnS_at (G : Gi) (n d : Nat) (σ : Sg) (s : Nat) : killnS G n d σ s = if s ∈ G.als d then killn n d (σ s) else σ s := (rfl)
theorem killS_at (G : Gi) (d : Nat) (σ : Sg) (s : Nat) : killS G d σ s = if s ∈ G.als d then killr d (σ s) else σ s := (rfl)
theorem start_at (args : List AV) (s : Nat) : start args s = args.getD s .un := (rfl)
def bK (x : Option Sg) (K : Sg → Prop) : Prop := match x with
 | some τ => K τ
 | none => False
theorem bK_some (τ : Sg) (K : Sg → Prop) : bK (some τ) K = K τ := (rfl)
theorem bK_none (K : Sg → Prop) : bK none K = False := (rfl)
theorem awp_gz (P : Program) (G : Gi) (r : Nat) (p : List Step) (a : IC) (Q : Exit → Sg → Prop) (σ : Sg) : awp P G (.gz r p a) Q σ = bK (gzS G r p σ) (awp P G a Q) := (rfl)
def condK (x : AV) (a b : Sg → Prop) (σ : Sg) : Prop := match x with
 | .sc (.bool x) => if x = true then a σ else b σ
 | _ => False
theorem condK_t (a b : Sg → Prop) (σ : Sg) : condK (.sc (.bool true)) a b σ = a σ := by simp [condK]
theorem condK_f (a b : Sg → Prop) (σ : Sg) : condK (.sc (.bool false)) a b σ = b σ := by simp [condK]
theorem awp_condK (P : Program) (G : Gi) (c : Ar) (a b : IC) (Q : Exit → Sg → Prop) (σ : Sg) : awp P G (.cond c a b) Q σ = condK (ar σ c) (awp P G a Q) (awp P G b Q) σ := (rfl)
def skipK (d : Option Dst) (K : Sg → Prop) (σ : Sg) : Prop := match d with
 | some d => K (upd (kills d.kl d.d σ) d.d .un)
 | none => K σ
theorem skipK_s (d : Dst) (K : Sg → Prop) (σ : Sg) : skipK (some d) K σ = K (upd (kills d.kl d.d σ) d.d .un) := (rfl)
theorem skipK_n (K : Sg → Prop) (σ : Sg) : skipK none K σ = K σ := (rfl)
def gK (x : AV) (want : Bool) (a b : Sg → Prop) (σ : Sg) : Prop := match x with
 | .sc (.bool x) => if x = want then a σ else b σ
 | .un => b σ
 | _ => False
theorem gK_tt (a b : Sg → Prop) (σ : Sg) : gK (.sc (.bool true)) true a b σ = a σ := by simp [gK]
theorem gK_tf (a b : Sg → Prop) (σ : Sg) : gK (.sc (.bool true)) false a b σ = b σ := by simp [gK]
theorem gK_ft (a b : Sg → Prop) (σ : Sg) : gK (.sc (.bool false)) true a b σ = b σ := by simp [gK]
theorem gK_ff (a b : Sg → Prop) (σ : Sg) : gK (.sc (.bool false)) false a b σ = a σ := by simp [gK]
theorem gK_un (want : Bool) (a b : Sg → Prop) (σ : Sg) : gK .un want a b σ = b σ := (rfl)
theorem aop_n (d : Option Dst) (op : IOp) (K : Sg → Prop) (σ : Sg) : aop P G ⟨d, op, none⟩ K σ = arun P G ⟨d, op, none⟩ K σ := (rfl)
theorem aop_g (d : Option Dst) (op : IOp) (g : Nat) (want : Bool) (K : Sg → Prop) (σ : Sg) : aop P G ⟨d, op, some (g, want)⟩ K σ = gK (σ g) want (arun P G ⟨d, op, some (g, want)⟩ K) (skipK d K) σ := (rfl)
theorem awp_flc (r i1 i2 d1 : Nat) (ops : List IOper) (Q : Exit → Sg → Prop) (σ : Sg) : awp P G (.flc r i1 i2 d1 ops) Q σ = aops P G ops (Q .normal) σ := (rfl)
theorem awp_flo (f : Flo) (a b : List IOper) (Q : Exit → Sg → Prop) (σ : Sg) : awp P G (.flo f a b) Q σ = aopsB P G f a (aops P G b (Q .normal)) σ := (rfl)
theorem aopsB_nil (f : Flo) (K : Sg → Prop) (σ : Sg) : aopsB P G f [] K σ = K σ := (rfl)
theorem aopsB_cons (f : Flo) (o : IOper) (os : List IOper) (K : Sg → Prop) (σ : Sg) : aopsB P G f (o :: os) K σ = bK (if isBx f.kb f.off (σ f.r) = true then some σ else none) (aop P G o (aopsB P G f os K)) := by
 show (_ ∧ _) = _
 by_cases h : isBx f.kb f.off (σ f.r) = true
 · simp [h, bK]
 · simp [h, bK]
theorem aops_nil (K : Sg → Prop) (σ : Sg) : aops P G [] K σ = K σ := (rfl)
theorem aops_cons (o : IOper) (os : List IOper) (K : Sg → Prop) (σ : Sg) : aops P G (o :: os) K σ = aop P G o (aops P G os K) σ := (rfl)
theorem toDst_s (d : Dst) (v : AV) (K : Sg → Prop) (τ : Sg) : toDst (some d) v K τ = bK (wr d v τ) K := (rfl)
theorem toDst_n (v : AV) (K : Sg → Prop) (τ : Sg) : toDst none v K τ = K τ := (rfl)
def resK (x : Option AV) (d : Option Dst) (K : Sg → Prop) (τ : Sg) : Prop := match x with
 | some v => toDst d v K τ
 | none => False
theorem resK_some (v : AV) (d : Option Dst) (K : Sg → Prop) (τ : Sg) : resK (some v) d K τ = toDst d v K τ := (rfl)
theorem resK_none (d : Option Dst) (K : Sg → Prop) (τ : Sg) : resK none d K τ = False := (rfl)
def callK (P : Program) (x : Option (List AV × Sg)) (f m : Nat) (d : Option Dst) (K : Sg → Prop) : Prop := match x with
 | some (avs, τ) => ∃ res, Says P f avs res ∧ resK (resV m res) d K τ
 | none => False
theorem callK_some (avs : List AV) (τ : Sg) (f m : Nat) (d : Option Dst) (K : Sg → Prop) : callK P (some (avs, τ)) f m d K = ∃ res, Says P f avs res ∧ resK (resV m res) d K τ := (rfl)
theorem arun_call (d : Option Dst) (f : Nat) (args : List Ar) (m : Nat) (g : Option (Nat × Bool)) (K : Sg → Prop) (σ : Sg) : arun P G ⟨d, .call f args m, g⟩ K σ = callK P (callArgs G m args σ) f m d K := (rfl)
theorem axs_nil (K : Sg → Prop) (σ : Sg) : axs P G [] K σ = K σ := (rfl)
theorem axs_o (o : IOper) (xs : List XOp) (K : Sg → Prop) (σ : Sg) : axs P G (.o o :: xs) K σ = aop P G o (axs P G xs K) σ := (rfl)
def nilK (x : Option (AV × Option (Nat × List Step))) (d : Dst) (neg : Bool) (K : Sg → Prop) (σ : Sg) : Prop := match x with
 | some (a, _) => (match rowsOf a with
  | some rows => ∀ b : Bool, (b = true → rows = []) → toDst (some d) (.sc (.bool (if neg = true then !b else b))) K σ
  | none => False)
 | none => False
theorem nilK_own (k : Nat) (rows : List (List AV)) (pl : Option (Nat × List Step)) (d : Dst) (neg : Bool) (K : Sg → Prop) (σ : Sg) : nilK (some (.own false k rows, pl)) d neg K σ = ∀ b : Bool, (b = true → rows = []) → toDst (some d) (.sc (.bool (if neg = true then !b else b))) K σ := (rfl)
theorem nilK_sl (e : Bool) (k : Nat) (rows : List (List AV)) (pl : Option (Nat × List Step)) (d : Dst) (neg : Bool) (K : Sg → Prop) (σ : Sg) : nilK (some (.sl e k rows, pl)) d neg K σ = ∀ b : Bool, (b = true → rows = []) → toDst (some d) (.sc (.bool (if neg = true then !b else b))) K σ := (rfl)
theorem axs_nilq (d : Dst) (neg : Bool) (x : Ar) (xs : List XOp) (K : Sg → Prop) (σ : Sg) : axs P G (.nilq d neg x :: xs) K σ = nilK (hd σ x) d neg (axs P G xs K) σ := (rfl)
def gldK (x : Option (List Value)) (d : Dst) (K : Sg → Prop) (σ : Sg) : Prop := match x with
 | some cs => toDst (some d) (.agg (cs.map .sc)) K σ
 | none => False
theorem gldK_some (cs : List Value) (d : Dst) (K : Sg → Prop) (σ : Sg) : gldK (some cs) d K σ = toDst (some d) (.agg (cs.map .sc)) K σ := (rfl)
theorem axs_gld (d : Dst) (g n : Nat) (xs : List XOp) (K : Sg → Prop) (σ : Sg) : axs P G (.gld d g n :: xs) K σ = gldK (gamAt g n) d (axs P G xs K) σ := (rfl)
def backK (t : Option AV) (v : Option AV) (d : Option Dst) (K : Sg → Prop) (r : Nat) (σ : Sg) : Prop := match t, v with
 | some t, some v => toDst d v K (upd σ r t)
 | _, _ => False
theorem backK_some (t v : AV) (d : Option Dst) (K : Sg → Prop) (r : Nat) (σ : Sg) : backK (some t) (some v) d K r σ = toDst d v K (upd σ r t) := (rfl)
def lendK (P : Program) (G : Gi) (x : Option (Nat × List Step)) (avs : Option (List AV)) (f : Nat) (d : Option Dst) (K : Sg → Prop) (σ : Sg) : Prop := match x, avs with
 | some (r, p), some avs => (match sub (σ r) p with
  | some (.own b k rows) => ∃ res out, SoundAt P f (.own b k rows :: avs) res (out :: avs.map fun _ => .dead) ∧ backOK out = true ∧ (match put (σ r) p out, resV 2 res with
   | some t, some v => toDst d v K (upd (killS G r σ) r t)
   | _, _ => False)
  | _ => False)
 | _, _ => False
theorem lendK_at {r : Nat} {p : List Step} {avs : List AV} {f : Nat} {d : Option Dst} {K : Sg → Prop} {σ : Sg} {b : Bool} {k : Nat} {rows : List (List AV)} (res out : AV) (hs : sub (σ r) p = some (.own b k rows)) (h : SoundAt P f (.own b k rows :: avs) res (out :: avs.map fun _ => .dead)) (hb : backOK out = true)
 (hk : backK (put (σ r) p out) (resV 2 res) d K r (killS G r σ)) : lendK P G (some (r, p)) (some avs) f d K σ := by
 unfold lendK
 simp only [hs]
 exact ⟨res, out, h, hb, hk⟩
def bxvK (x : AV) (d : Dst) (n s : Nat) (K : Sg → Prop) (σ : Sg) : Prop := match x with
 | .agg cs => cs.length = n ∧ ∀ us : List Value, us.length = n → toDst (some d) (.vb s 0 us) K σ
 | _ => False
theorem bxvK_agg (cs : List AV) (d : Dst) (n s : Nat) (K : Sg → Prop) (σ : Sg) : bxvK (.agg cs) d n s K σ = (cs.length = n ∧ ∀ us : List Value, us.length = n → toDst (some d) (.vb s 0 us) K σ) := (rfl)
theorem axs_bxv (d : Dst) (n s : Nat) (xs : List XOp) (K : Sg → Prop) (σ : Sg) : axs P G (.bxv d n s :: xs) K σ = bxvK (σ s) d n s (axs P G xs K) σ := (rfl)
def cloK (P : Program) (x : Option (List AV)) (f : Nat) (d : Option Dst) (K : Sg → Prop) (σ : Sg) : Prop := match x with
 | some avs => ∃ res, Says P f avs res ∧ resK (resV 0 res) d K σ
 | none => False
theorem cloK_some (f : Nat) (avs : List AV) (d : Option Dst) (K : Sg → Prop) (σ : Sg) : cloK P (some avs) f d K σ = ∃ res, Says P f avs res ∧ resK (resV 0 res) d K σ := (rfl)
theorem axs_clo (d : Option Dst) (f : Nat) (x : Ar) (args : List Ar) (xs : List XOp) (K : Sg → Prop) (σ : Sg) : axs P G (.clo d f x args :: xs) K σ = cloK P (cloA σ f x args) f d (axs P G xs K) σ := (rfl)
theorem arun_mkf (d : Option Dst) (f : Nat) (xs : List Ar) (g : Option (Nat × Bool)) (K : Sg → Prop) (σ : Sg) : arun P G ⟨d, .mkf f xs, g⟩ K σ = bK (eff G (.mkf f xs) d σ) K := (rfl)
def lndK (P : Program) (G : Gi) (x : Option (Nat × List Step)) (avs bs : Option (List AV)) (a : AV → AV) (c : Option Nat) (f : Nat) (d : Option Dst) (K : Sg → Prop) (σ : Sg) : Prop := match x, avs, bs with
 | some (r, p), some avs, some bs => (match sub (σ r) p with
  | some (.own b k rows) => ∃ res out o, SoundAt P f (avs ++ a (.own b k rows) :: bs) res ((avs.map fun _ => .dead) ++ out :: bs.map fun _ => .dead) ∧ backA c out = some o ∧ backOK o = true ∧ clean res = true ∧ (match put (σ r) p o with
   | some t => toDst d res K (upd (killS G r σ) r t)
   | none => False)
  | _ => False)
 | _, _, _ => False
theorem lndK_at {r : Nat} {p : List Step} {avs bs : List AV} {a : AV → AV} {c : Option Nat} {f : Nat} {d : Option Dst} {K : Sg → Prop} {σ : Sg} {n : AV} (res out o t : AV) (hs : sub (σ r) p = some n) (hn : (match n with | .own .. => true | _ => false) = true) (h : SoundAt P f (avs ++ a n :: bs) res ((avs.map fun _ => .dead) ++ out :: bs.map fun _ => .dead)) (hb : backA c out = some o) (hbo : backOK o = true) (hcl : clean res = true) (hp : put (σ r) p o = some t)
 (hk : toDst d res K (upd (killS G r σ) r t)) : lndK P G (some (r, p)) (some avs) (some bs) a c f d K σ := by
 unfold lndK
 cases n with
 | own b k rows => simp only [hs]; exact ⟨res, out, o, h, hb, hbo, hcl, by rw [hp]; exact hk⟩
 | _ => cases hn
theorem axs_lnd (d : Option Dst) (f : Nat) (pre : List Ar) (x : Ar) (c : Option Nat) (post : List Ar) (xs : List XOp) (K : Sg → Prop) (σ : Sg) : axs P G (.lnd d f pre x c post :: xs) K σ = lndK P G (plcC σ x c) (rdFs σ pre) (rdFs σ post) (lentA σ x c) c f d (axs P G xs K) σ := (rfl)
theorem axs_lend (d : Option Dst) (f : Nat) (x : Ar) (rest : List Ar) (xs : List XOp) (K : Sg → Prop) (σ : Sg) : axs P G (.lend d f x rest :: xs) K σ = lendK P G (plc σ x) (rdSc σ rest) f d (axs P G xs K) σ := (rfl)
theorem arun_cp (d : Option Dst) (x : Ar) (g : Option (Nat × Bool)) (K : Sg → Prop) (σ : Sg) : arun P G ⟨d, .cp x, g⟩ K σ = bK (eff G (.cp x) d σ) K := (rfl)
theorem arun_mv (d : Option Dst) (x : Ar) (g : Option (Nat × Bool)) (K : Sg → Prop) (σ : Sg) : arun P G ⟨d, .mv x, g⟩ K σ = bK (eff G (.mv x) d σ) K := (rfl)
theorem arun_fz (d : Option Dst) (x : Ar) (g : Option (Nat × Bool)) (K : Sg → Prop) (σ : Sg) : arun P G ⟨d, .fz x, g⟩ K σ = bK (eff G (.fz x) d σ) K := (rfl)
theorem arun_pick (d : Option Dst) (c : Ar) (a : Ar) (b : Ar) (g : Option (Nat × Bool)) (K : Sg → Prop) (σ : Sg) : arun P G ⟨d, .pick c a b, g⟩ K σ = bK (eff G (.pick c a b) d σ) K := (rfl)
theorem arun_bx (d : Option Dst) (n : Nat) (x : Ar) (g : Option (Nat × Bool)) (K : Sg → Prop) (σ : Sg) : arun P G ⟨d, .bx n x, g⟩ K σ = bK (eff G (.bx n x) d σ) K := (rfl)
theorem arun_bld (d : Option Dst) (z : List AV) (ps : List (Nat × Nat × Ar)) (g : Option (Nat × Bool)) (K : Sg → Prop) (σ : Sg) : arun P G ⟨d, .bld z ps, g⟩ K σ = bK (eff G (.bld z ps) d σ) K := (rfl)
theorem arun_bsl (d : Option Dst) (n : Nat) (z : List (List AV)) (ps : List (Nat × Ar)) (g : Option (Nat × Bool)) (K : Sg → Prop) (σ : Sg) : arun P G ⟨d, .bsl n z ps, g⟩ K σ = bK (eff G (.bsl n z ps) d σ) K := (rfl)
theorem arun_ld (d : Option Dst) (ag : Bool) (n : Nat) (x : Ar) (g : Option (Nat × Bool)) (K : Sg → Prop) (σ : Sg) : arun P G ⟨d, .ld ag n x, g⟩ K σ = bK (eff G (.ld ag n x) d σ) K := (rfl)
theorem arun_st (d : Option Dst) (n : Nat) (x : Ar) (y : Ar) (g : Option (Nat × Bool)) (K : Sg → Prop) (σ : Sg) : arun P G ⟨d, .st n x y, g⟩ K σ = bK (eff G (.st n x y) d σ) K := (rfl)
theorem arun_fad (d : Option Dst) (n : Nat) (x : Ar) (g : Option (Nat × Bool)) (K : Sg → Prop) (σ : Sg) : arun P G ⟨d, .fad n x, g⟩ K σ = bK (eff G (.fad n x) d σ) K := (rfl)
theorem arun_fld (d : Option Dst) (ag : Bool) (n : Nat) (m : Nat) (x : Ar) (g : Option (Nat × Bool)) (K : Sg → Prop) (σ : Sg) : arun P G ⟨d, .fld ag n m x, g⟩ K σ = bK (eff G (.fld ag n m x) d σ) K := (rfl)
theorem arun_iad (d : Option Dst) (n : Nat) (x : Ar) (y : Ar) (g : Option (Nat × Bool)) (K : Sg → Prop) (σ : Sg) : arun P G ⟨d, .iad n x y, g⟩ K σ = bK (eff G (.iad n x y) d σ) K := (rfl)
theorem arun_aad (d : Option Dst) (n : Nat) (m : Nat) (x : Ar) (y : Ar) (g : Option (Nat × Bool)) (K : Sg → Prop) (σ : Sg) : arun P G ⟨d, .aad n m x y, g⟩ K σ = bK (eff G (.aad n m x y) d σ) K := (rfl)
theorem arun_idx (d : Option Dst) (ag : Bool) (n : Nat) (m : Nat) (x : Ar) (y : Ar) (g : Option (Nat × Bool)) (K : Sg → Prop) (σ : Sg) : arun P G ⟨d, .idx ag n m x y, g⟩ K σ = bK (eff G (.idx ag n m x y) d σ) K := (rfl)
theorem arun_bin (d : Option Dst) (bop : BinOp) (x : Ar) (y : Ar) (g : Option (Nat × Bool)) (K : Sg → Prop) (σ : Sg) : arun P G ⟨d, .bin bop x y, g⟩ K σ = bK (eff G (.bin bop x y) d σ) K := (rfl)
theorem arun_beq (d : Option Dst) (ag : Bool) (x : Ar) (y : Ar) (g : Option (Nat × Bool)) (K : Sg → Prop) (σ : Sg) : arun P G ⟨d, .beq ag x y, g⟩ K σ = bK (eff G (.beq ag x y) d σ) K := (rfl)
theorem arun_un (d : Option Dst) (uop : UnOp) (x : Ar) (g : Option (Nat × Bool)) (K : Sg → Prop) (σ : Sg) : arun P G ⟨d, .un uop x, g⟩ K σ = bK (eff G (.un uop x) d σ) K := (rfl)
theorem arun_cvt (d : Option Dst) (ik : IntKind) (x : Ar) (g : Option (Nat × Bool)) (K : Sg → Prop) (σ : Sg) : arun P G ⟨d, .cvt ik x, g⟩ K σ = bK (eff G (.cvt ik x) d σ) K := (rfl)
theorem arun_len (d : Option Dst) (x : Ar) (g : Option (Nat × Bool)) (K : Sg → Prop) (σ : Sg) : arun P G ⟨d, .len x, g⟩ K σ = bK (eff G (.len x) d σ) K := (rfl)
theorem arun_sidx (d : Option Dst) (x y : Ar) (g : Option (Nat × Bool)) (K : Sg → Prop) (σ : Sg) : arun P G ⟨d, .sidx x y, g⟩ K σ = bK (eff G (.sidx x y) d σ) K := (rfl)
theorem arun_mm (d : Option Dst) (mx : Bool) (x y : Ar) (g : Option (Nat × Bool)) (K : Sg → Prop) (σ : Sg) : arun P G ⟨d, .mm mx x y, g⟩ K σ = bK (eff G (.mm mx x y) d σ) K := (rfl)
theorem arun_seqs (d : Option Dst) (neg : Bool) (kd : List Nat) (x y : Ar) (g : Option (Nat × Bool)) (K : Sg → Prop) (σ : Sg) : arun P G ⟨d, .seqs neg kd x y, g⟩ K σ = bK (eff G (.seqs neg kd x y) d σ) K := (rfl)
theorem arun_slen (d : Option Dst) (x : Ar) (g : Option (Nat × Bool)) (K : Sg → Prop) (σ : Sg) : arun P G ⟨d, .slen x, g⟩ K σ = bK (eff G (.slen x) d σ) K := (rfl)
theorem arun_app (d : Option Dst) (n : Nat) (m : Nat) (x : Ar) (y : Ar) (g : Option (Nat × Bool)) (K : Sg → Prop) (σ : Sg) : arun P G ⟨d, .app n m x y, g⟩ K σ = bK (eff G (.app n m x y) d σ) K := (rfl)
theorem arun_slc (d : Option Dst) (n : Nat) (ag : Bool) (x : Ar) (lo : Option Ar) (hi : Option Ar) (mx : Option Ar) (g : Option (Nat × Bool)) (K : Sg → Prop) (σ : Sg) : arun P G ⟨d, .slc n ag x lo hi mx, g⟩ K σ = bK (eff G (.slc n ag x lo hi mx) d σ) K := (rfl)
theorem arun_ext (d : Option Dst) (x : Ar) (n : Nat) (g : Option (Nat × Bool)) (K : Sg → Prop) (σ : Sg) : arun P G ⟨d, .ext x n, g⟩ K σ = bK (eff G (.ext x n) d σ) K := (rfl)
theorem arun_mk (d : Option Dst) (n : Nat) (m : Nat) (z : List AV) (l : Ar) (c : Ar) (g : Option (Nat × Bool)) (K : Sg → Prop) (σ : Sg) : arun P G ⟨d, .mk n m z l c, g⟩ K σ = bK (eff G (.mk n m z l c) d σ) K := (rfl)
theorem arun_fl (d : Option Dst) (g : Option (Nat × Bool)) (K : Sg → Prop) (σ : Sg) : arun P G ⟨d, .fl, g⟩ K σ = bK (eff G .fl d σ) K := (rfl)
theorem arun_iadr (d : Option Dst) (r off kb k : Nat) (i : Ar) (g : Option (Nat × Bool)) (K : Sg → Prop) (σ : Sg) : arun P G ⟨d, .iadr r off kb k i, g⟩ K σ = bK (eff G (.iadr r off kb k i) d σ) K := (rfl)
theorem arun_lda (d : Option Dst) (x : Ar) (g : Option (Nat × Bool)) (K : Sg → Prop) (σ : Sg) : arun P G ⟨d, .lda x, g⟩ K σ = bK (eff G (.lda x) d σ) K := (rfl)
theorem arun_sts (d : Option Dst) (x y : Ar) (g : Option (Nat × Bool)) (K : Sg → Prop) (σ : Sg) : arun P G ⟨d, .sts x y, g⟩ K σ = bK (eff G (.sts x y) d σ) K := (rfl)
theorem arun_nchk (d : Option Dst) (x : Ar) (g : Option (Nat × Bool)) (K : Sg → Prop) (σ : Sg) : arun P G ⟨d, .nchk x, g⟩ K σ = bK (eff G (.nchk x) d σ) K := (rfl)
theorem arun_bad (d : Option Dst) (g : Option (Nat × Bool)) (K : Sg → Prop) (σ : Sg) : arun P G ⟨d, .bad, g⟩ K σ = bK (eff G (.bad) d σ) K := (rfl)
end Go.Abs
namespace Go.Abs
variable {w w' : World} {S S' : Nat → Prop} {G : Gi} {δ : Nat → DV} {Fr : Nat → Nat → Prop} {P : Program}
def EndsF (G : Gi) (rs : List RV) (res : AV) (e : Exit) (σ : Sg) : Prop :=
 (match e with | .normal => True | .ret => True | _ => False) ∧ ∃ vs τ, takeRes G rs σ = some (vs, τ) ∧ one (vs.map fzn) = res
def resIsF (x : Option (List AV × Sg)) (res : AV) : Prop := match x with
 | some (vs, _) => one (vs.map fzn) = res
 | none => False
theorem resIsF_some (vs : List AV) (τ : Sg) (res : AV) : resIsF (some (vs, τ)) res = (one (vs.map fzn) = res) := (rfl)
theorem EndsF_ret (G : Gi) (rs : List RV) (res : AV) (σ : Sg) : EndsF G rs res .ret σ = resIsF (takeRes G rs σ) res := by
 unfold EndsF resIsF
 cases takeRes G rs σ with
 | none => simp
 | some x => obtain ⟨vs, τ⟩ := x; simp
theorem EndsF_normal (G : Gi) (rs : List RV) (res : AV) (σ : Sg) : EndsF G rs res .normal σ = resIsF (takeRes G rs σ) res := by
 unfold EndsF resIsF
 cases takeRes G rs σ with
 | none => simp
 | some x => obtain ⟨vs, τ⟩ := x; simp
def resIsO (x : Option (List AV × Sg)) (res : AV) (outs : List AV) : Prop := match x with
 | some (vs, τ) => one vs = res ∧ outOK τ 0 outs
 | none => False
theorem resIsO_some (vs : List AV) (τ : Sg) (res : AV) (outs : List AV) : resIsO (some (vs, τ)) res outs = (one vs = res ∧ outOK τ 0 outs) := (rfl)
theorem EndsO_ret (G : Gi) (rs : List RV) (res : AV) (outs : List AV) (σ : Sg) : EndsO G rs res outs .ret σ = resIsO (takeRes G rs σ) res outs := by
 unfold EndsO resIsO
 cases takeRes G rs σ with
 | none => simp
 | some x =>
  obtain ⟨vs, τ⟩ := x
  simp only [Option.some.injEq, Prod.mk.injEq, true_and, eq_iff_iff]
  exact ⟨fun ⟨_, _, ⟨e1, e2⟩, h⟩ => by subst e1; subst e2; exact h, fun h => ⟨_, _, ⟨rfl, rfl⟩, h⟩⟩
theorem EndsO_normal (G : Gi) (rs : List RV) (res : AV) (outs : List AV) (σ : Sg) : EndsO G rs res outs .normal σ = resIsO (takeRes G rs σ) res outs := by
 unfold EndsO resIsO
 cases takeRes G rs σ with
 | none => simp
 | some x =>
  obtain ⟨vs, τ⟩ := x
  simp only [Option.some.injEq, Prod.mk.injEq, true_and, eq_iff_iff]
  exact ⟨fun ⟨_, _, ⟨e1, e2⟩, h⟩ => by subst e1; subst e2; exact h, fun h => ⟨_, _, ⟨rfl, rfl⟩, h⟩⟩
end Go.Abs
namespace Go.Abs
attribute [go_sem] awp_seq awp_reg awp_rex awp_block awp_skip awp_exit awp_ret awp_gz gzS awp_condK condK_t condK_f aops_nil aops_cons aop_n aop_g gK_tt gK_tf gK_ft gK_ff
attribute [go_sem] gK_un skipK_s skipK_n bK_some bK_none toDst_s toDst_n resK_some resK_none callK_some arun_call axs_nil axs_o nilK_own nilK_sl axs_nilq axs_lend backK_some arun_cp arun_mv
attribute [go_sem] arun_fz arun_pick arun_bx arun_bld arun_bsl arun_ld arun_st arun_fad arun_fld arun_iad arun_aad arun_idx arun_bin arun_beq arun_un arun_cvt arun_len arun_slen arun_app arun_slc
attribute [go_sem] arun_mm arun_seqs eqSc eqCells arun_sidx axs_gld gldK_some tkRaw arun_ext arun_mk awp_flc awp_flo aopsB_nil aopsB_cons isBx arun_fl arun_iadr arun_lda arun_sts arun_nchk arun_bad eff tk tk1 wr valOf binF binI unF view viewL viewC viewF vC vF asCells plainC
attribute [go_sem] plainA cellA cellsOf leafy ar hd asI adrOf kills_nil kills_at killS_at killnS_at killn killnL killr killrL upd rin rinL bldL bslL splice stC
attribute [go_sem] sub put fzAt frz cutRows optI mxI appX appY callArgs rdArgs rdA rdV rdL tkArgs tkL fzn fzl resV flatA
attribute [go_sem] fresh freshL freshR plc rdSc rowsOf backOK seqA_normal seqA_exit seqA_ret blockA_normal blockA_exit blockA_ret Gi.als start_at if_true ite_true ite_false if_false Option.map_some
attribute [go_sem] Bool.false_eq_true List.getD_cons_zero List.getD_cons_succ true_and and_true and_self false_and and_false Int.natCast_nonneg Int.toNat_natCast List.take_succ_cons List.take_zero List.drop_zero List.drop_succ_cons List.map_cons List.map_nil List.length_cons List.length_nil Nat.zero_add decide_eq_true_eq
attribute [go_sem] List.getElem?_cons_zero List.getElem?_cons_succ List.all_cons List.all_nil Bool.and_true Bool.true_and Nat.le_refl List.nil_append List.append_nil beq_self_eq_true bne_self_eq_false beq_iff_eq bne_iff_ne ne_eq not_true_eq_false not_false_eq_true Ends_ret Ends_normal EndsF_ret
attribute [go_sem] EndsF_normal resIsF_some takeRes resIs_some one_one one_two AV.sc.injEq Value.bool.injEq Value.int.injEq AV.tup.injEq AV.agg.injEq List.cons.injEq AV.own.injEq AV.sl.injEq Option.some.injEq Prod.mk.injEq exists_and_left exists_eq_left exists_eq_left' exists_eq
attribute [go_sem] List.contains_nil List.filter_nil List.flatMap_nil List.not_mem_nil List.filter_cons Bool.not_true Bool.not_false Int.toNat_zero Nat.lt_irrefl Nat.sub_zero List.isEmpty_nil List.contains_cons Bool.or_false Bool.false_or Bool.or_true Bool.true_or List.mem_cons or_false false_or
attribute [go_sem] or_true true_or or_self Nat.lt_add_one Nat.zero_lt_one List.set_cons_zero List.set_cons_succ frzL frzR List.cons_append List.drop_nil List.take_nil Bool.not_eq_true Bool.and_false Bool.false_and Bool.and_self List.any_cons List.any_nil decide_true decide_false
attribute [go_sem] eq_self tkLk capF axs_bxv bxvK_agg axs_clo cloK_some cloA capR capL arun_mkf axs_lnd rdF1 rdF rdFs plcC lentA backA clean cleanL EndsO_ret EndsO_normal resIsO_some outOK
end Go.Abs
namespace Go.Abs
variable {w w' : World} {S S' : Nat → Prop} {G : Gi} {δ : Nat → DV} {Fr : Nat → Nat → Prop} {P : Program}
inductive MO where
 | mp (es : List (ByteArray × Value))
 | it (s : ByteArray) (pos : Nat)
def MO.is : MO → Obj → Prop
 | .mp es, o => ∃ arr c, o = .map arr c ∧ arr.toList.map (fun e => (e.key, e.val)) = es.map fun x => (Value.string x.1, x.2)
 | .it s p, o => o = .stringIter s p
abbrev Mu := Nat → Option MO
def RelM (G : Gi) (n : Nat) (w0 : World) (S0 U0 : Nat → Prop) (a : Act) (w : World) (σ : Sg) (μ : Mu) : Prop :=
 ∃ (w1 : World) (S1 U1 : Nat → Prop), Nx w0 S0 U0 w1 S1 U1 ∧ GIn w1 S1 U1 ∧
  (∀ b o, μ b = some o → b < w1.heap.size ∧ ¬ S1 b ∧ ¬ U1 b ∧ w0.heap.size ≤ b ∧ ∃ ob, w1.heap[b]? = some ob ∧ o.is ob) ∧ Rel G n w1 S1 U1 a w σ
variable {n : Nat} {w0 : World} {S0 U0 : Nat → Prop} {a : Act} {σ : Sg} {μ : Mu}
theorem RelM.start (hG : GIn w0 S0 U0) (h : Rel G n w0 S0 U0 a w σ) : RelM G n w0 S0 U0 a w σ (fun _ => none) :=
 ⟨w0, S0, U0, Nx.refl _ _ _, hG, fun _ _ h => by (cases h), h⟩
theorem RelM.toRel (h : RelM G n w0 S0 U0 a w σ μ) : Rel G n w0 S0 U0 a w σ := by
 obtain ⟨w1, S1, U1, hx, hG, hμ, S, δ, F, h1, h2, h3, h4, h5, h6, h7⟩ := h
 exact ⟨S, δ, F, h1, h2, h3, h4, h5, hx.trans h6, h7⟩
theorem RelM.obj (h : RelM G n w0 S0 U0 a w σ μ) {b : Nat} {o : MO} (hb : μ b = some o) : ∃ ob, w.heap[b]? = some ob ∧ o.is ob := by
 obtain ⟨w1, S1, U1, hx, hG, hμ, S, δ, F, h1, h2, h3, h4, h5, h6, h7⟩ := h
 obtain ⟨g1, g2, g3, g4, ob, g5, g6⟩ := hμ b o hb
 exact ⟨ob, by rw [h6.block b g1 g3]; exact g5, g6⟩
theorem RelM.fresh (h : RelM G n w0 S0 U0 a w σ μ) : μ w.heap.size = none := by
 cases hb : μ w.heap.size with
 | none => rfl
 | some o =>
  obtain ⟨ob, h1, _⟩ := h.obj hb
  have := (Array.getElem?_eq_some_iff.1 h1).1
  omega
theorem RelM.turn (h : RelM G n w0 S0 U0 a w σ μ) {b : Nat} {o' : MO} {ob' : Obj} (hb : (∃ o, μ b = some o) ∨ b = w.heap.size) (hos : w'.os = w.os) (htp : w'.tape = w.tape) (hou : w'.output = w.output) (hsz : w.heap.size ≤ w'.heap.size)
 (hbl : ∀ c, c < w.heap.size → c ≠ b → w'.heap[c]? = w.heap[c]?) (hnew : w'.heap[b]? = some ob') (his : o'.is ob') : RelM G n w0 S0 U0 a w' σ (upd μ b (some o')) := by
 obtain ⟨w1, S1, U1, hx, hG, hμ, S, δ, F, h1, h2, h3, rfl, h5, h6, h7⟩ := h
 have hfacts : ∀ c o, μ c = some o → c < w.heap.size ∧ ¬ S c ∧ ¬ Owned F c ∧ w0.heap.size ≤ c ∧ ∃ ob, w.heap[c]? = some ob ∧ o.is ob := by
  intro c o hc
  obtain ⟨g1, g2, g3, g4, ob, g5, g6⟩ := hμ c o hc
  have hs := h6.size
  refine ⟨by omega, ?_, ?_, g4, ob, by rw [h6.block c g1 g3]; exact g5, g6⟩
  · intro hS
    rcases h6.sup c hS with k | k | k
    · exact g2 k
    · exact g3 k
    · omega
  · intro hU
    rcases h6.own c hU with k | k
    · exact g3 k
    · omega
 have hFlt : ∀ x, Owned F x → x < w.heap.size := fun x ⟨s, hs⟩ => (h5.ok s).lt x hs
 have hbS : ¬ S b := by
  rcases hb with ⟨o, ho⟩ | rfl
  · exact (hfacts b o ho).2.1
  · intro k; have := h7 _ k; omega
 have hbF : ¬ Owned F b := by
  rcases hb with ⟨o, ho⟩ | rfl
  · exact (hfacts b o ho).2.2.1
  · intro k; have := hFlt _ k; omega
 have hx2 := hx.trans h6
 have hb0 : w0.heap.size ≤ b := by
  rcases hb with ⟨o, ho⟩ | rfl
  · exact (hfacts b o ho).2.2.2.1
  · exact hx2.size
 have hblt : b < w'.heap.size := (Array.getElem?_eq_some_iff.1 hnew).1
 have hSame : ∀ c, S c → w'.heap[c]? = w.heap[c]? := fun c hc => hbl c (h7 c hc) (by rintro rfl; exact hbS hc)
 have hFame : ∀ s x, F s x → w'.heap[x]? = w.heap[x]? := fun s x hc => hbl x (hFlt x ⟨s, hc⟩) (by rintro rfl; exact hbF ⟨s, hc⟩)
 have hst' : St G w' S δ F := h5.world hSame hFame (fun _ h => h) (fun s x hx => (h5.ok s).notS x hx)
 refine ⟨w', S, Owned F, ?_, ?_, ?_, S, δ, F, h1, h2, h3, rfl, hst', Nx.refl _ _ _, fun c hc => Nat.lt_of_lt_of_le (h7 c hc) hsz⟩
 · refine ⟨hos.trans hx2.os, htp.trans hx2.tape, hou.trans hx2.output, Nat.le_trans hx2.size hsz, ?_, hx2.sub, hx2.sup, fun hl c hc => Nat.lt_of_lt_of_le (hx2.lt hl c hc) hsz, hx2.own⟩
   intro c hc hU
   rw [hbl c (Nat.lt_of_lt_of_le hc hx2.size) (by omega), hx2.block c hc hU]
 · refine ⟨?_, fun c hc => ⟨fun ⟨s, hs⟩ => (h5.ok s).notS c hs hc, Nat.lt_of_lt_of_le (h7 c hc) hsz⟩⟩
   intro x hxm
   obtain ⟨k1, arr, E, fz, k2, k3⟩ := (hG.now h6) x hxm
   exact ⟨k1, arr, E, fz, by rw [hSame _ k1]; exact k2, k3⟩
 · intro c o hc
   by_cases hcb : c = b
   · subst hcb
     rw [upd_same] at hc
     obtain rfl := Option.some.inj hc
     exact ⟨hblt, hbS, hbF, hb0, ob', hnew, his⟩
   · rw [upd_ne _ _ hcb] at hc
     obtain ⟨g1, g2, g3, g4, ob, g5, g6⟩ := hfacts c o hc
     exact ⟨by omega, g2, g3, g4, ob, by rw [hbl c g1 hcb]; exact g5, g6⟩
theorem Rel.putD (h : Rel G n w0 S0 U0 a w σ) {o : Oper} {dst : Option Dst} (hdt : chkDst G n o.dst dst = true) {D : DV} {K : Sg → Prop} (hD : ∀ w S, Ok w S D (fun _ => False)) (hal : ∀ δ, AlOK δ D) (hK : toDst dst D.er K σ) :
 ∃ σ', Rel G n w0 S0 U0 (a.put o.dst D.ann) w σ' ∧ K σ' := by
 obtain ⟨S, δ, Fr, hn, hdef, ha, rfl, hst, hnx, hSlt⟩ := h
 have hd := chkDst_ok hdt hn
 exact call_end (S2 := S) (D := D) (FD := fun _ => False) (v := D.er) (K := K) hst hn hdef ha hd rfl (fun _ _ => rfl) hSlt (fun _ h => h) (fun _ h => .inl h) hSlt (hD w S) (fun _ h => h.elim) (hal δ) hnx rfl rfl rfl (Nat.le_refl _) hK
theorem RelM.putD (h : RelM G n w0 S0 U0 a w σ μ) {o : Oper} {dst : Option Dst} (hdt : chkDst G n o.dst dst = true) {D : DV} {K : Sg → Prop} (hD : ∀ w S, Ok w S D (fun _ => False)) (hal : ∀ δ, AlOK δ D) (hK : toDst dst D.er K σ) :
 ∃ σ', RelM G n w0 S0 U0 (a.put o.dst D.ann) w σ' μ ∧ K σ' := by
 obtain ⟨w1, S1, U1, hx, hG, hμ, hr⟩ := h
 obtain ⟨σ', h1, h2⟩ := hr.putD hdt hD hal hK
 exact ⟨σ', ⟨w1, S1, U1, hx, hG, hμ, h1⟩, h2⟩
theorem RelM.argSc (h : RelM G n w0 S0 U0 a w σ μ) {x : Operand} {y : Ar} (hc : chkA x y = true) {v : Value} (hv : ar σ y = .sc v) : a.eval x = v ∧ plainV v = true := by
 obtain ⟨S, δ, Fr, hn, hdef, ha, rfl, hst, hnx, hSlt⟩ := h.toRel
 obtain ⟨hy, he⟩ := chkA_sound hc ha
 rw [he]
 exact hst.argSc hy hv
def lookA (es : List (ByteArray × Value)) (s : ByteArray) (z : Value) : Value := match es.find? (fun x => x.1 == s) with
 | some x => x.2
 | none => z
def addA (es : List (ByteArray × Value)) (s : ByteArray) (v : Value) : List (ByteArray × Value) := es ++ [(s, v)]
inductive MOp where
 | x (o : XOp)
 | mkm (d : Dst)
 | lkp (g : Option (Nat × Bool)) (d : Dst) (m k : Ar)
 | mup (m k v : Ar)
 | rng (d : Dst) (x : Ar)
 | nxt (d : Dst) (x : Ar)
def gM (g : Option (Nat × Bool)) (d : Dst) (A : Sg → Prop) (K : Sg → Prop) (σ : Sg) : Prop := match g with
 | none => A σ
 | some (s, want) => gK (σ s) want A (fun σ => K (upd (kills d.kl d.d σ) d.d .un)) σ
def lkpK (m k : AV) (μ : Mu) (d : Dst) (K : Sg → Prop) (σ : Sg) : Prop := match m, k with
 | .sc (.map (some b)), .sc (.string s) => match μ b with
  | some (.mp es) => plainV (lookA es s (.bool false)) = true ∧ toDst (some d) (.sc (lookA es s (.bool false))) K σ
  | _ => False
 | _, _ => False
def mupK (m k v : AV) (μ : Mu) (K : Mu → Prop) : Prop := match m, k, v with
 | .sc (.map (some b)), .sc (.string s), .sc u => match μ b with
  | some (.mp es) => es.all (fun x => !(x.1 == s)) = true ∧ K (upd μ b (some (.mp (addA es s u))))
  | _ => False
 | _, _, _ => False
def rngK (x : AV) (d : Dst) (K : Sg → Mu → Prop) (σ : Sg) (μ : Mu) : Prop := match x with
 | .sc (.string s) => ∀ b, μ b = none → toDst (some d) (.sc (.pointer (some ⟨b, 0, none⟩))) (fun σ' => K σ' (upd μ b (some (.it s 0)))) σ
 | _ => False
def nxtK (x : AV) (d : Dst) (K : Sg → Mu → Prop) (σ : Sg) (μ : Mu) : Prop := match x with
 | .sc (.pointer (some ⟨b, 0, none⟩)) => match μ b with
  | some (.it s pos) => if pos < s.size then toDst (some d) (.tup [.sc (.bool true), .sc (.int .i64 pos), .sc (.int .i32 (Utf8.decode s pos).1)]) (fun σ' => K σ' (upd μ b (some (.it s (pos + (Utf8.decode s pos).2))))) σ
   else toDst (some d) (.tup [.sc (.bool false)]) (fun σ' => K σ' μ) σ
  | _ => False
 | _ => False
def ams (P : Program) (G : Gi) : List MOp → (Sg → Mu → Prop) → Sg → Mu → Prop
 | [], K, σ, μ => K σ μ
 | .x o :: l, K, σ, μ => axs P G [o] (fun σ' => ams P G l K σ' μ) σ
 | .mkm d :: l, K, σ, μ => ∀ b, μ b = none → toDst (some d) (.sc (.map (some b))) (fun σ' => ams P G l K σ' (upd μ b (some (.mp [])))) σ
 | .lkp g d m k :: l, K, σ, μ => gM g d (fun σ => lkpK (ar σ m) (ar σ k) μ d (fun σ' => ams P G l K σ' μ) σ) (fun σ' => ams P G l K σ' μ) σ
 | .mup m k v :: l, K, σ, μ => mupK (ar σ m) (ar σ k) (ar σ v) μ (fun ν => ams P G l K σ ν)
 | .rng d x :: l, K, σ, μ => rngK (ar σ x) d (ams P G l K) σ μ
 | .nxt d x :: l, K, σ, μ => nxtK (ar σ x) d (ams P G l K) σ μ
def chkMapT (P : Program) (t : TypeId) (zb : Bool) : Bool := match P.underlying t with
 | some (.map kt et) => (match P.underlying kt with | some .string => true | _ => false) && (!zb || (match (P.info? et).bind (·.zero) with | some (.bool false) => true | _ => false))
 | _ => false
def chkM (P : Program) (G : Gi) (n : Nat) (ops : Array Oper) (o : Oper) : MOp → Bool
 | .x io => chkX P G n ops o io
 | .mkm d => o.guard.isNone && chkDst G n o.dst (some d) && (match o.op with | .makeMap _ none => true | _ => false)
 | .lkp g d m k => chkGuard n ops o.guard g && chkDst G n o.dst (some d) && (match o.op with | .lookup t m' k' false => chkA m' m && chkA k' k && chkMapT P t true | _ => false)
 | .mup m k v => o.guard.isNone && chkDst G n o.dst none && (match o.op with | .mapUpdate t m' k' v' => chkA m' m && chkA k' k && chkA v' v && chkMapT P t false | _ => false)
 | .rng d x => o.guard.isNone && chkDst G n o.dst (some d) && (match o.op with | .range t x' => chkA x' x && (match P.underlying t with | some .string => true | _ => false) | _ => false)
 | .nxt d x => o.guard.isNone && chkDst G n o.dst (some d) && (match o.op with | .next x' true => chkA x' x | _ => false)
end Go.Abs
namespace Go.Abs
open Go.MapKept
variable {w w' : World} {S S' : Nat → Prop} {G : Gi} {δ : Nat → DV} {Fr : Nat → Nat → Prop} {P : Program}
variable {n : Nat} {w0 : World} {S0 U0 : Nat → Prop} {a : Act} {σ : Sg} {μ : Mu}
theorem guard_sound (h : Rel G n w0 S0 U0 a w σ) {ops : Array Oper} {o : Oper} {i : Nat} (hi : ops[i]? = some o) {d : Dst} (h1 : chkDst G n o.dst (some d) = true) {g : Option (Nat × Bool)} (h2 : chkGuard n ops o.guard g = true) {A K : Sg → Prop} (hrun : gM g d A K σ)
 {next : Act → World → Prop} (Q : Exit → Act → World → Prop) (hA : A σ → o.wp P a w next Q) (hS : ∀ a', Rel G n w0 S0 U0 a' w (upd (kills d.kl d.d σ) d.d .un) → K (upd (kills d.kl d.d σ) d.d .un) → next a' w) : wpOp P ops Q i next a w := by
 unfold wpOp
 rw [hi]
 simp only
 have skip : K (upd (kills d.kl d.d σ) d.d .un) → next (a.put o.dst undef) w := by
  intro hk
  refine hS _ ?_ hk
  obtain ⟨S, δ, Fr, hn, hdef, ha, rfl, hst, hnx, hSlt⟩ := h
  obtain ⟨g1, g2, g3, g4⟩ : o.dst = some d.d ∧ d.kl = G.als d.d ∧ d.rs = G.rtOf d.d ∧ d.d < a.tmps.size := chkDst_ok h1 hn
  have hwr : wr d (DV.lf .un undef).er (fun s => (δ s).er) = some (upd (kills d.kl d.d fun s => (δ s).er) d.d .un) := by simp [wr]
  obtain ⟨δ', F', hst', her, hann, hown⟩ := hst.wr (D := .lf .un undef) (Ff := fun _ => False) g2 g3 (fun _ _ => rfl) (fun _ _ _ => rfl) (fun _ h => h) (fun s x hx => (hst.ok s).notS x hx) (.lf _ _ _ rfl (fun _ h => h)) (fun _ _ _ h => h) (.lf _ _ trivial) hwr
  refine ⟨S, δ', F', ?_, ?_, ?_, her, hst', hnx.trans (Nx.less fun x hx => (hown x hx).elim id False.elim), hSlt⟩
  · rw [g1]; simpa [Act.put] using hn
  · rw [g1]; simpa [Act.put] using hdef
  · intro s
    rw [g1, put_get a d.d undef g4 s, hann s]
    split
    · rfl
    · exact ha s
 unfold gM at hrun
 split at hrun
 · have hog : o.guard = none := by
    unfold chkGuard at h2
    split at h2
    · assumption
    · rename_i hh; cases hh
    · cases h2
   have hw : Region.wanted o (yielded ops a.tmps) = true := by simp [Region.wanted, hog]
   rw [if_pos hw]
   exact .inl (hA hrun)
 · rename_i s want
   obtain ⟨j, hog, hjs, hsn⟩ : ∃ j, o.guard = some (j, want) ∧ (ops[j]?).bind (·.dst) = some s ∧ s < n := by
    unfold chkGuard at h2
    split at h2
    · rename_i hh; cases hh
    · rename_i j b s' b' ho hh
      simp only [Option.some.injEq, Prod.mk.injEq] at hh
      obtain ⟨rfl, rfl⟩ := hh
      simp only [Bool.and_eq_true, beq_iff_eq, decide_eq_true_eq] at h2
      exact ⟨j, by rw [ho, h2.1.2], h2.1.1, h2.2⟩
    · cases h2
   have hy : yielded ops a.tmps j = match a.tmps.getD s undef with | .bool b => some b | _ => none := by
    obtain ⟨S, δ, Fr, hn, _⟩ := h
    have hs : s < a.tmps.size := by rw [hn]; exact hsn
    unfold yielded
    rw [hjs]
    simp only [Option.bind_some, Array.getElem?_eq_getElem hs, Array.getD_eq_getD_getElem?, Option.getD_some]
    cases a.tmps[s] <;> rfl
   have hval : a.tmps.getD s undef = match σ s with | .sc v => v | .un => undef | _ => a.tmps.getD s undef := by
    obtain ⟨S, δ, Fr, hn, hdef, ha, rfl, hst, _⟩ := h
    simp only
    cases hs : (δ s).er with
    | sc v => rw [ha s]; exact (hst.leaf hs rfl).2.1.1
    | un => rw [ha s]; exact (hst.leaf hs rfl).2.1
    | _ => rfl
   unfold gK at hrun
   split at hrun
   · rename_i b hb
     rw [hb] at hval
     simp only at hval
     have hwd : Region.wanted o (yielded ops a.tmps) = (some b == some want) := by simp only [Region.wanted, hog, hy, hval]
     split at hrun
     · rename_i hbw
       subst hbw
       rw [if_pos (by rw [hwd]; simp)]
       exact .inl (hA hrun)
     · rename_i hbw
       rw [if_neg (by rw [hwd]; simp [hbw])]
       exact skip hrun
   · rename_i hb
     rw [hb] at hval
     simp only at hval
     have hwd : Region.wanted o (yielded ops a.tmps) = false := by simp only [Region.wanted, hog, hy, hval]; rfl
     rw [if_neg (by rw [hwd]; simp)]
     exact skip hrun
   · exact hrun.elim
theorem okSc (v : Value) (hp : plainV v = true) (w : World) (S : Nat → Prop) : Ok w S (.lf (.sc v) v) (fun _ => False) := .lf _ _ _ ⟨rfl, hp⟩ (fun _ h => h)
theorem okTup (l : List Value) (hp : ∀ v ∈ l, plainV v = true) (w : World) (S : Nat → Prop) : Ok w S (.tup (l.map fun v => .lf (.sc v) v)) (fun _ => False) := by
 refine Ok_tup_iff.2 (OkL_empty fun D hD => ?_)
 obtain ⟨v, hv, rfl⟩ := List.mem_map.1 hD
 exact okSc v (hp v hv) w S
theorem alTup (l : List Value) (δ : Nat → DV) : AlOK δ (.tup (l.map fun v => .lf (.sc v) v)) := by
 refine .tup _ fun i D hD => ?_
 obtain ⟨v, hv, rfl⟩ := List.mem_map.1 (List.mem_of_getElem? hD)
 exact .lf _ _ trivial
theorem findNow_look {es : List (ByteArray × Value)} {arr : List MapEntry} (h : arr.map (fun e => (e.key, e.val)) = es.map fun x => (Value.string x.1, x.2)) (s : ByteArray) (i : Nat) :
 (es.find? (fun x => x.1 == s) = none ∧ Instr.findNow .string (.string s) arr i = some none) ∨ ∃ x j, es.find? (fun x => x.1 == s) = some x ∧ Instr.findNow .string (.string s) arr i = some (some (j, x.2)) := by
 induction es generalizing arr i with
 | nil => cases arr with
  | nil => exact .inl ⟨rfl, rfl⟩
  | cons e r => simp at h
 | cons x es ih =>
  cases arr with
  | nil => simp at h
  | cons e r =>
   simp only [List.map_cons, List.cons.injEq, Prod.mk.injEq] at h
   obtain ⟨⟨h1, h2⟩, h3⟩ := h
   by_cases hx : (s == x.1) = true
   · have hx' : (x.1 == s) = true := by rw [bytes_beq] at hx ⊢; exact hx.symm
     exact .inr ⟨x, i, by simp [List.find?, hx'], by simp [Instr.findNow, h1, Instr.sameNow, hx, h2]⟩
   · have hx' : (x.1 == s) = false := by rw [← Bool.not_eq_true, bytes_beq]; rw [bytes_beq] at hx; exact fun e => hx e.symm
     have hx2 : (s == x.1) = false := by simpa using hx
     rcases ih h3 (i + 1) with ⟨k1, k2⟩ | ⟨y, j, k1, k2⟩
     · exact .inl ⟨by simp [List.find?, hx', k1], by simp [Instr.findNow, h1, Instr.sameNow, hx2, k2]⟩
     · exact .inr ⟨y, j, by simp [List.find?, hx', k1], by simp [Instr.findNow, h1, Instr.sameNow, hx2, k2]⟩
theorem run_look {t kt et : TypeId} {b : Nat} {arr : Array MapEntry} {c : Nat} {es : List (ByteArray × Value)} {i : TypeInfo} (h1 : P.underlying t = some (.map kt et)) (h2 : P.underlying kt = some .string) (h3 : P.info? et = some i) (h4 : i.zero = some (.bool false))
 (hb : w.heap[b]? = some (.map arr c)) (he : arr.toList.map (fun e => (e.key, e.val)) = es.map fun x => (Value.string x.1, x.2)) (s : ByteArray) :
 (Instr.lookup t (.map (some b)) (.string s) false).run P w = .ok (lookA es s (.bool false)) w := by
 have hck : ∀ em, (Instr.checkKey em 10000 kt (.string s)).run P w = .ok () w := fun em => MapKept.run_checkKey h2 (k := .string s) (by simp [IsKey]) em 9999
 rcases findNow_look he s 0 with ⟨k1, k2⟩ | ⟨x, j, k1, k2⟩
 · have hf := run_findKey (w := w) h2 k2
   simp [Instr.lookup, run_underlying h1, MapKept.run_getObj_map hb, hck, hf, lookA, k1, zeroValue, typeInfo, h3, h4]
 · have hf := run_findKey (w := w) h2 k2
   simp [Instr.lookup, run_underlying h1, MapKept.run_getObj_map hb, hck, hf, lookA, k1]
theorem run_upd {t kt et : TypeId} {b : Nat} {arr : Array MapEntry} {c : Nat} {es : List (ByteArray × Value)} (h1 : P.underlying t = some (.map kt et)) (h2 : P.underlying kt = some .string)
 (hb : w.heap[b]? = some (.map arr c)) (he : arr.toList.map (fun e => (e.key, e.val)) = es.map fun x => (Value.string x.1, x.2)) (s : ByteArray) (v : Value) (hno : es.all (fun x => !(x.1 == s)) = true) :
 (Instr.mapUpdate t (.map (some b)) (.string s) v).run P w = .ok () { w with heap := w.heap.setIfInBounds b (.map (arr.push { key := .string s, val := v, born := c }) (c + 1)) } := by
 have hck : (Instr.checkKey false 10000 kt (.string s)).run P w = .ok () w := MapKept.run_checkKey h2 (k := .string s) (by simp [IsKey]) false 9999
 rcases findNow_look he s 0 with ⟨k1, k2⟩ | ⟨x, j, k1, k2⟩
 · have hf := run_findKey (w := w) h2 k2
   simp [Instr.mapUpdate, run_underlying h1, MapKept.run_getObj_map hb, hck, hf, MapKept.run_setObj_map _ hb]
 · have hm := List.mem_of_find?_eq_some k1
   have hp := List.find?_some k1
   rw [List.all_eq_true] at hno
   have := hno x hm
   simp only [hp] at this
   cases this
end Go.Abs
namespace Go.Abs
variable {w w' : World} {S S' : Nat → Prop} {G : Gi} {δ : Nat → DV} {Fr : Nat → Nat → Prop} {P : Program}
variable {n : Nat} {w0 : World} {S0 U0 : Nat → Prop} {a : Act} {σ : Sg} {μ : Mu}
theorem RelM.base (h : RelM G n w0 S0 U0 a w σ μ) : ∃ (w1 : World) (S1 U1 : Nat → Prop), GIn w1 S1 U1 ∧ Rel G n w1 S1 U1 a w σ ∧ ∀ a' w' σ', Rel G n w1 S1 U1 a' w' σ' → RelM G n w0 S0 U0 a' w' σ' μ := by
 obtain ⟨w1, S1, U1, hx, hG, hμ, hr⟩ := h
 exact ⟨w1, S1, U1, hG, hr, fun a' w' σ' h' => ⟨w1, S1, U1, hx, hG, hμ, h'⟩⟩
theorem run_mkm (t : TypeId) (w : World) : (Instr.makeMap t none).run P w = .ok (.map (some w.heap.size)) (w.alloc (.map #[] 0)) := rfl
theorem am_sound {ops : Array Oper} {K : Sg → Mu → Prop} (Q : Exit → Act → World → Prop) {k : Nat} {o : Oper} (ho : ops[k]? = some o) {x : MOp} {xs : List MOp}
 (h : RelM G n w0 S0 U0 a w σ μ) (hc : chkM P G n ops o x = true) (hr : ams P G (x :: xs) K σ μ) : wpOp P ops Q k (fun a' w' => ∃ σ' μ', RelM G n w0 S0 U0 a' w' σ' μ' ∧ ams P G xs K σ' μ') a w := by
 have hplain : o.guard.isNone = true → o.wp P a w (fun a' w' => ∃ σ' μ', RelM G n w0 S0 U0 a' w' σ' μ' ∧ ams P G xs K σ' μ') Q → wpOp P ops Q k (fun a' w' => ∃ σ' μ', RelM G n w0 S0 U0 a' w' σ' μ' ∧ ams P G xs K σ' μ') a w := by
  intro hg hwp
  unfold wpOp
  rw [ho]
  have hog : o.guard = none := by simpa using hg
  simp only
  rw [if_pos (by simp [Region.wanted, hog])]
  exact .inl hwp
 cases x with
 | x io =>
  obtain ⟨w1, S1, U1, hG, hrel, hback⟩ := h.base
  refine wpOp_mono ?_ (ax_sound hG Q ho hrel ⟨hc, trivial⟩ hr)
  rintro a' w' ⟨σ', h', hk⟩
  exact ⟨σ', μ, hback _ _ _ h', hk⟩
 | mkm d =>
  simp only [chkM, Bool.and_eq_true] at hc
  obtain ⟨⟨g1, g2⟩, g3⟩ := hc
  refine hplain g1 ?_
  split at g3
  · rename_i t hop
    have hrun : (execOp a.eval o).run P w = .ok (.value (.map (some w.heap.size))) (w.alloc (.map #[] 0)) := by
     simp only [execOp, hop, Option.map_none, Sem.run_bind, run_mkm, Result.andThen_ok, Sem.run_pure]
    unfold Oper.wp
    rw [hrun, Oper.upon_value]
    have h' := h.turn (w' := w.alloc (.map #[] 0)) (b := w.heap.size) (o' := .mp []) (ob' := .map #[] 0) (.inr rfl) rfl rfl rfl (by show w.heap.size ≤ (w.heap.push _).size; rw [Array.size_push]; omega) (fun c hc _ => (MapKept.heap_alloc w _).2 c hc) (MapKept.heap_alloc w _).1 ⟨#[], 0, rfl, rfl⟩
    obtain ⟨σ', r1, r2⟩ := h'.putD (o := o) g2 (D := .lf (.sc (.map (some w.heap.size))) (.map (some w.heap.size))) (okSc _ rfl) (fun _ => .lf _ _ trivial) (by simpa using hr w.heap.size h.fresh)
    exact ⟨σ', _, by simpa using r1, r2⟩
  · cases g3
 | lkp g d m k =>
  simp only [chkM, Bool.and_eq_true] at hc
  obtain ⟨⟨g1, g2⟩, g3⟩ := hc
  obtain ⟨w1, S1, U1, hG, hrel, hback⟩ := h.base
  refine guard_sound hrel ho g2 g1 hr Q ?_ (fun a' hr' hk => ⟨_, μ, hback _ _ _ hr', hk⟩)
  intro hl
  split at g3
  · rename_i t m' k' hop
    simp only [Bool.and_eq_true] at g3
    obtain ⟨⟨c1, c2⟩, c3⟩ := g3
    unfold lkpK at hl
    split at hl
    · rename_i b s hm hk
      split at hl
      · rename_i es hes
        obtain ⟨hp, hl⟩ := hl
        obtain ⟨ob, hob, arr, c, rfl, harr⟩ := h.obj hes
        unfold chkMapT at c3
        split at c3
        · rename_i kt et ht
          simp only [Bool.and_eq_true, Bool.not_true, Bool.false_or] at c3
          obtain ⟨c4, c5⟩ := c3
          have hk2 : P.underlying kt = some .string := by split at c4 <;> first | assumption | cases c4
          obtain ⟨i, hi, hz⟩ : ∃ i, P.info? et = some i ∧ i.zero = some (.bool false) := by
           split at c5
           · rename_i hz
             cases hi : P.info? et with
             | none => rw [hi] at hz; cases hz
             | some i => rw [hi] at hz; exact ⟨i, rfl, hz⟩
           · cases c5
          have hrun : (execOp a.eval o).run P w = .ok (.value (lookA es s (.bool false))) w := by
           simp only [execOp, hop, (h.argSc c1 hm).1, (h.argSc c2 hk).1, Sem.run_bind, run_look ht hk2 hi hz hob harr s, Result.andThen_ok, Sem.run_pure]
          unfold Oper.wp
          rw [hrun, Oper.upon_value]
          obtain ⟨σ', r1, r2⟩ := h.putD (o := o) g2 (D := .lf (.sc (lookA es s (.bool false))) (lookA es s (.bool false))) (okSc _ hp) (fun _ => .lf _ _ trivial) (by simpa using hl)
          exact ⟨σ', μ, by simpa using r1, r2⟩
        · cases c3
      · exact hl.elim
    · exact hl.elim
  · cases g3
 | mup m k v =>
  simp only [chkM, Bool.and_eq_true] at hc
  obtain ⟨⟨g1, g2⟩, g3⟩ := hc
  refine hplain g1 ?_
  split at g3
  · rename_i t m' k' v' hop
    simp only [Bool.and_eq_true] at g3
    obtain ⟨⟨⟨c1, c2⟩, c2'⟩, c3⟩ := g3
    simp only [ams] at hr
    unfold mupK at hr
    split at hr
    · rename_i b s u hm hk hu
      split at hr
      · rename_i es hes
        obtain ⟨hno, hr⟩ := hr
        obtain ⟨ob, hob, arr, c, rfl, harr⟩ := h.obj hes
        unfold chkMapT at c3
        split at c3
        · rename_i kt et ht
          simp only [Bool.and_eq_true] at c3
          have hk2 : P.underlying kt = some .string := by have c4 := c3.1; split at c4 <;> first | assumption | cases c4
          have hrun : (execOp a.eval o).run P w = .ok .skip { w with heap := w.heap.setIfInBounds b (.map (arr.push { key := .string s, val := u, born := c }) (c + 1)) } := by
           simp only [execOp, hop, (h.argSc c1 hm).1, (h.argSc c2 hk).1, (h.argSc c2' hu).1, Sem.run_bind, run_upd ht hk2 hob harr s u hno, Result.andThen_ok, Sem.run_pure]
          unfold Oper.wp
          rw [hrun, Oper.upon_skip]
          have hd : o.dst = none := by
           obtain ⟨S, δ, Fr, hn, _⟩ := h.toRel
           exact chkDst_ok g2 hn
          rw [hd]
          refine ⟨σ, _, h.turn (b := b) (o' := .mp (addA es s u)) (ob' := .map (arr.push { key := .string s, val := u, born := c }) (c + 1)) (.inl ⟨_, hes⟩) rfl rfl rfl (by simp) (fun c' _ hne => (MapKept.heap_set hob).2 c' hne) (MapKept.heap_set hob).1 ⟨_, _, rfl, ?_⟩, hr⟩
          simp [addA, harr]
        · cases c3
      · exact hr.elim
    · exact hr.elim
  · cases g3
 | rng d x =>
  simp only [chkM, Bool.and_eq_true] at hc
  obtain ⟨⟨g1, g2⟩, g3⟩ := hc
  refine hplain g1 ?_
  split at g3
  · rename_i t x' hop
    simp only [Bool.and_eq_true] at g3
    obtain ⟨c1, c2⟩ := g3
    have ht : P.underlying t = some .string := by split at c2 <;> first | assumption | cases c2
    simp only [ams] at hr
    unfold rngK at hr
    split at hr
    · rename_i s hx
      have hrun : (execOp a.eval o).run P w = .ok (.value (.pointer (some ⟨w.heap.size, 0, none⟩))) (w.iter s 0) := by
       simp only [execOp, hop, (h.argSc c1 hx).1, Sem.run_bind, run_range_string w t s ht, Result.andThen_ok, Sem.run_pure]
      unfold Oper.wp
      rw [hrun, Oper.upon_value]
      have h' := h.turn (w' := w.iter s 0) (b := w.heap.size) (o' := .it s 0) (ob' := .stringIter s 0) (.inr rfl) rfl rfl rfl (by show w.heap.size ≤ (w.heap.push _).size; rw [Array.size_push]; omega) (fun c hc _ => (MapKept.heap_alloc w _).2 c hc) (MapKept.heap_alloc w _).1 rfl
      obtain ⟨σ', r1, r2⟩ := h'.putD (o := o) g2 (D := .lf (.sc (.pointer (some ⟨w.heap.size, 0, none⟩))) (.pointer (some ⟨w.heap.size, 0, none⟩))) (okSc _ rfl) (fun _ => .lf _ _ trivial) (by simpa using hr w.heap.size h.fresh)
      exact ⟨σ', _, by simpa using r1, r2⟩
    · exact hr.elim
  · cases g3
 | nxt d x =>
  simp only [chkM, Bool.and_eq_true] at hc
  obtain ⟨⟨g1, g2⟩, g3⟩ := hc
  refine hplain g1 ?_
  split at g3
  · rename_i x' hop
    simp only [ams] at hr
    unfold nxtK at hr
    split at hr
    · rename_i b hx
      split at hr
      · rename_i s pos hit
        obtain ⟨ob, hob, rfl⟩ := h.obj hit
        split at hr
        · rename_i hlt
          have hrun : (execOp a.eval o).run P w = .ok (.value (.tuple #[.bool true, .int .i64 pos, .int .i32 (Utf8.decode s pos).1])) (w.iterAt b s (pos + (Utf8.decode s pos).2)) := by
           simp only [execOp, hop, (h.argSc g3 hx).1, Sem.run_bind, Lib.run_next_any_at w b s pos o.type hob hlt, Result.andThen_ok, Sem.run_pure]
          unfold Oper.wp
          rw [hrun, Oper.upon_value]
          have h' := h.turn (w' := w.iterAt b s (pos + (Utf8.decode s pos).2)) (b := b) (o' := .it s (pos + (Utf8.decode s pos).2)) (ob' := .stringIter s (pos + (Utf8.decode s pos).2)) (.inl ⟨_, hit⟩) rfl rfl rfl (by simp [World.iterAt]) (fun c hc hne => (MapKept.heap_set hob).2 c hne) (MapKept.heap_set hob).1 rfl
          obtain ⟨σ', r1, r2⟩ := h'.putD (o := o) g2 (D := .tup ([.bool true, .int .i64 pos, .int .i32 (Utf8.decode s pos).1].map fun v => .lf (.sc v) v)) (okTup _ (by simp [plainV])) (alTup _) (by simpa using hr)
          exact ⟨σ', _, by simpa using r1, r2⟩
        · rename_i hlt
          have hrun : (execOp a.eval o).run P w = .ok (.value (.tuple #[.bool false])) w := by
           simp only [execOp, hop, (h.argSc g3 hx).1, Sem.run_bind, Lib.run_next_end_at w b s pos o.type hob hlt, Result.andThen_ok, Sem.run_pure]
          unfold Oper.wp
          rw [hrun, Oper.upon_value]
          obtain ⟨σ', r1, r2⟩ := h.putD (o := o) g2 (D := .tup ([.bool false].map fun v => .lf (.sc v) v)) (okTup _ (by simp [plainV])) (alTup _) (by simpa using hr)
          exact ⟨σ', _, by simpa using r1, r2⟩
      · exact hr.elim
    · exact hr.elim
  · cases g3
def chkMs (P : Program) (G : Gi) (n : Nat) (ops : Array Oper) : List Oper → List MOp → Bool
 | [], [] => true
 | o :: os, x :: xs => chkM P G n ops o x && chkMs P G n ops os xs
 | _, _ => false
theorem ams_sound {ops : Array Oper} {K : Sg → Mu → Prop} (Q : Exit → Act → World → Prop) (hQ : ∀ a w σ μ, RelM G n w0 S0 U0 a w σ μ → K σ μ → Q .normal a w) (xs : List MOp) :
 ∀ (k : Nat) {a : Act} {w : World} {σ : Sg} {μ : Mu}, RelM G n w0 S0 U0 a w σ μ → chkMs P G n ops (ops.toList.drop k) xs = true → ams P G xs K σ μ → wpOps P ops Q (List.range' k (ops.size - k)) a w := by
 induction xs with
 | nil =>
  intro k a w σ μ h hc hr
  have hk : ops.toList.drop k = [] := by cases hd : ops.toList.drop k with | nil => rfl | cons o os => rw [hd] at hc; simp [chkMs] at hc
  have hlen : ops.size ≤ k := by simpa using hk
  rw [show ops.size - k = 0 from by omega]
  exact hQ a w σ μ h hr
 | cons x xs ih =>
  intro k a w σ μ h hc hr
  cases hd : ops.toList.drop k with
  | nil => rw [hd] at hc; simp [chkMs] at hc
  | cons o os =>
   rw [hd] at hc
   simp only [chkMs, Bool.and_eq_true] at hc
   have hk : k < ops.size := by
    have : (ops.toList.drop k).length = os.length + 1 := by rw [hd]; rfl
    simp at this; omega
   have ho : ops[k]? = some o := by
    have : (ops.toList.drop k)[0]? = some o := by rw [hd]; rfl
    simpa using this
   have hos : ops.toList.drop (k + 1) = os := by
    have : (ops.toList.drop k).drop 1 = os := by rw [hd]; rfl
    rw [List.drop_drop] at this; exact this
   rw [show ops.size - k = (ops.size - (k + 1)) + 1 from by omega, List.range'_succ, wpOps_cons]
   refine wpOp_mono ?_ (am_sound Q ho h hc.1 hr)
   rintro a' w' ⟨σ', μ', h', hK'⟩
   exact ih (k + 1) h' (by rw [hos]; exact hc.2) hK'
inductive ICM where
 | ic (c : IC)
 | mrex (xs : List MOp)
 | seq (a b : ICM)
 | cond (c : Ar) (a b : ICM)
 | block (id : Nat) (a : ICM)
 | loop (a : ICM)
def chkCM (P : Program) (G : Gi) (n : Nat) : Code → ICM → Bool
 | c, .ic c' => chkC P G n c c'
 | .region _ ops false, .mrex xs => chkMs P G n ops ops.toList xs
 | .seq a b, .seq a' b' => chkCM P G n a a' && chkCM P G n b b'
 | .cond c a b, .cond c' a' b' => chkA c c' && chkCM P G n a a' && chkCM P G n b b'
 | .block id a, .block id' a' => id == id' && chkCM P G n a a'
 | .loop a, .loop a' => chkCM P G n a a'
 | _, _ => false
def Exit.seqM (next : Sg → Mu → Prop) (Q : Exit → Sg → Mu → Prop) : Exit → Sg → Mu → Prop
 | .normal, σ, μ => next σ μ
 | e, σ, μ => Q e σ μ
def Exit.blockM (id : Nat) (Q : Exit → Sg → Mu → Prop) : Exit → Sg → Mu → Prop
 | .exit i, σ, μ => if i = id then Q .normal σ μ else Q (.exit i) σ μ
 | e, σ, μ => Q e σ μ
def condM (x : AV) (a b : Sg → Mu → Prop) (σ : Sg) (μ : Mu) : Prop := match x with
 | .sc (.bool x) => if x = true then a σ μ else b σ μ
 | _ => False
def awpM (P : Program) (G : Gi) : ICM → (Exit → Sg → Mu → Prop) → Sg → Mu → Prop
 | .ic c, Q, σ, μ => awp P G c (fun e σ' => Q e σ' μ) σ
 | .mrex xs, Q, σ, μ => ams P G xs (Q .normal) σ μ
 | .seq a b, Q, σ, μ => awpM P G a (Exit.seqM (awpM P G b Q) Q) σ μ
 | .cond c a b, Q, σ, μ => condM (ar σ c) (awpM P G a Q) (awpM P G b Q) σ μ
 | .block id a, Q, σ, μ => awpM P G a (Exit.blockM id Q) σ μ
 | .loop a, Q, σ, μ => ∃ I : Nat → Sg → Mu → Prop, (∃ n, I n σ μ) ∧ ∀ n τ ν, I n τ ν → awpM P G a (Exit.seqM (fun τ' ν' => ∃ n', n' < n ∧ I n' τ' ν') Q) τ ν
def TiedM (G : Gi) (n : Nat) (w0 : World) (S0 U0 : Nat → Prop) (Q : Exit → Sg → Mu → Prop) (e : Exit) (a : Act) (w : World) : Prop := ∃ σ μ, RelM G n w0 S0 U0 a w σ μ ∧ Q e σ μ
theorem awpM_sound (hm : P.follows .mixedOrders = true) (c : Code) : ∀ (ic : ICM) (Q : Exit → Sg → Mu → Prop) (a : Act) (w : World) (σ : Sg) (μ : Mu), chkCM P G n c ic = true → RelM G n w0 S0 U0 a w σ μ → awpM P G ic Q σ μ → c.wp P (TiedM G n w0 S0 U0 Q) a w := by
 have plain : ∀ (c : Code) (ic : IC) (Q : Exit → Sg → Mu → Prop) (a : Act) (w : World) (σ : Sg) (μ : Mu), chkC P G n c ic = true → RelM G n w0 S0 U0 a w σ μ → awp P G ic (fun e σ' => Q e σ' μ) σ → c.wp P (TiedM G n w0 S0 U0 Q) a w := by
  intro c ic Q a w σ μ hc h hw
  obtain ⟨w1, S1, U1, hG, hrel, hback⟩ := h.base
  refine wp_mono (awp_sound hG hm (m := 0) (a0 := a) c ic _ a w σ hc (dstsOK_zero c) (Keep.refl _ _) hrel hw) ?_
  rintro e a' w' ⟨⟨σ', h', hq⟩, _⟩
  exact ⟨σ', μ, hback _ _ _ h', hq⟩
 induction c with
 | region id ops d =>
  intro ic Q a w σ μ hc h hw
  cases ic with
  | ic c' => exact plain _ c' Q a w σ μ (by simpa [chkCM] using hc) h hw
  | mrex xs =>
   cases d with
   | true => simp [chkCM] at hc
   | false =>
    simp only [chkCM] at hc
    refine wp_region ?_
    have := ams_sound (P := P) (G := G) (ops := ops) (K := Q .normal) (TiedM G n w0 S0 U0 Q) (fun a w σ μ h hk => ⟨σ, μ, h, hk⟩) xs 0 h (by simpa using hc) hw
    rw [List.range_eq_range']
    simpa using this
  | _ => simp [chkCM] at hc
 | seq x y ihx ihy =>
  intro ic Q a w σ μ hc h hw
  cases ic with
  | ic c' => exact plain _ c' Q a w σ μ (by simpa [chkCM] using hc) h hw
  | seq x' y' =>
   simp only [chkCM, Bool.and_eq_true] at hc
   refine wp_seq (wp_mono (ihx x' _ a w σ μ hc.1 h hw) ?_)
   rintro e a' w' ⟨σ', μ', h', hq⟩
   cases e with
   | normal => exact ihy y' Q a' w' σ' μ' hc.2 h' hq
   | _ => exact ⟨σ', μ', h', hq⟩
  | _ => simp [chkCM] at hc
 | cond c x y ihx ihy =>
  intro ic Q a w σ μ hc h hw
  cases ic with
  | ic c' => exact plain _ c' Q a w σ μ (by simpa [chkCM] using hc) h hw
  | cond c' x' y' =>
   simp only [chkCM, Bool.and_eq_true] at hc
   obtain ⟨⟨h1, h2⟩, h3⟩ := hc
   simp only [awpM] at hw
   unfold condM at hw
   split at hw
   · rename_i b hb
     have hev : a.eval c = .bool b := (h.argSc h1 hb).1
     split at hw
     · rename_i hbt
       subst hbt
       exact wp_cond_true hev (ihx x' Q a w σ μ h2 h hw)
     · rename_i hbf
       obtain rfl : b = false := by simpa using hbf
       exact wp_cond_false hev (ihy y' Q a w σ μ h3 h hw)
   · exact hw.elim
  | _ => simp [chkCM] at hc
 | block id x ihx =>
  intro ic Q a w σ μ hc h hw
  cases ic with
  | ic c' => exact plain _ c' Q a w σ μ (by simpa [chkCM] using hc) h hw
  | block id' x' =>
   simp only [chkCM, Bool.and_eq_true, beq_iff_eq] at hc
   obtain ⟨rfl, h2⟩ := hc
   refine wp_block (wp_mono (ihx x' _ a w σ μ h2 h hw) ?_)
   rintro e a' w' ⟨σ', μ', h', hq⟩
   cases e with
   | exit i =>
    simp only [Exit.inBlock]
    simp only [Exit.blockM] at hq
    split
    · rename_i hi; rw [if_pos hi] at hq; exact ⟨σ', μ', h', hq⟩
    · rename_i hi; rw [if_neg hi] at hq; exact ⟨σ', μ', h', hq⟩
   | _ => exact ⟨σ', μ', h', hq⟩
  | _ => simp [chkCM] at hc
 | loop x ihx =>
  intro ic Q a w σ μ hc h hw
  cases ic with
  | ic c' => exact plain _ c' Q a w σ μ (by simpa [chkCM] using hc) h hw
  | loop x' =>
   simp only [chkCM] at hc
   obtain ⟨I, ⟨n0, h0⟩, hround⟩ := hw
   refine wp_loop_ghost (fun k a w => ∃ σ μ, RelM G n w0 S0 U0 a w σ μ ∧ I k σ μ) n0 ⟨σ, μ, h, h0⟩ ?_
   rintro k a' w' ⟨τ, ν, h', hI⟩
   refine wp_mono (ihx x' _ a' w' τ ν hc h' (hround k τ ν hI)) ?_
   rintro e a2 w2 ⟨σ2, μ2, h2, hq⟩
   cases e with
   | normal =>
    obtain ⟨k', hk, hI'⟩ := hq
    exact ⟨k', hk, σ2, μ2, h2, hI'⟩
   | _ => exact ⟨σ2, μ2, h2, hq⟩
  | _ => simp [chkCM] at hc
 | _ =>
  intro ic Q a w σ μ hc h hw
  cases ic with
  | ic c' => exact plain _ c' Q a w σ μ (by simpa [chkCM] using hc) h hw
  | _ => simp [chkCM] at hc
structure FIM where
 c : ICM
 g : Gi
 r : List RV
def chkFM (P : Program) (fn : Func) (I : FIM) : Bool :=
 (match fn.body with
 | some c => chkCM P I.g fn.ntmps c I.c
 | none => false) && chkRes P fn.results.toList I.r && I.g.rt.all (fun x => !x.2.contains x.1)
theorem says_ofM {f : Nat} {fn : Func} {I : FIM} {args : List AV} {res : AV} (hm : P.follows .mixedOrders = true) (hf : P.funcs[f]? = some fn) (hc : chkFM P fn I = true) (hn : args.length ≤ fn.ntmps) (hargs : args.all argOK = true)
 (h : awpM P I.g I.c (fun e σ _ => Ends I.g I.r res e σ) (start args) (fun _ => none)) : Says P f args res := by
 intro w S ds F hgi hds hok hS
 subst hds
 simp only [chkFM, Bool.and_eq_true] at hc
 obtain ⟨⟨hc1, hc2⟩, hc3⟩ := hc
 split at hc1
 · rename_i c hb
   obtain ⟨Fs, hr, hd, hval, hF⟩ : Parts w S ds F := by cases hok with | tup _ Fs _ hr hd hval hF => exact ⟨Fs, hr, hd, hval, hF⟩
   have harg : ∀ (i : Nat) d, ds[i]? = some d → argOK d.er = true := fun i d hi => by
    simp only [List.all_eq_true] at hargs
    exact hargs _ (List.mem_map_of_mem (List.mem_of_getElem? hi))
   refine calls_of_wp hf hb ?_
   let δ : Nat → DV := fun s => ds.getD s (.lf .un undef)
   have hδ : ∀ s, (∃ d, ds[s]? = some d ∧ δ s = d) ∨ (ds[s]? = none ∧ δ s = .lf .un undef) := by
    intro s
    cases hs : ds[s]? with
    | some d => exact .inl ⟨d, rfl, by simp [δ, hs]⟩
    | none => exact .inr ⟨rfl, by simp [δ, hs]⟩
   have hst : St I.g w S δ Fs := by
    refine ⟨fun s => ?_, fun s t x => hd s t x, fun s => ?_, fun s => ?_, self_of hc3⟩
    · rcases hδ s with ⟨d, hs, e⟩ | ⟨hs, e⟩
      · rw [e]; exact hr s d hs
      · rw [e]
        exact .lf _ _ _ rfl fun x hx => by obtain ⟨d, hd⟩ := hval s x hx; rw [hs] at hd; cases hd
    · rcases hδ s with ⟨d, hs, e⟩ | ⟨hs, e⟩
      · rw [e]; exact argOK_al (hr s d hs).lfy (harg s d hs)
      · rw [e]; exact .lf _ _ trivial
    · rcases hδ s with ⟨d, hs, e⟩ | ⟨hs, e⟩
      · rw [e]; exact argOK_rin (harg s d hs)
      · rw [e]; simp
   have hσ : (fun s => (δ s).er) = start (ds.map DV.er) := by
    funext s
    unfold start
    rcases hδ s with ⟨d, hs, e⟩ | ⟨hs, e⟩
    · simp [e, hs]
    · simp [e, hs]
   have hn' : ds.length ≤ fn.ntmps := by simpa using hn
   have hrel : Rel I.g fn.ntmps w S F { tmps := (ds.map DV.ann).toArray ++ Array.replicate (fn.ntmps - (ds.map DV.ann).toArray.size) undef, defers := [] } w (start (ds.map DV.er)) := by
    refine ⟨S, δ, Fs, by simp; omega, rfl, fun s => getD_ext ds fn.ntmps s, hσ, hst, Nx.less fun x ⟨s, hx⟩ => (hF x).2 ⟨s, hx⟩, hS⟩
   have hrelM := RelM.start ⟨hgi, fun b hb => ⟨fun hf => hok.notS b hf hb, hS b hb⟩⟩ hrel
   refine wp_mono (awpM_sound hm c I.c _ _ w _ _ hc1 hrelM h) ?_
   rintro e a' w1 ⟨σ, μ, hrM, hq⟩
   obtain ⟨S1, δ1, F1, hn1, hdef, ha1, rfl, hst1, hnx, hlt⟩ := hrM.toRel
   have hex := Ends_ex hq
   obtain ⟨_, vs, τ, htk, hone⟩ := hq
   obtain ⟨Ds, FD, g1, g2, g3, g4, _⟩ := takeRes_sound fn.results.toList hst1 ha1 hc2 htk
   have hO : OkL w1 S1 (ds.map fun d => DV.lf .dead d.ann) (fun _ => False) := by
    refine OkL_empty fun d hd => ?_
    obtain ⟨x, _, rfl⟩ := List.mem_map.1 hd
    exact .lf _ _ _ trivial (fun _ h => h)
   have fin : ∃ v, (results fn a'.tmps).run P w1 = .ok v w1 ∧ ∃ (r : DV) (os : List DV) (S' F' : Nat → Prop), Ending.returned v = .returned r.ann ∧ r.er = res ∧ os.map DV.er = ((ds.map DV.er).map fun _ => AV.dead) ∧ os.map DV.ann = ds.map DV.ann ∧
    Ok w1 S' (.tup (r :: os)) F' ∧ Ext w w1 F ∧ (∀ b, S b → S' b) ∧ (∀ b, S' b → S b ∨ F b ∨ w.heap.size ≤ b) ∧ (∀ b, S' b → b < w1.heap.size) ∧ (∀ x, F' x → F x ∨ w.heap.size ≤ x) :=
    ⟨_, run_one g2, one' Ds, ds.map fun d => DV.lf .dead d.ann, S1, FD, rfl, by rw [one'_er, g1, hone], by simp, by simp, Ok_tup_iff.2 ⟨FD, fun _ => False, one'_ok g3, hO, fun _ _ h => h, fun x => by simp⟩, ⟨hnx.os, hnx.tape, hnx.output, hnx.size, hnx.block⟩, hnx.sub, hnx.sup, hlt, fun x hx => hnx.own x (g4 x hx)⟩
   obtain ⟨v, hv, hR⟩ := fin
   rcases hex with rfl | rfl
   · exact ⟨hdef, v, hv, hR⟩
   · exact ⟨hdef, v, hv, hR⟩
 · cases hc1
end Go.Abs
namespace Go.Abs
variable {P : Program} {G : Gi}
theorem awpM_ic (c : IC) (Q : Exit → Sg → Mu → Prop) (σ : Sg) (μ : Mu) : awpM P G (.ic c) Q σ μ = awp P G c (fun e σ' => Q e σ' μ) σ := (rfl)
theorem awpM_mrex (xs : List MOp) (Q : Exit → Sg → Mu → Prop) (σ : Sg) (μ : Mu) : awpM P G (.mrex xs) Q σ μ = ams P G xs (Q .normal) σ μ := (rfl)
theorem awpM_seq (a b : ICM) (Q : Exit → Sg → Mu → Prop) (σ : Sg) (μ : Mu) : awpM P G (.seq a b) Q σ μ = awpM P G a (Exit.seqM (awpM P G b Q) Q) σ μ := (rfl)
theorem awpM_condM (c : Ar) (a b : ICM) (Q : Exit → Sg → Mu → Prop) (σ : Sg) (μ : Mu) : awpM P G (.cond c a b) Q σ μ = condM (ar σ c) (awpM P G a Q) (awpM P G b Q) σ μ := (rfl)
theorem awpM_block (id : Nat) (a : ICM) (Q : Exit → Sg → Mu → Prop) (σ : Sg) (μ : Mu) : awpM P G (.block id a) Q σ μ = awpM P G a (Exit.blockM id Q) σ μ := (rfl)
theorem condM_t (a b : Sg → Mu → Prop) (σ : Sg) (μ : Mu) : condM (.sc (.bool true)) a b σ μ = a σ μ := by simp [condM]
theorem condM_f (a b : Sg → Mu → Prop) (σ : Sg) (μ : Mu) : condM (.sc (.bool false)) a b σ μ = b σ μ := by simp [condM]
theorem seqM_normal (next : Sg → Mu → Prop) (Q : Exit → Sg → Mu → Prop) (σ : Sg) (μ : Mu) : Exit.seqM next Q .normal σ μ = next σ μ := (rfl)
theorem seqM_exit (next : Sg → Mu → Prop) (Q : Exit → Sg → Mu → Prop) (id : Nat) (σ : Sg) (μ : Mu) : Exit.seqM next Q (.exit id) σ μ = Q (.exit id) σ μ := (rfl)
theorem seqM_ret (next : Sg → Mu → Prop) (Q : Exit → Sg → Mu → Prop) (σ : Sg) (μ : Mu) : Exit.seqM next Q .ret σ μ = Q .ret σ μ := (rfl)
theorem blockM_normal (id : Nat) (Q : Exit → Sg → Mu → Prop) (σ : Sg) (μ : Mu) : Exit.blockM id Q .normal σ μ = Q .normal σ μ := (rfl)
theorem blockM_exit (id i : Nat) (Q : Exit → Sg → Mu → Prop) (σ : Sg) (μ : Mu) : Exit.blockM id Q (.exit i) σ μ = if i = id then Q .normal σ μ else Q (.exit i) σ μ := (rfl)
theorem blockM_ret (id : Nat) (Q : Exit → Sg → Mu → Prop) (σ : Sg) (μ : Mu) : Exit.blockM id Q .ret σ μ = Q .ret σ μ := (rfl)
theorem ams_nil (K : Sg → Mu → Prop) (σ : Sg) (μ : Mu) : ams P G [] K σ μ = K σ μ := (rfl)
theorem ams_x (o : XOp) (l : List MOp) (K : Sg → Mu → Prop) (σ : Sg) (μ : Mu) : ams P G (.x o :: l) K σ μ = axs P G [o] (fun σ' => ams P G l K σ' μ) σ := (rfl)
theorem ams_mkm (d : Dst) (l : List MOp) (K : Sg → Mu → Prop) (σ : Sg) (μ : Mu) : ams P G (.mkm d :: l) K σ μ = ∀ b, μ b = none → toDst (some d) (.sc (.map (some b))) (fun σ' => ams P G l K σ' (upd μ b (some (.mp [])))) σ := (rfl)
theorem ams_lkp (g : Option (Nat × Bool)) (d : Dst) (m k : Ar) (l : List MOp) (K : Sg → Mu → Prop) (σ : Sg) (μ : Mu) : ams P G (.lkp g d m k :: l) K σ μ = gM g d (fun σ => lkpK (ar σ m) (ar σ k) μ d (fun σ' => ams P G l K σ' μ) σ) (fun σ' => ams P G l K σ' μ) σ := (rfl)
theorem ams_mup (m k v : Ar) (l : List MOp) (K : Sg → Mu → Prop) (σ : Sg) (μ : Mu) : ams P G (.mup m k v :: l) K σ μ = mupK (ar σ m) (ar σ k) (ar σ v) μ (fun ν => ams P G l K σ ν) := (rfl)
theorem ams_rng (d : Dst) (x : Ar) (l : List MOp) (K : Sg → Mu → Prop) (σ : Sg) (μ : Mu) : ams P G (.rng d x :: l) K σ μ = rngK (ar σ x) d (ams P G l K) σ μ := (rfl)
theorem ams_nxt (d : Dst) (x : Ar) (l : List MOp) (K : Sg → Mu → Prop) (σ : Sg) (μ : Mu) : ams P G (.nxt d x :: l) K σ μ = nxtK (ar σ x) d (ams P G l K) σ μ := (rfl)
theorem gM_none (d : Dst) (A K : Sg → Prop) (σ : Sg) : gM none d A K σ = A σ := (rfl)
theorem gM_some (s : Nat) (want : Bool) (d : Dst) (A K : Sg → Prop) (σ : Sg) : gM (some (s, want)) d A K σ = gK (σ s) want A (fun σ => K (upd (kills d.kl d.d σ) d.d .un)) σ := (rfl)
def lkpV (x : Option MO) (s : ByteArray) (d : Dst) (K : Sg → Prop) (σ : Sg) : Prop := match x with
 | some (.mp es) => plainV (lookA es s (.bool false)) = true ∧ toDst (some d) (.sc (lookA es s (.bool false))) K σ
 | _ => False
theorem lkpK_at (b : Nat) (s : ByteArray) (μ : Mu) (d : Dst) (K : Sg → Prop) (σ : Sg) : lkpK (.sc (.map (some b))) (.sc (.string s)) μ d K σ = lkpV (μ b) s d K σ := (rfl)
theorem lkpV_mp (es : List (ByteArray × Value)) (s : ByteArray) (d : Dst) (K : Sg → Prop) (σ : Sg) : lkpV (some (.mp es)) s d K σ = (plainV (lookA es s (.bool false)) = true ∧ toDst (some d) (.sc (lookA es s (.bool false))) K σ) := (rfl)
def mupV (x : Option MO) (b : Nat) (s : ByteArray) (u : Value) (μ : Mu) (K : Mu → Prop) : Prop := match x with
 | some (.mp es) => es.all (fun x => !(x.1 == s)) = true ∧ K (upd μ b (some (.mp (addA es s u))))
 | _ => False
theorem mupK_at (b : Nat) (s : ByteArray) (u : Value) (μ : Mu) (K : Mu → Prop) : mupK (.sc (.map (some b))) (.sc (.string s)) (.sc u) μ K = mupV (μ b) b s u μ K := (rfl)
theorem mupV_mp (es : List (ByteArray × Value)) (b : Nat) (s : ByteArray) (u : Value) (μ : Mu) (K : Mu → Prop) : mupV (some (.mp es)) b s u μ K = (es.all (fun x => !(x.1 == s)) = true ∧ K (upd μ b (some (.mp (addA es s u))))) := (rfl)
theorem rngK_s (s : ByteArray) (d : Dst) (K : Sg → Mu → Prop) (σ : Sg) (μ : Mu) : rngK (.sc (.string s)) d K σ μ = ∀ b, μ b = none → toDst (some d) (.sc (.pointer (some ⟨b, 0, none⟩))) (fun σ' => K σ' (upd μ b (some (.it s 0)))) σ := (rfl)
def nxtV (x : Option MO) (b : Nat) (d : Dst) (K : Sg → Mu → Prop) (σ : Sg) (μ : Mu) : Prop := match x with
 | some (.it s pos) => if pos < s.size then toDst (some d) (.tup [.sc (.bool true), .sc (.int .i64 pos), .sc (.int .i32 (Utf8.decode s pos).1)]) (fun σ' => K σ' (upd μ b (some (.it s (pos + (Utf8.decode s pos).2))))) σ
  else toDst (some d) (.tup [.sc (.bool false)]) (fun σ' => K σ' μ) σ
 | _ => False
theorem nxtK_at (b : Nat) (d : Dst) (K : Sg → Mu → Prop) (σ : Sg) (μ : Mu) : nxtK (.sc (.pointer (some ⟨b, 0, none⟩))) d K σ μ = nxtV (μ b) b d K σ μ := (rfl)
theorem nxtV_in {s : ByteArray} {pos : Nat} (b : Nat) (d : Dst) (K : Sg → Mu → Prop) (σ : Sg) (μ : Mu) (h : pos < s.size) : nxtV (some (.it s pos)) b d K σ μ = toDst (some d) (.tup [.sc (.bool true), .sc (.int .i64 pos), .sc (.int .i32 (Utf8.decode s pos).1)]) (fun σ' => K σ' (upd μ b (some (.it s (pos + (Utf8.decode s pos).2))))) σ := by simp [nxtV, h]
theorem nxtV_out {s : ByteArray} {pos : Nat} (b : Nat) (d : Dst) (K : Sg → Mu → Prop) (σ : Sg) (μ : Mu) (h : ¬ pos < s.size) : nxtV (some (.it s pos)) b d K σ μ = toDst (some d) (.tup [.sc (.bool false)]) (fun σ' => K σ' μ) σ := by simp [nxtV, h]
theorem awpM_loop {a : ICM} {Q : Exit → Sg → Mu → Prop} {σ : Sg} {μ : Mu} (I : Nat → Sg → Mu → Prop) (n : Nat) (h : I n σ μ)
 (round : ∀ n τ ν, I n τ ν → awpM P G a (Exit.seqM (fun τ' ν' => ∃ n', n' < n ∧ I n' τ' ν') Q) τ ν) : awpM P G (.loop a) Q σ μ := ⟨I, ⟨n, h⟩, round⟩
attribute [go_sem] awpM_ic awpM_mrex awpM_seq awpM_condM awpM_block condM_t condM_f seqM_normal seqM_exit seqM_ret blockM_normal blockM_exit blockM_ret ams_nil ams_x ams_mkm ams_lkp ams_mup ams_rng ams_nxt gM_none gM_some lkpK_at lkpV_mp mupK_at mupV_mp rngK_s nxtK_at
end Go.Abs
namespace Go.Abs
open Go.Proofs Go.Sort Go.RowKit
variable {P : Program}
theorem delete_sound {f g : Nat} {q : Int → Int → Bool}
 (hdel : ∀ (lb : Array Value) (p : Int → Bool) (blk off cap : Nat) (d : Array Int) (w : World), PredAt P g lb (Value.int .i64) p w → PredOver P g lb (Value.int .i64) p blk off d.size w → Holds (Value.int .i64) w blk off d → d.size ≤ 9223372036854775807 → d.size ≤ cap →
  Calls P f #[.slice (some ⟨blk, off, none⟩) d.size cap, .func (.func g) #[] lb] w fun e w' => e = .returned (.slice (some ⟨blk, off, none⟩) (d.toList.filter fun x => !p x).length cap) ∧ ∃ q, w' = putRow (Value.int .i64) (Sort.ahead w q) blk off ((d.toList.filter fun x => !p x) ++ List.replicate (d.size - (d.toList.filter fun x => !p x).length) (0 : Int)).toArray)
 (hclo : ∀ (b off : Nat) (n x : Int) (W : World), W.cell? ⟨b, off, none⟩ = some (.int .i64 n) → FnGives P g #[.pointer (some ⟨b, off, none⟩)] #[.int .i64 x] (.bool (q n x)) W)
 (zs : List Int) (n : Int) (hne : zs ≠ []) (hl : zs.length < 4611686018427387904) : Says P f [.own false 1 (ints zs), .fcl g [[si n]]] (.own false 1 (ints (zs.filter fun x => !q n x))) := by
 intro w S ds F _ hds hok hS
 obtain ⟨d, e, rfl⟩ : ∃ d e, ds = [d, e] := by
  have hlen : ds.length = 2 := by simpa using congrArg List.length hds
  clear hds hok
  match ds, hlen with
  | [d, e], _ => exact ⟨d, e, rfl⟩
 simp only [List.map_cons, List.map_nil, List.cons.injEq, and_true] at hds
 obtain ⟨hd, he⟩ := hds
 obtain ⟨F1, F2, h1, ⟨F3, F4, h3, h4, _, h6⟩, hdis, h5⟩ := Ok_tup_iff.1 hok
 obtain ⟨v, rfl⟩ : ∃ v, e = .lf (.fcl g [[si n]]) v := by
  cases e with
  | lf a v => rw [er_lf] at he; exact ⟨v, by rw [he]⟩
  | own => simp at he
  | agg => simp at he
  | tup => simp at he
 cases h3 with
 | lf _ _ _ hlf hF3 =>
 obtain ⟨vs, rfl, hvl, hfp⟩ := hlf
 obtain ⟨u, rfl⟩ : ∃ u, vs = [u] := by
  match vs, hvl with
  | [u], _ => exact ⟨u, rfl⟩
 obtain ⟨b', off', rfl, hSb', hcell⟩ := hfp 0 [si n] u rfl rfl
 obtain ⟨u', hu', hfz⟩ := hcell 0 (si n) rfl
 cases hfz
 have hb' := hS b' hSb'
 rcases own_ints h1 hd with ⟨ha, rfl, hno⟩ | ⟨b, c, arr, E, ha, hb, hc, hlc, hSb, hz, hFb⟩
 · exact absurd rfl hne
 · have hbne : b' ≠ b := fun e => hSb (e ▸ hSb')
   have hF : ∀ x, F x ↔ F1 x := fun x => by
    rw [h5 x]
    refine ⟨fun h => h.elim id fun h => ?_, .inl⟩
    rcases (h6 x).1 h with h | h
    · exact absurd h (hF3 x)
    · exact absurd h (h4 x)
   simp only [List.map_cons, List.map_nil, ha, ann_lf]
   have hp : PredAt P g #[.pointer (some ⟨b', off', none⟩)] (Value.int .i64) (q n) w := fun W x hB => hclo b' off' n x W (by rw [hB.cell (p := ⟨b', off', none⟩) hb']; exact hu')
   have hpo : PredOver P g #[.pointer (some ⟨b', off', none⟩)] (Value.int .i64) (q n) b 0 zs.toArray.size w := fun m os dk x hdk => hclo b' off' n x _ (by
    rw [World.cell?_of_block (w := w) (a := ⟨b', off', none⟩) (by
     show (sortWorld _ w b 0 m dk os).heap[b']? = w.heap[b']?
     unfold sortWorld
     rw [heap_grow_old _ _ (by simpa [putRow, mapBlock, Sort.ahead] using hb')]
     simp [putRow, mapBlock, Sort.ahead, Array.getElem?_modify, Ne.symm hbne])]
    exact hu')
   refine (hdel #[.pointer (some ⟨b', off', none⟩)] (q n) b 0 c zs.toArray w hp hpo (holds_ints hb hz) (by simpa using by omega) (by simpa using hlc)).mono ?_
   rintro e w' ⟨rfl, m, rfl⟩
   simp only [List.size_toArray] at *
   have hle : (zs.filter fun x => !q n x).length ≤ zs.length := List.length_filter_le ..
   have hcl : ((zs.filter fun x => !q n x) ++ List.replicate (zs.length - (zs.filter fun x => !q n x).length) (0 : Int)).length = zs.length := by simp; omega
   have hh := heap_put (n := m) (os := #[]) ((zs.filter fun x => !q n x) ++ List.replicate (zs.length - (zs.filter fun x => !q n x).length) 0).toArray hb
   have hx := ext_put (w := w) (n := m) (os := #[]) (g := b) (F := F) ((zs.filter fun x => !q n x) ++ List.replicate (zs.length - (zs.filter fun x => !q n x).length) 0).toArray ((hF b).2 ((hFb b).2 rfl))
   rw [grow_empty] at hh hx
   obtain ⟨d', k1, k2, k3⟩ := ok_ints (S := S) (c := c) (zs := zs.filter fun x => !q n x) hh (by simp [putCells, hc]) (by omega) hSb (fun i z hi => put_at ((zs.filter fun x => !q n x) ++ List.replicate (zs.length - (zs.filter fun x => !q n x).length) 0) (by rw [hcl]; omega) i z (by
    rw [List.getElem?_append_left (List.getElem?_eq_some_iff.1 hi).1]; exact hi))
   refine ⟨d', [.lf .dead d.ann, .lf .dead (.func (.func g) #[] #[.pointer (some ⟨b', off', none⟩)])], S, fun x => x = b, by rw [k2], k1, by simp, by simp [ha], ?_, hx, fun _ h => h, fun _ h => .inl h, fun x hx => ?_, fun x hx => .inl ((hF x).2 ((hFb x).2 hx))⟩
   · refine Ok_tup_iff.2 ⟨_, fun _ => False, k3, OkL_empty fun y hy => ?_, fun _ _ h => h, fun x => by simp⟩
     simp only [List.mem_cons, List.not_mem_nil, or_false] at hy
     rcases hy with rfl | rfl <;> exact .lf _ _ _ trivial (fun _ h => h)
   · have := hS x hx; simpa [putRow, mapBlock, Sort.ahead] using this
end Go.Abs
namespace Go.Abs
variable {P : Program} {G : Gi}
def cutS (a b : IC) : IC := .seq a b
def big : Nat := 18446744073709551616
abbrev sst (s : ByteArray) : AV := .sc (.string s)
abbrev w64 (n : Int) : Int := IntKind.i64.wrap n
abbrev w8 (n : Int) : Int := IntKind.u8.wrap n
abbrev wi8 (n : Int) : Int := IntKind.i8.wrap n
abbrev w16 (n : Int) : Int := IntKind.u16.wrap n
abbrev w32 (n : Int) : Int := IntKind.u32.wrap n
abbrev wu64 (n : Int) : Int := IntKind.u64.wrap n
def gt {α : Type} (l : List α) (i : Int) : Option α := if 0 ≤ i then l[i.toNat]? else none
def sgt (s : ByteArray) (i : Int) : Option UInt8 := if 0 ≤ i then s[i.toNat]? else none
theorem gt_bind {α β : Type} {l : List α} {i : Int} {f : α → Option β} {r : β} (h : (gt l i).bind f = some r) : ∃ x, l[i.toNat]? = some x ∧ 0 ≤ i ∧ i < (l.length : Int) ∧ i.toNat < l.length ∧ f x = some r := by
 unfold gt at h
 by_cases h0 : 0 ≤ i
 · rw [if_pos h0] at h
   cases hx : l[i.toNat]? with
   | none => simp [hx] at h
   | some x =>
    have := (List.getElem?_eq_some_iff.1 hx).1
    exact ⟨x, rfl, h0, by omega, this, by simpa [hx] using h⟩
 · simp [h0] at h
theorem sgt_bind {β : Type} {l : ByteArray} {i : Int} {f : UInt8 → Option β} {r : β} (h : (sgt l i).bind f = some r) : ∃ x, l[i.toNat]? = some x ∧ 0 ≤ i ∧ f x = some r := by
 unfold sgt at h
 by_cases h0 : 0 ≤ i
 · rw [if_pos h0] at h
   cases hx : l[i.toNat]? with
   | none => simp [hx] at h
   | some x => exact ⟨x, rfl, h0, by simpa [hx] using h⟩
 · simp [h0] at h
theorem gB {α β : Type} {l : List α} {i : Int} {f : α → Option β} {r : β} (h : (gt l i).bind f = some r) : ∃ x, (l[i.toNat]? = some x ∧ 0 ≤ i ∧ i < (l.length : Int) ∧ i.toNat < l.length) ∧ f x = some r := by
 obtain ⟨x, a, b, c, d, e⟩ := gt_bind h; exact ⟨x, ⟨a, b, c, d⟩, e⟩
theorem gL {α β : Type} {l : List α} {i : Int} {n : Nat} (hn : i.toNat = n) {f : α → Option β} {r : β} (h : (gt l i).bind f = some r) : ∃ x, (l[n]? = some x ∧ 0 ≤ i ∧ i < (l.length : Int) ∧ n < l.length) ∧ f x = some r := by
 subst hn; exact gB h
theorem sgB {β : Type} {l : ByteArray} {i : Int} {f : UInt8 → Option β} {r : β} (h : (sgt l i).bind f = some r) : ∃ x, (l[i.toNat]? = some x ∧ 0 ≤ i) ∧ f x = some r := by
 obtain ⟨x, a, b, e⟩ := sgt_bind h; exact ⟨x, ⟨a, b⟩, e⟩
theorem sgL {β : Type} {l : ByteArray} {i : Int} {n : Nat} (hn : i.toNat = n) {f : UInt8 → Option β} {r : β} (h : (sgt l i).bind f = some r) : ∃ x, (l[n]? = some x ∧ 0 ≤ i) ∧ f x = some r := by
 subst hn; exact sgB h
theorem bind_some {α β : Type} {o : Option α} {f : α → Option β} {r : β} (h : o.bind f = some r) : ∃ x, o = some x ∧ f x = some r := by
 cases o with
 | none => simp at h
 | some x => exact ⟨x, rfl, h⟩
theorem chk_some {α : Type} {p : Prop} [Decidable p] {a : Option α} {r : α} (h : (if p then a else none) = some r) : p ∧ a = some r := by
 by_cases hp : p
 · rw [if_pos hp] at h; exact ⟨hp, h⟩
 · rw [if_neg hp] at h; cases h
theorem bS {α β : Type} {o : Option α} {f : α → Option β} {r : β} (h : o.bind f = some r) : ∃ x, o = some x ∧ f x = some r := bind_some h
theorem cS {α : Type} {p : Prop} [Decidable p] {a : Option α} {r : α} (h : (if p then a else none) = some r) : p ∧ a = some r := chk_some h
theorem ifT {α : Type} {c : Bool} {a b r : α} (e : c = true) (h : (if c = true then a else b) = r) : a = r := by rw [if_pos e] at h; exact h
theorem ifF {α : Type} {c : Bool} {a b r : α} (e : c = false) (h : (if c = true then a else b) = r) : b = r := by rw [if_neg (by rw [e]; decide)] at h; exact h
theorem no_none {α : Type} {r : α} {C : Prop} (h : (none : Option α) = some r) : C := nomatch h
theorem bool_sp (c : Bool) : c = true ∨ c = false := by cases c <;> simp
theorem acase2 {α : Type} {i : Int} {a b : Option α} {x : α} (h : (if (i == 0) = true then a else if (i == 1) = true then b else none) = some x) : (i = 0 ∧ a = some x) ∨ (i = 1 ∧ b = some x) := by
 by_cases h0 : i = 0
 · subst h0; exact .inl ⟨rfl, by simpa using h⟩
 · by_cases h1 : i = 1
   · subst h1; exact .inr ⟨rfl, by simpa using h⟩
   · simp [h0, h1] at h
theorem condK_sp {c : Bool} {a b : Sg → Prop} {σ : Sg} (h1 : c = true → a σ) (h2 : c = false → b σ) : condK (.sc (.bool c)) a b σ := by
 cases c with
 | true => rw [condK_t]; exact h1 rfl
 | false => rw [condK_f]; exact h2 rfl
theorem gK_sp {c : Bool} {want : Bool} {a b : Sg → Prop} {σ : Sg} (h1 : c = true → gK (.sc (.bool true)) want a b σ) (h2 : c = false → gK (.sc (.bool false)) want a b σ) : gK (.sc (.bool c)) want a b σ := by
 cases c with
 | true => exact h1 rfl
 | false => exact h2 rfl
theorem cI {α : Type} {c : Bool} {x y z : α} {a b : Sg → Prop} {σ : Sg} (h : (if c = true then x else y) = z) (h1 : c = true → x = z → a σ) (h2 : c = false → y = z → b σ) : condK (.sc (.bool c)) a b σ :=
 condK_sp (fun e => h1 e (ifT e h)) fun e => h2 e (ifF e h)
theorem gI {α : Type} {c : Bool} {x y z : α} {want : Bool} {a b : Sg → Prop} {σ : Sg} (h : (if c = true then x else y) = z) (h1 : c = true → x = z → gK (.sc (.bool true)) want a b σ) (h2 : c = false → y = z → gK (.sc (.bool false)) want a b σ) : gK (.sc (.bool c)) want a b σ :=
 gK_sp (fun e => h1 e (ifT e h)) fun e => h2 e (ifF e h)
theorem awp_cut {a b : IC} {Q : Exit → Sg → Prop} {M : Sg → Prop} {σ : Sg} (h1 : awp P G a (Exit.seqA M Q) σ) (h2 : ∀ τ, M τ → awp P G b Q τ) : awp P G (cutS a b) Q σ := by
 unfold cutS
 rw [awp_seq]
 refine awp_mono ?_ h1
 intro e τ h
 cases e with
 | normal => exact h2 τ h
 | _ => exact h
theorem cutH {a b : IC} {Q : Exit → Sg → Prop} (M0 : Sg → Prop) {σ : Sg} (h : ∀ M : Sg → Prop, (∀ τ, M0 τ → M τ) → awp P G a (Exit.seqA M Q) σ ∧ ∀ τ, M0 τ → awp P G b Q τ) : awp P G (cutS a b) Q σ :=
 awp_cut (h M0 fun _ h => h).1 (h M0 fun _ h => h).2
theorem awp_loopI {a : IC} {Q : Exit → Sg → Prop} {σ : Sg} (I : Nat → Sg → Prop) (n : Nat) (h : I n σ)
 (round : ∀ n τ (N : Sg → Prop), I n τ → (∀ m, m < n → ∀ τ', I m τ' → N τ') → awp P G a (Exit.seqA N Q) τ) : awp P G (.loop a) Q σ :=
 awp_loop I n h fun n τ hI => round n τ _ hI fun m hm τ' hτ' => ⟨m, hm, hτ'⟩
theorem loopH {a : IC} {Q : Exit → Sg → Prop} {σ : Sg} (I : Nat → Sg → Prop) (h : I big σ)
 (round : ∀ n τ (N : Sg → Prop), I n τ → (∀ m, m < n → ∀ τ', I m τ' → N τ') → awp P G a (Exit.seqA N Q) τ) : awp P G (.loop a) Q σ := awp_loopI I big h round
theorem gK_mono {x : AV} {want : Bool} {a b a' b' : Sg → Prop} {σ : Sg} (h1 : ∀ σ, a σ → a' σ) (h2 : ∀ σ, b σ → b' σ) (h : gK x want a b σ) : gK x want a' b' σ := by
 unfold gK at *
 split at h
 · split at h
   · rename_i hx; simp only [hx, if_true]; exact h1 _ h
   · rename_i hx; simp only [hx, if_false]; exact h2 _ h
 · exact h2 _ h
 · exact h.elim
theorem gM_mono {g : Option (Nat × Bool)} {d : Dst} {A A' K K' : Sg → Prop} {σ : Sg} (h1 : ∀ σ, A σ → A' σ) (h2 : ∀ σ, K σ → K' σ) (h : gM g d A K σ) : gM g d A' K' σ := by
 cases g with
 | none => exact h1 _ h
 | some x => obtain ⟨s, want⟩ := x; exact gK_mono h1 (fun σ hx => h2 _ hx) h
theorem ams_mono {K K' : Sg → Mu → Prop} (h : ∀ σ μ, K σ μ → K' σ μ) : ∀ {l : List MOp} {σ : Sg} {μ : Mu}, ams P G l K σ μ → ams P G l K' σ μ
 | [], _, _, ht => h _ _ ht
 | .x _ :: _, _, _, ht => axs_mono (fun _ hx => ams_mono h hx) ht
 | .mkm _ :: _, _, _, ht => fun b hb => toDst_mono (fun _ hx => ams_mono h hx) (ht b hb)
 | .lkp g d m k :: l, σ, μ, ht => by
  simp only [ams] at ht ⊢
  refine gM_mono (fun σ hx => ?_) (fun σ hx => ams_mono h hx) ht
  unfold lkpK at hx ⊢
  split at hx
  · split at hx
    · exact ⟨hx.1, toDst_mono (fun _ hy => ams_mono h hy) hx.2⟩
    · exact hx.elim
  · exact hx.elim
 | .mup m k v :: l, σ, μ, ht => by
  simp only [ams] at ht ⊢
  unfold mupK at ht ⊢
  split at ht
  · split at ht
    · exact ⟨ht.1, ams_mono h ht.2⟩
    · exact ht.elim
  · exact ht.elim
 | .rng d x :: l, σ, μ, ht => by
  simp only [ams] at ht ⊢
  unfold rngK at ht ⊢
  split at ht
  · exact fun b hb => toDst_mono (fun _ hx => ams_mono h hx) (ht b hb)
  · exact ht.elim
 | .nxt d x :: l, σ, μ, ht => by
  simp only [ams] at ht ⊢
  unfold nxtK at ht ⊢
  split at ht
  · split at ht
    · split at ht
      · rename_i hp; simp only [hp, if_true]; exact toDst_mono (fun _ hx => ams_mono h hx) ht
      · rename_i hp; simp only [hp, if_false]; exact toDst_mono (fun _ hx => ams_mono h hx) ht
    · exact ht.elim
  · exact ht.elim
theorem awpM_mono {ic : ICM} : ∀ {Q Q' : Exit → Sg → Mu → Prop} {σ : Sg} {μ : Mu}, (∀ e σ μ, Q e σ μ → Q' e σ μ) → awpM P G ic Q σ μ → awpM P G ic Q' σ μ := by
 induction ic with
 | ic c => exact fun h ht => awp_mono (fun e σ hx => h e σ _ hx) ht
 | mrex xs => exact fun h ht => ams_mono (h .normal) ht
 | seq a b iha ihb =>
  intro Q Q' σ μ h ht
  refine iha (fun e σ' μ' hq => ?_) ht
  cases e with
  | normal => exact ihb h hq
  | _ => exact h _ _ _ hq
 | cond c a b iha ihb =>
  intro Q Q' σ μ h ht
  rw [awpM_condM] at ht ⊢
  unfold condM at ht ⊢
  split at ht
  · split at ht
    · rename_i hx; simp only [hx, if_true]; exact iha h ht
    · rename_i hx; simp only [hx, if_false]; exact ihb h ht
  · exact ht.elim
 | block id a iha =>
  intro Q Q' σ μ h ht
  refine iha (fun e σ' μ' hq => ?_) ht
  cases e with
  | exit i =>
   rw [blockM_exit] at hq ⊢
   split
   · rename_i hi; rw [if_pos hi] at hq; exact h _ _ _ hq
   · rename_i hi; rw [if_neg hi] at hq; exact h _ _ _ hq
  | _ => exact h _ _ _ hq
 | loop a iha =>
  intro Q Q' σ μ h ht
  obtain ⟨I, h0, hr⟩ := ht
  refine ⟨I, h0, fun n τ ν hI => iha (fun e σ' μ' hq => ?_) (hr n τ ν hI)⟩
  cases e with
  | normal => exact hq
  | _ => exact h _ _ _ hq
def cutM (a b : ICM) : ICM := .seq a b
theorem awpM_cut {a b : ICM} {Q : Exit → Sg → Mu → Prop} {M : Sg → Mu → Prop} {σ : Sg} {μ : Mu} (h1 : awpM P G a (Exit.seqM M Q) σ μ) (h2 : ∀ τ ν, M τ ν → awpM P G b Q τ ν) : awpM P G (cutM a b) Q σ μ := by
 unfold cutM
 rw [awpM_seq]
 refine awpM_mono ?_ h1
 intro e τ ν h
 cases e with
 | normal => exact h2 τ ν h
 | _ => exact h
theorem cutMH {a b : ICM} {Q : Exit → Sg → Mu → Prop} (M0 : Sg → Mu → Prop) {σ : Sg} {μ : Mu} (h : ∀ M : Sg → Mu → Prop, (∀ τ ν, M0 τ ν → M τ ν) → awpM P G a (Exit.seqM M Q) σ μ ∧ ∀ τ ν, M0 τ ν → awpM P G b Q τ ν) : awpM P G (cutM a b) Q σ μ :=
 awpM_cut (h M0 fun _ _ h => h).1 (h M0 fun _ _ h => h).2
theorem awpM_loopI {a : ICM} {Q : Exit → Sg → Mu → Prop} {σ : Sg} {μ : Mu} (I : Nat → Sg → Mu → Prop) (n : Nat) (h : I n σ μ)
 (round : ∀ n τ ν (N : Sg → Mu → Prop), I n τ ν → (∀ m, m < n → ∀ τ' ν', I m τ' ν' → N τ' ν') → awpM P G a (Exit.seqM N Q) τ ν) : awpM P G (.loop a) Q σ μ :=
 awpM_loop I n h fun n τ ν hI => round n τ ν _ hI fun m hm τ' ν' hτ' => ⟨m, hm, hτ'⟩
theorem loopMH {a : ICM} {Q : Exit → Sg → Mu → Prop} {σ : Sg} {μ : Mu} (I : Nat → Sg → Mu → Prop) (h : I big σ μ)
 (round : ∀ n τ ν (N : Sg → Mu → Prop), I n τ ν → (∀ m, m < n → ∀ τ' ν', I m τ' ν' → N τ' ν') → awpM P G a (Exit.seqM N Q) τ ν) : awpM P G (.loop a) Q σ μ := awpM_loopI I big h round
def tv (s : ByteArray) : ByteArray × Value := (s, .bool true)
theorem look_set (l : List ByteArray) (s : ByteArray) : lookA (l.map tv) s (.bool false) = .bool (l.any fun x => x == s) := by
 induction l with
 | nil => rfl
 | cons x l ih =>
  unfold lookA at ih ⊢
  rw [List.map_cons, List.find?_cons, List.any_cons]
  cases hx : (tv x).1 == s with
  | true => simp [show (x == s) = true from hx, tv]
  | false => simp only [show (x == s) = false from hx, Bool.false_or]; exact ih
theorem all_set (l : List ByteArray) (s : ByteArray) : ((l.map tv).all fun x => !(x.1 == s)) = !(l.any fun x => x == s) := by
 induction l with
 | nil => rfl
 | cons x l ih => rw [List.map_cons, List.all_cons, List.any_cons, ih]; simp [tv]
theorem add_set (l : List ByteArray) (s : ByteArray) : addA (l.map tv) s (.bool true) = (l ++ [s]).map tv := by simp [addA, tv]
theorem plainV_bool (b : Bool) : plainV (.bool b) = true := rfl
attribute [go_sem] look_set all_set add_set plainV_bool
theorem map_len {α β : Type} (f : α → β) (l : List α) : (l.map f).length = l.length := List.length_map ..
theorem map_get {α β : Type} (f : α → β) (l : List α) (i : Nat) : (l.map f)[i]? = (l[i]?).map f := List.getElem?_map ..
theorem map_app {α β : Type} (f : α → β) (l m : List α) : l.map f ++ m.map f = (l ++ m).map f := (List.map_append ..).symm
theorem map_tk {α β : Type} (f : α → β) (l : List α) (n : Nat) : (l.map f).take n = (l.take n).map f := (List.map_take ..).symm
theorem map_dr {α β : Type} (f : α → β) (l : List α) (n : Nat) : (l.map f).drop n = (l.drop n).map f := (List.map_drop ..).symm
theorem dt1 {α : Type} {l : List α} {i : Nat} {x : α} (h : l[i]? = some x) : (l.drop i).take 1 = [x] := by
 obtain ⟨hi, rfl⟩ := List.getElem?_eq_some_iff.1 h
 rw [List.drop_eq_getElem_cons hi]; rfl
theorem sc_str (l : List ByteArray) : (l.map Value.string).map AV.sc = l.map sst := by rw [List.map_map]; rfl
theorem cast22 : ((22 : Nat) : Int) = 22 := rfl
attribute [go_sem] dt1 sc_str cast22 Nat.mul_one List.getElem?_set_self List.set_set List.length_set Nat.zero_le Option.isSome_none Option.isSome_some Option.isNone_none map_len map_get map_app map_tk map_dr
attribute [go_sem] Nat.reduceAdd
def i0 (d : Nat) (op : IOp) : IOper := ⟨some ⟨d, [], []⟩, op, none⟩
def i1 (d r : Nat) (op : IOp) : IOper := ⟨some ⟨d, [], [r]⟩, op, none⟩
def j0 (d : Nat) (op : IOp) (g : Nat) (b : Bool) : IOper := ⟨some ⟨d, [], []⟩, op, some (g, b)⟩
def j1 (d r : Nat) (op : IOp) (g : Nat) (b : Bool) : IOper := ⟨some ⟨d, [], [r]⟩, op, some (g, b)⟩
def iC (d s : Nat) : IOper := ⟨some ⟨d, [], []⟩, .cp (.t s), none⟩
def iL (d s : Nat) : IOper := ⟨some ⟨d, [], []⟩, .ld false 1 (.t s), none⟩
def iLr (d r s : Nat) : IOper := ⟨some ⟨d, [], [r]⟩, .ld false 1 (.t s), none⟩
def iF (d o s : Nat) : IOper := ⟨some ⟨d, [], []⟩, .fad o (.t s), none⟩
def iFr (d r o s : Nat) : IOper := ⟨some ⟨d, [], [r]⟩, .fad o (.t s), none⟩
def iX (d s i : Nat) : IOper := ⟨some ⟨d, [], []⟩, .ext (.t s) i, none⟩
def iI (d k s i : Nat) : IOper := ⟨some ⟨d, [], []⟩, .iad k (.t s) (.t i), none⟩
def iIr (d r k s i : Nat) : IOper := ⟨some ⟨d, [], [r]⟩, .iad k (.t s) (.t i), none⟩
def iS (n a b : Nat) : IOper := ⟨none, .st n (.t a) (.t b), none⟩
def jL (d s g : Nat) (b : Bool) : IOper := ⟨some ⟨d, [], []⟩, .ld false 1 (.t s), some (g, b)⟩
def jLr (d r s g : Nat) (b : Bool) : IOper := ⟨some ⟨d, [], [r]⟩, .ld false 1 (.t s), some (g, b)⟩
def jF (d o s g : Nat) (b : Bool) : IOper := ⟨some ⟨d, [], []⟩, .fad o (.t s), some (g, b)⟩
def jFr (d r o s g : Nat) (b : Bool) : IOper := ⟨some ⟨d, [], [r]⟩, .fad o (.t s), some (g, b)⟩
def iQ (d s : Nat) (n : Int) : IOper := ⟨some ⟨d, [], []⟩, .bin .eql (.t s) (.c (.sc (.int .i64 n))), none⟩
def iO (d : Nat) (op : BinOp) (a b : Nat) : IOper := ⟨some ⟨d, [], []⟩, .bin op (.t a) (.t b), none⟩
def iP (d : Nat) (op : BinOp) (a : Nat) (n : Int) : IOper := ⟨some ⟨d, [], []⟩, .bin op (.t a) (.c (.sc (.int .i64 n))), none⟩
def iM (d s : Nat) : IOper := ⟨some ⟨d, [], []⟩, .mv (.t s), none⟩
def iK (d : Nat) (n : Int) : IOper := ⟨some ⟨d, [], []⟩, .mv (.c (.sc (.int .i64 n))), none⟩
def iB (d : Nat) (b : Bool) : IOper := ⟨some ⟨d, [], []⟩, .mv (.c (.sc (.bool b))), none⟩
def iN (d s : Nat) : IOper := ⟨some ⟨d, [], []⟩, .un .not (.t s), none⟩
def iT (a : Nat) (n : Int) : IOper := ⟨none, .st 1 (.t a) (.c (.sc (.int .i64 n))), none⟩
def sR (l : List IOper) (b : IC) : IC := .seq (.reg l) b
def bA (k : Nat) (cs : List AV) : AV := .own true k [cs]
attribute [go_sem] iQ iO iP iM iK iB iN iT sR bA i0 i1 j0 j1 iC iL iLr iF iFr iX iI iIr iS jL jLr jF jFr
end Go.Abs
namespace Go.Abs
open Go.ChangeShapes Go.WideShapes Go.ChangeAt Go.RowKit
def Old (w : World) (b : Nat) : Prop := b < w.heap.size
def Cells (w : World) (avs : List AV) (cs : List Value) : Prop := avs.length = cs.length ∧ ∀ (i : Nat) a v, avs[i]? = some a → cs[i]? = some v → Fz w (Old w) a v
theorem Cells.append {w : World} {a1 a2 : List AV} {c1 c2 : List Value} (h1 : Cells w a1 c1) (h2 : Cells w a2 c2) : Cells w (a1 ++ a2) (c1 ++ c2) := by
 refine ⟨by simp [h1.1, h2.1], fun i a v ha hv => ?_⟩
 by_cases hi : i < a1.length
 · rw [List.getElem?_append_left hi] at ha
   rw [List.getElem?_append_left (by rw [← h1.1]; exact hi)] at hv
   exact h1.2 i a v ha hv
 · rw [List.getElem?_append_right (by omega)] at ha
   rw [List.getElem?_append_right (by rw [← h1.1]; omega)] at hv
   rw [← h1.1] at hv
   exact h2.2 _ a v ha hv
theorem Cells.nil (w : World) : Cells w [] [] := ⟨rfl, fun i a v h => by simp at h⟩
theorem Cells.one {w : World} {a : AV} {v : Value} (h : Fz w (Old w) a v) : Cells w [a] [v] := by
 refine ⟨rfl, fun i a' v' ha hv => ?_⟩
 cases i with
 | zero => simp at ha hv; subst ha; subst hv; exact h
 | succ i => simp at ha
def Light {H : Type} (P : Program) (t : TypeId) (d : DataW H) : Prop := ∀ n ∈ d.weights P t, n ≤ reachBytes
def Opens (P : Program) (t : TypeId) (X : List AV → Prop) : Prop :=
 ∀ (H : Type) (enc : TypeId × Value → H) (w : World) (fuel : Nat) (cs : List Value) (d : DataW H) (ps : List MemPlace),
  DataW.trod enc P w 0 (fun _ => true) true fuel t cs = some (d, ps) → Light P t d → ∃ avs, X avs ∧ Cells w avs cs
theorem Opens.mono {P : Program} {t : TypeId} {X Y : List AV → Prop} (h : Opens P t X) (hXY : ∀ a, X a → Y a) : Opens P t Y := by
 intro H enc w fuel cs d ps ht hl
 obtain ⟨avs, hx, hc⟩ := h H enc w fuel cs d ps ht hl
 exact ⟨avs, hXY _ hx, hc⟩
theorem opens_bool {P : Program} {t : TypeId} (h : P.underlying t = some .bool) : Opens P t (fun avs => ∃ b, avs = [sb b]) := by
 intro H enc w fuel cs d ps ht hl
 cases fuel with
 | zero => simp [DataW.trod] at ht
 | succ fuel =>
  unfold DataW.trod at ht
  rw [h] at ht
  split at ht <;> rename_i h1 <;> try (cases h1; done)
  · exact ⟨_, ⟨_, rfl⟩, Cells.one (.sc _ rfl)⟩
  · cases ht
theorem opens_int {P : Program} {t : TypeId} {k : IntKind} (h : P.underlying t = some (.int k)) : Opens P t (fun avs => ∃ n, avs = [.sc (.int k n)] ∧ (Lit.int k n).wf = true) := by
 intro H enc w fuel cs d ps ht hl
 cases fuel with
 | zero => simp [DataW.trod] at ht
 | succ fuel =>
  unfold DataW.trod at ht
  rw [h] at ht
  split at ht <;> rename_i h1 <;> try (cases h1; done)
  · cases h1
    split at ht
    · rename_i hw
      obtain ⟨rfl, hw⟩ := hw
      exact ⟨_, ⟨_, rfl, hw⟩, Cells.one (.sc _ rfl)⟩
    · cases ht
  · cases ht
theorem opens_string {P : Program} {t : TypeId} (h : P.underlying t = some .string) : Opens P t (fun avs => ∃ s : ByteArray, avs = [.sc (.string s)] ∧ s.size ≤ reachBytes) := by
 intro H enc w fuel cs d ps ht hl
 cases fuel with
 | zero => simp [DataW.trod] at ht
 | succ fuel =>
  unfold DataW.trod at ht
  rw [h] at ht
  split at ht <;> rename_i h1 <;> try (cases h1; done)
  · split at ht
    · rename_i s hs
      simp only [Option.some.injEq, Prod.mk.injEq] at ht
      obtain ⟨rfl, rfl⟩ := ht
      refine ⟨_, ⟨s, rfl, ?_⟩, Cells.one (.sc _ rfl)⟩
      have := hl s.data.toList.length (by simp [DataW.weights])
      simpa using this
    · cases ht
  · cases ht
theorem cells?_facts {w : World} {a : Addr} {n : Nat} {cs : List Value} (h : w.cells? 0 a n = some cs) : cs.length = n ∧ ∀ (j : Nat) v, cs[j]? = some v → w.cell? (a.add j) = some v := by
 unfold World.cells? at h
 rw [if_pos (Nat.zero_le _)] at h
 have hlen := mapM_some_length h
 rw [List.length_range] at hlen
 refine ⟨hlen, fun j v hj => ?_⟩
 have hjn : j < n := by rw [← hlen]; exact (List.getElem?_eq_some_iff.1 hj).1
 have := mapM_some_get h j j (by simp [hjn])
 rw [this]; exact hj
theorem weightsAll_mem {H : Type} {P : Program} {e : TypeId} {l : List (DataW H)} {d : DataW H} (hd : d ∈ l) {n : Nat} (hn : n ∈ d.weights P e) : n ∈ DataW.weightsAll P e l := by
 induction l with
 | nil => simp at hd
 | cons x l ih =>
  rw [DataW.weightsAll, List.mem_append]
  rcases List.mem_cons.1 hd with rfl | hd
  · exact .inl hn
  · exact .inr (ih hd)
theorem cell_lt {w : World} {a : Addr} {v : Value} (h : w.cell? a = some v) : a.spot = none ∧ a.block < w.heap.size := by
 unfold World.cell? at h
 split at h
 · rename_i c e f1 f2 hb
   refine ⟨?_, (Array.getElem?_eq_some_iff.1 hb).1⟩
   cases hs : a.spot with
   | none => rfl
   | some x => simp [hs] at h
 · cases h
theorem opens_slice {P : Program} {t e : TypeId} {k : Nat} {X : List AV → Prop} (h : P.underlying t = some (.slice e)) (hk : P.cellsOf e = k) (hk0 : 0 < k) (he : Opens P e X) :
 Opens P t (fun avs => ∃ rows, avs = [.sl false k rows] ∧ (∀ row ∈ rows, X row ∧ row.length = k) ∧ rows.length * P.bytesOf e ≤ reachBytes) := by
 intro H enc w fuel cs d ps ht hl
 cases fuel with
 | zero => simp [DataW.trod] at ht
 | succ fuel =>
  unfold DataW.trod at ht
  rw [h] at ht
  split at ht <;> rename_i h1 <;> try (cases h1; done)
  · exact ⟨_, ⟨[], rfl, by simp, by simp⟩, Cells.one (.nil _ _ _ _ (by simp))⟩
  · rename_i e' a len cap
    obtain rfl : e = e' := by simpa using h1
    simp only [hk] at ht
    split at ht
    · rename_i hc
      cases hm : (List.range len).mapM (fun i => (w.cells? 0 (a.add (i * k)) k).bind (DataW.trod enc P w 0 (fun _ => true) true fuel e)) with
      | none => simp [hm] at ht
      | some elems =>
       rw [hm] at ht
       simp only [Option.bind_some, if_true, Option.map_eq_some_iff, Prod.mk.injEq] at ht
       obtain ⟨rest, _, rfl, _⟩ := ht
       have hlen : elems.length = len := by have := mapM_some_length hm; simpa using this
       -- each element
       have hel : ∀ i, i < len → ∃ csi x avs, w.cells? 0 (a.add (i * k)) k = some csi ∧ elems[i]? = some x ∧ X avs ∧ Cells w avs csi := by
        intro i hi
        have := mapM_some_get hm i i (by simp [hi])
        cases hcs : w.cells? 0 (a.add (i * k)) k with
        | none =>
         rw [hcs] at this
         have h2 : elems[i]? = some elems[i] := List.getElem?_eq_getElem (by omega)
         rw [h2] at this; simp at this
        | some csi =>
         rw [hcs] at this
         have h2 : elems[i]? = some elems[i] := List.getElem?_eq_getElem (by omega)
         rw [h2, Option.bind_some] at this
         obtain ⟨avs, hx, hcc⟩ := he H enc w fuel csi elems[i].1 elems[i].2 this (fun n hn => hl n (by
          rw [DataW.weights, h]
          simp only [List.mem_cons, List.mem_append]
          exact .inr (.inl (weightsAll_mem (List.mem_map_of_mem (List.getElem_mem (by omega))) hn))))
         exact ⟨csi, _, avs, rfl, h2, hx, hcc⟩
       have hw : ∃ f : Nat → List AV × List Value, ∀ i, i < len → w.cells? 0 (a.add (i * k)) k = some (f i).2 ∧ X (f i).1 ∧ Cells w (f i).1 (f i).2 := by
        refine ⟨fun i => if hi : i < len then ((hel i hi).choose_spec.choose_spec.choose, (hel i hi).choose) else ([], []), fun i hi => ?_⟩
        have := (hel i hi).choose_spec.choose_spec.choose_spec
        simp only [hi, dif_pos]
        exact ⟨this.1, this.2.2⟩
       obtain ⟨f, hf⟩ := hw
       let rows := (List.range len).map fun i => (f i).1
       have hrl : rows.length = len := by simp [rows]
       have hrow : ∀ i row, rows[i]? = some row → i < len ∧ row = (f i).1 := by
        intro i row hr
        have hi : i < len := by rw [← hrl]; exact (List.getElem?_eq_some_iff.1 hr).1
        refine ⟨hi, ?_⟩
        simp only [rows, List.getElem?_map, List.getElem?_range hi, Option.map_some, Option.some.injEq] at hr
        exact hr.symm
       have hrk : ∀ i, i < len → (f i).1.length = k := fun i hi => by
        rw [(hf i hi).2.2.1]; exact (cells?_facts (hf i hi).1).1
       refine ⟨_, ⟨rows, rfl, ?_, ?_⟩, Cells.one ?_⟩
       · intro row hr
         obtain ⟨i, hi⟩ := List.mem_iff_getElem?.1 hr
         obtain ⟨h2, rfl⟩ := hrow i row hi
         exact ⟨(hf i h2).2.1, hrk i h2⟩
       · have := hl ((elems.map (·.1)).length + (rest.map (·.1)).length) |> fun _ => hl (((elems.map (·.1)).length + (rest.map (·.1)).length) * P.bytesOf e) (by rw [DataW.weights, h]; simp)
         rw [hrl]
         refine Nat.le_trans (Nat.mul_le_mul_right _ ?_) this
         simp [hlen]
       · by_cases h0 : len = 0
         · subst h0
           have hr0 : rows = [] := List.eq_nil_of_length_eq_zero hrl
           rw [hr0]
           exact .nil _ _ _ _ (by simp)
         · have hcell : ∀ i j row c, rows[i]? = some row → row[j]? = some c → ∃ v, (f i).2[j]? = some v ∧ w.cell? ((a.add (i * k)).add j) = some v ∧ Fz w (Old w) c v := by
            intro i j row c h2 h3
            obtain ⟨h4, rfl⟩ := hrow i row h2
            have hj : j < (f i).2.length := by rw [← (hf i h4).2.2.1]; exact (List.getElem?_eq_some_iff.1 h3).1
            have h5 : (f i).2[j]? = some (f i).2[j] := List.getElem?_eq_getElem hj
            exact ⟨_, h5, (cells?_facts (hf i h4).1).2 j _ h5, (hf i h4).2.2.2 j c _ h3 h5⟩
           obtain ⟨r0, hr0⟩ : ∃ r0, rows[0]? = some r0 := ⟨rows[0]'(by omega), List.getElem?_eq_getElem _⟩
           obtain ⟨_, e0⟩ := hrow 0 r0 hr0
           obtain ⟨c0, hc0⟩ : ∃ c0, r0[0]? = some c0 := ⟨r0[0]'(by rw [e0, hrk 0 (by omega)]; exact hk0), List.getElem?_eq_getElem _⟩
           obtain ⟨v0, _, hv0, _⟩ := hcell 0 0 r0 c0 hr0 hc0
           obtain ⟨hsp, hblk⟩ := cell_lt hv0
           obtain ⟨b, off, sp⟩ := a
           obtain rfl : sp = none := by
            unfold Addr.add at hsp
            simp only [if_true] at hsp
            split at hsp
            · exact hsp
            · cases sp <;> simp_all
           rw [Addr.add_lit, Addr.add_lit] at hblk
           have hsl := Fz.sl (w := w) (S := Old w) false k rows b off cap (fun i j => ((f i).2[j]?).getD undef) (by simp) (by rw [hrl]; exact hc.2.1) hblk (by
            intro row hr
            obtain ⟨i, hi⟩ := List.mem_iff_getElem?.1 hr
            obtain ⟨h2, rfl⟩ := hrow i row hi
            exact hrk i h2) (by
            intro i j row c h2 h3
            obtain ⟨v, h4, h5, _⟩ := hcell i j row c h2 h3
            rw [h4]
            rw [Addr.add_lit, Addr.add_lit] at h5
            rw [show off + (i * k + j) = off + i * k + j from by omega]
            exact h5) (by
            intro i j row c h2 h3
            obtain ⟨v, h4, _, h6⟩ := hcell i j row c h2 h3
            rw [h4]
            exact h6)
           rw [hrl] at hsl
           exact hsl
    · cases ht
  · cases ht
end Go.Abs
namespace Go.Abs
open Go.ChangeShapes Go.WideShapes Go.ChangeAt Go.RowKit
def CatX : List (List AV → Prop) → List AV → Prop
 | [], avs => avs = []
 | X :: Xs, avs => ∃ a r, avs = a ++ r ∧ X a ∧ CatX Xs r
def OpensL (P : Program) : List Field → Nat → List (List AV → Prop) → Prop
 | [], _, [] => True
 | f :: fs, off, X :: Xs => f.offset = off ∧ Opens P f.type X ∧ OpensL P fs (off + P.cellsOf f.type) Xs
 | _, _, _ => False
def endOf (P : Program) : List Field → Nat → Nat
 | [], off => off
 | f :: fs, off => endOf P fs (off + P.cellsOf f.type)
theorem opens_fields {P : Program} {H : Type} {enc : TypeId × Value → H} {w : World} {fuel : Nat} {cs : List Value} (fs : List Field) : ∀ (off : Nat) (Xs : List (List AV → Prop)) (xs : List (DataW H × List MemPlace)), OpensL P fs off Xs → endOf P fs off ≤ cs.length →
 fs.mapM (fun f => DataW.trod enc P w 0 (fun _ => true) true fuel f.type ((cs.drop f.offset).take (P.cellsOf f.type))) = some xs → (∀ n ∈ DataW.weightsEach P (fs.map (·.type)) (xs.map (·.1)), n ≤ reachBytes) →
 ∃ avs, CatX Xs avs ∧ Cells w avs ((cs.drop off).take (endOf P fs off - off)) := by
 induction fs with
 | nil =>
  intro off Xs xs hO hle hm hw
  cases Xs with
  | nil => exact ⟨[], rfl, by simp [endOf, Cells.nil]⟩
  | cons => exact hO.elim
 | cons f fs ih =>
  intro off Xs xs hO hle hm hw
  cases Xs with
  | nil => exact hO.elim
  | cons X Xs =>
   obtain ⟨ho, hX, hO⟩ := hO
   rw [List.mapM_cons] at hm
   cases h1 : DataW.trod enc P w 0 (fun _ => true) true fuel f.type ((cs.drop f.offset).take (P.cellsOf f.type)) with
   | none => simp [h1] at hm
   | some x =>
    cases h2 : fs.mapM (fun f => DataW.trod enc P w 0 (fun _ => true) true fuel f.type ((cs.drop f.offset).take (P.cellsOf f.type))) with
    | none => simp [h1, h2] at hm
    | some ys =>
     simp only [h1, h2, Option.pure_def, Option.bind_eq_bind, Option.bind_some, Option.some.injEq] at hm
     subst hm
     simp only [List.map_cons, DataW.weightsEach, List.mem_append] at hw
     obtain ⟨a, ha, hca⟩ := hX H enc w fuel _ x.1 x.2 h1 (fun n hn => hw n (.inl hn))
     obtain ⟨r, hr, hcr⟩ := ih (off + P.cellsOf f.type) Xs ys hO (by simpa [endOf] using hle) h2 (fun n hn => hw n (.inr hn))
     refine ⟨a ++ r, ⟨a, r, rfl, ha, hr⟩, ?_⟩
     have hge : ∀ (l : List Field) (o : Nat), o ≤ endOf P l o := by
      intro l
      induction l with
      | nil => intro o; exact Nat.le_refl _
      | cons g l ih => intro o; have := ih (o + P.cellsOf g.type); simp only [endOf]; omega
     have h3 := hge fs (off + P.cellsOf f.type)
     have e : (cs.drop off).take (endOf P (f :: fs) off - off) = (cs.drop f.offset).take (P.cellsOf f.type) ++ (cs.drop (off + P.cellsOf f.type)).take (endOf P fs (off + P.cellsOf f.type) - (off + P.cellsOf f.type)) := by
      rw [ho, ← List.drop_drop]
      simp only [endOf]
      rw [show endOf P fs (off + P.cellsOf f.type) - off = P.cellsOf f.type + (endOf P fs (off + P.cellsOf f.type) - (off + P.cellsOf f.type)) from by omega, List.take_add]
     rw [e]
     exact hca.append hcr
theorem opens_struct {P : Program} {t : TypeId} {fs : Array Field} {Xs : List (List AV → Prop)} (h : P.underlying t = some (.struct fs)) (hO : OpensL P fs.toList 0 Xs) (hend : endOf P fs.toList 0 = P.cellsOf t) : Opens P t (CatX Xs) := by
 intro H enc w fuel cs d ps ht hl
 cases fuel with
 | zero => simp [DataW.trod] at ht
 | succ fuel =>
  simp only [DataW.trod, h] at ht
  · split at ht
    · rename_i hc
      cases hm : fs.toList.mapM (fun f => DataW.trod enc P w 0 (fun _ => true) true fuel f.type ((cs.drop f.offset).take (P.cellsOf f.type))) with
      | none => simp [hm] at ht
      | some xs =>
       simp only [hm, Option.map_some, Option.some.injEq, Prod.mk.injEq] at ht
       obtain ⟨rfl, rfl⟩ := ht
       obtain ⟨avs, hX, hcl⟩ := opens_fields fs.toList 0 Xs xs hO (by rw [hend, hc]; exact Nat.le_refl _) hm (fun n hn => hl n (by rw [DataW.weights, h]; exact hn))
       refine ⟨avs, hX, ?_⟩
       rw [hend, ← hc] at hcl
       simpa using hcl
    · cases ht
def argAV (P : Program) (t : TypeId) (avs : List AV) : AV := if (match P.underlying t with | some (.struct _) => true | some (.array _ _) => true | _ => false) = true then .agg avs else avs.headD .dead
def ArgsX (P : Program) : List TypeId → List (List AV → Prop) → List AV → Prop
 | [], [], as' => as' = []
 | t :: ts, X :: Xs, as' => ∃ avs r, as' = argAV P t avs :: r ∧ X avs ∧ ArgsX P ts Xs r
 | _, _, _ => False
def OpensA (P : Program) : List TypeId → List (List AV → Prop) → Prop
 | [], [] => True
 | t :: ts, X :: Xs => Opens P t X ∧ OpensA P ts Xs
 | _, _ => False
theorem args_open {P : Program} {H : Type} {enc : TypeId × Value → H} {w : World} {base : Nat} (ts : List TypeId) : ∀ (Xs : List (List AV → Prop)) (vs : List Value) (ds : List (DataW H)) (ps : List MemPlace), OpensA P ts Xs → DataW.TrodAll enc P w 0 (fun _ => true) true ts vs ds ps →
 (∀ (j : Nat) t v, ts[j]? = some t → vs[j]? = some v → Value.okWide P w .any base t v) → (∀ n ∈ DataW.weightsEach P ts ds, n ≤ reachBytes) →
 ∃ as' : List AV, ArgsX P ts Xs as' ∧ as'.length = vs.length ∧ ∀ (i : Nat) a v, as'[i]? = some a → vs[i]? = some v → Fz w (Old w) a v := by
 induction ts with
 | nil =>
  intro Xs vs ds ps hO hT hv hw
  obtain ⟨rfl, rfl, rfl⟩ := trodAll_nil hT
  cases Xs with
  | nil => exact ⟨[], rfl, rfl, fun i a v h => by simp at h⟩
  | cons => exact hO.elim
 | cons t ts ih =>
  intro Xs vs ds ps hO hT hv hw
  cases Xs with
  | nil => exact hO.elim
  | cons X Xs =>
   obtain ⟨hX, hO⟩ := hO
   obtain ⟨v, vs1, d, ds1, p, q, rfl, rfl, rfl, ⟨fuel, h1⟩, h2⟩ := trodAll_cons hT
   simp only [DataW.weightsEach, List.mem_append] at hw
   obtain ⟨avs, hx, hc⟩ := hX H enc w fuel _ d p h1 (fun n hn => hw n (.inl hn))
   obtain ⟨r, hr1, hr2, hr3⟩ := ih Xs vs1 ds1 q hO h2 (fun j t' v' ht' hv' => hv (j + 1) t' v' (by simpa using ht') (by simpa using hv')) (fun n hn => hw n (.inr hn))
   have hval := hv 0 t v rfl rfl
   refine ⟨argAV P t avs :: r, ⟨avs, r, rfl, hx, hr1⟩, by simp [hr2], ?_⟩
   intro i a u ha hu
   cases i with
   | succ i => simp at ha hu; exact hr3 i a u ha hu
   | zero =>
    simp only [List.getElem?_cons_zero, Option.some.injEq] at ha hu
    subst ha; subst hu
    unfold argAV
    by_cases hag : (match P.underlying t with | some (.struct _) => true | some (.array _ _) => true | _ => false) = true
    · rw [if_pos hag]
      obtain ⟨cs, rfl⟩ : ∃ cs, v = .agg cs := by
       unfold Value.okWide at hval
       split at hval
       · exact ⟨_, hval.choose_spec.1⟩
       · exact ⟨_, hval.choose_spec.1⟩
       · rename_i h3 h4
         exfalso
         split at hag
         · rename_i fs hh; exact h3 fs hh
         · rename_i n e hh; exact h4 n e hh
         · cases hag
      have := Fz.agg (w := w) (S := Old w) avs cs.toList (by rw [hc.1]; rfl) (fun i a v ha hv => hc.2 i a v ha hv)
      simpa using this
    · rw [if_neg hag]
      have hcell : v.cells.toList = [v] := by
       unfold Value.okWide at hval
       split at hval
       · rename_i hh; simp [hh] at hag
       · rename_i hh; simp [hh] at hag
       · cases v with
         | agg cs =>
          exfalso
          unfold Cell.okWide at hval
          split at hval <;> rename_i hv' <;> try (cases hv'; done)
          · simp [Cell.ok] at hval
         | _ => rfl
      rw [hcell] at hc
      obtain ⟨a, rfl⟩ : ∃ a, avs = [a] := List.length_eq_one_iff.1 hc.1
      exact hc.2 0 a v rfl rfl
end Go.Abs
namespace Go.Abs
open Go.ChangeShapes Go.WideShapes Go.ChangeAt Go.RowKit
theorem fz_trees {w : World} {S : Nat → Prop} (cs : List AV) : ∀ (vs : List Value), vs.length = cs.length → (∀ (i : Nat) a v, cs[i]? = some a → vs[i]? = some v → ∃ D : DV, D.er = a ∧ D.ann = v ∧ Ok w S D (fun _ => False)) →
 ∃ Ds : List DV, Ds.map DV.er = cs ∧ Ds.map DV.ann = vs ∧ ∀ D ∈ Ds, Ok w S D (fun _ => False) := by
 induction cs with
 | nil => intro vs h _; cases vs with | nil => exact ⟨[], rfl, rfl, by simp⟩ | cons => simp at h
 | cons a cs ih =>
  intro vs h hf
  cases vs with
  | nil => simp at h
  | cons v vs =>
   obtain ⟨Ds, d1, d2, d3⟩ := ih vs (by simpa using h) (fun i a v h1 h2 => hf (i + 1) a v (by simpa using h1) (by simpa using h2))
   obtain ⟨D, e1, e2, e3⟩ := hf 0 a v rfl rfl
   refine ⟨D :: Ds, by simp [d1, e1], by simp [d2, e2], ?_⟩
   intro X hX
   rcases List.mem_cons.1 hX with rfl | hX
   · exact e3
   · exact d3 X hX
theorem fz_tree {w : World} {S : Nat → Prop} {a : AV} {v : Value} (h : Fz w S a v) : ∃ D : DV, D.er = a ∧ D.ann = v ∧ Ok w S D (fun _ => False) := by
 induction h with
 | sc v hp => exact ⟨.lf (.sc v) v, by simp, by simp, .lf _ _ _ ⟨rfl, hp⟩ (fun _ h => h)⟩
 | dead v => exact ⟨.lf .dead v, by simp, by simp, .lf _ _ _ trivial (fun _ h => h)⟩
 | nil x k a c hx => exact ⟨.lf (.sl x k []) (.slice a 0 c), by simp, by simp, .lf _ _ _ (Fz.nil x k a c hx) (fun _ h => h)⟩
 | sl x k rows b off c vs hx hlc hS hk hc hr ih => exact ⟨.lf (.sl x k rows) (.slice (some ⟨b, off, none⟩) rows.length c), by simp, by simp, .lf _ _ _ (Fz.sl x k rows b off c vs hx hlc hS hk hc hr) (fun _ h => h)⟩
 | agg cs vs hs h ih =>
  obtain ⟨Ds, d1, d2, d3⟩ := fz_trees cs vs hs ih
  exact ⟨.agg Ds, by simp [d1], by simp [d2], Ok_agg_iff.2 (OkL_empty d3)⟩
 | tup cs vs hs h ih =>
  obtain ⟨Ds, d1, d2, d3⟩ := fz_trees cs vs hs ih
  exact ⟨.tup Ds, by simp [d1], by simp [d2], Ok_tup_iff.2 (OkL_empty d3)⟩
section
variable {H : Type} {enc : TypeId × Value → H} {P : Program}
theorem post_of_below {f : Func} {s : ChangeSpec} {apart fresh handsOn again : Bool} {W W' : World} {args : Array Value} {v : Value} {ds gs : List (DataW H)} {before pa pv : List MemPlace}
 (hW : DataW.Whole enc P f.params.toList s.vars apart W args.toList ds gs before)
 (hres : ∀ (b : Nat) (sp : Nat → Bool) (hd : Bool), DataW.TrodAll enc P W' b sp hd f.resultTypes.toList (v.resultList f.resultTypes.size) (s.fn H (ds ++ gs)).results [])
 (hargs : ∀ sp : Nat → Bool, (∀ p ∈ before, sp p.block = true) → DataW.TrodAll enc P W' 0 sp true f.params.toList args.toList (s.fn H (ds ++ gs)).args pa)
 (hvars : ∀ sp : Nat → Bool, (∀ p ∈ before, sp p.block = true) → DataW.TrodVars enc P W' sp s.vars (s.fn H (ds ++ gs)).vars pv)
 (hps : before = pa ++ pv) (hb : Below W.heap.size W W')
 (hok : ∀ (j : Nat) (t : TypeId) (r : Value), f.resultTypes[j]? = some t → (v.resultList f.resultTypes.size)[j]? = some r → Value.okWide P W' .any 0 t r) :
 s.post enc P f apart fresh handsOn again W args v W' := by
 have hlt : ∀ p ∈ before, p.block < W.heap.size := fun p hp => hW.lt p hp
 have hold : ∀ p ∈ before, (fun b => decide (b < W.heap.size)) p.block = true := fun p hp => by simpa using hlt p hp
 refine ⟨ds, gs, before, [], pa, pv, hW, hres _ _ _, hargs _ hold, hvars _ hold, World.keptBut_mono (fun p hp => ⟨hp, ?_⟩) (hb.frame (· ∈ before)), fun _ => ?_⟩
 · rw [hps, List.mem_append] at hp
   exact Or.inr hp
 · obtain ⟨_, _, _, _, _, hz, hn⟩ := hW
   refine ⟨hok, _, _, ([] ++ pa) ++ pv, ⟨[] ++ pa, pv, trodAll_append (hargs _ (fun _ _ => rfl)) (hres _ _ _), hvars _ (fun _ _ => rfl), rfl, ?_, ?_⟩, ?_⟩
   · intro b off hp
     have hin : MemPlace.cell b off ∈ before := by rw [hps]; simpa using hp
     rw [hb.frozen (hlt _ hin)]
     exact hz b off hin
   · intro ha
     have := hn ha
     rw [hps] at this
     simpa using this
   · intro p hp _
     rw [hps]
     simpa using hp
theorem trodAll_stays (hl : laidOutB P = true) {W W' : World} {sp : Nat → Bool} (ts : List TypeId) : ∀ {vs : List Value} {ds : List (DataW H)} {ps : List MemPlace}, (∀ t ∈ ts, P.readableRec t = true ∧ t < P.types.size) →
 DataW.TrodAll enc P W 0 (fun _ => true) true ts vs ds ps → (∀ p ∈ ps, W.sameAt W' p) → (∀ p ∈ ps, sp p.block = true) → DataW.TrodAll enc P W' 0 sp true ts vs ds ps := by
 induction ts with
 | nil =>
  intro vs ds ps _ hT _ _
  obtain ⟨rfl, rfl, rfl⟩ := trodAll_nil hT
  exact rfl
 | cons t ts ih =>
  intro vs ds ps hr hT h1 h2
  obtain ⟨v, vs1, d, ds1, p, q, rfl, rfl, rfl, g1, g2⟩ := trodAll_cons hT
  have ht := hr t (by simp)
  exact ⟨p, q, WideElems.Trod_stays hl ht.1 ht.2 g1 (fun x hx => h1 x (by simp [hx])) (fun x hx => h2 x (by simp [hx])), ih (fun t ht => hr t (by simp [ht])) g2 (fun x hx => h1 x (by simp [hx])) (fun x hx => h2 x (by simp [hx])), rfl⟩
theorem law_contract {fn : Func} {f : Nat} {s : ChangeSpec} {tb : TypeId} {Xs : List (List AV → Prop)} {fresh handsOn again : Bool} (hv : s.vars = []) (hrt : fn.resultTypes = #[tb]) (htb : P.underlying tb = some .bool)
 (hl : laidOutB P = true) (hrd : ∀ t ∈ fn.params.toList, P.readableRec t = true ∧ t < P.types.size) (hO : OpensA P fn.params.toList Xs) (hS : ∀ avs, ArgsX P fn.params.toList Xs avs → Says P f avs (sb true))
 (hspec : ∀ ds : List (DataW H), ds.length = fn.params.toList.length → s.fn H ds = { results := [.lit (.bool true)], args := ds })
 {W : World} {base : Nat} {args : Array Value} {ds gs : List (DataW H)} {before : List MemPlace}
 (hval : ∀ (j : Nat) t v, fn.params[j]? = some t → args[j]? = some v → Value.okWide P W .any base t v) (hW : DataW.Whole enc P fn.params.toList s.vars false W args.toList ds gs before)
 (hwt : (DataW.weightsEach P (fn.params.toList ++ s.plain.varTypes P) (ds ++ gs)).all (· ≤ reachBytes) = true)
 (hgi : GI W (Old W)) : Calls P f args W fun e W' => ∃ v, e = .returned v ∧ s.post enc P fn false fresh handsOn again W args v W' := by
 have hW' := hW
 obtain ⟨p, q, hA, hV, rfl, hfz, hnd⟩ := hW
 rw [hv] at hV
 obtain ⟨rfl, rfl⟩ := trodVars_none hV
 simp only [List.append_nil] at hW' hwt
 have hlds : ds.length = fn.params.toList.length := by
  have : ∀ (ts : List TypeId) {vs : List Value} {ds : List (DataW H)} {ps : List MemPlace}, DataW.TrodAll enc P W 0 (fun _ => true) true ts vs ds ps → ds.length = ts.length := by
   intro ts
   induction ts with
   | nil => intro vs ds ps h; obtain ⟨rfl, rfl, rfl⟩ := trodAll_nil h; rfl
   | cons t ts ih => intro vs ds ps h; obtain ⟨v, vs1, d, ds1, p, q, rfl, rfl, rfl, g1, g2⟩ := trodAll_cons h; simp [ih g2]
  exact this _ hA
 have hwts : ∀ n ∈ DataW.weightsEach P fn.params.toList ds, n ≤ reachBytes := by
  have key : ∀ (ts us : List TypeId) (ds : List (DataW H)), ds.length = ts.length → DataW.weightsEach P (ts ++ us) ds = DataW.weightsEach P ts ds := by
   intro ts
   induction ts with
   | nil =>
    intro us ds h
    obtain rfl : ds = [] := List.eq_nil_of_length_eq_zero h
    cases us <;> rfl
   | cons t ts ih =>
    intro us ds h
    cases ds with
    | nil => simp at h
    | cons d ds => simp only [List.cons_append, DataW.weightsEach]; rw [ih us ds (by simpa using h)]
  rw [key _ _ _ hlds] at hwt
  simpa using hwt
 obtain ⟨avs, hX, hlen, hfzv⟩ := args_open (base := base) fn.params.toList Xs args.toList ds p hO hA (fun j t v h1 h2 => hval j t v (by simpa using h1) (by simpa using h2)) hwts
 -- the call
 have hds : ∃ Ds : List DV, Ds.map DV.er = avs ∧ Ds.map DV.ann = args.toList ∧ OkL W (Old W) Ds (fun _ => False) := by
  obtain ⟨Ds, d1, d2, d3⟩ := fz_trees (w := W) (S := Old W) avs args.toList hlen.symm (fun i a v h1 h2 => fz_tree (hfzv i a v h1 h2))
  exact ⟨Ds, d1, d2, OkL_empty d3⟩
 obtain ⟨Ds, d1, d2, d3⟩ := hds
 have hcalls := hS avs hX W (Old W) Ds (fun _ => False) hgi d1 (Ok_tup_iff.2 d3) (fun b hb => hb)
 rw [d2] at hcalls
 have harr : args.toList.toArray = args := by simp
 rw [harr] at hcalls
 refine hcalls.mono ?_
 rintro e W' ⟨r, os, S', F', rfl, hre, _, _, hok, hext, _⟩
 obtain ⟨Fa, Fb, hra, _⟩ := Ok_tup_iff.1 hok
 have hrv : r.ann = .bool true := by
  cases hra with
  | lf a v _ ha hF => rw [er_lf] at hre; subst hre; simpa using ha.1
  | nil => simp at hre
  | own => simp at hre
  | agg => simp at hre
  | tup => simp at hre
 have hb : Below W.heap.size W W' := ⟨hext.os, hext.tape, hext.output, hext.size, fun k hk => hext.block k hk id⟩
 rw [hrv]
 refine ⟨_, rfl, post_of_below (pa := p) (pv := []) hW' ?_ ?_ ?_ (by simp) hb ?_⟩
 · intro b sp hd
   rw [List.append_nil, hspec ds hlds, hrt]
   exact trodAll_cons_mk (shut_bool htb _) trodAll_mk0
 · intro sp hsp
   rw [List.append_nil, hspec ds hlds]
   exact trodAll_stays hl _ hrd hA (fun x hx => hb.same (hW'.lt x hx)) (fun x hx => hsp x hx)
 · intro sp hsp
   rw [List.append_nil, hspec ds hlds, hv]
   exact rfl
 · exact ok_one hrt rfl (okWide_bool_mk htb _)
end
end Go.Abs
