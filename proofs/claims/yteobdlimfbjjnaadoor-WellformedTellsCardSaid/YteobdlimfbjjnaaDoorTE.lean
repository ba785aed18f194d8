/- The library's sorting, compaction and deletion, as typed programs. -/
import Derived.Test.YteobdlimfbjjnaaDoorTB
import Derived.Test.YteobdlimfbjjnaaDoorK0
import Derived.Lib.SliceRun
namespace Go.Abs
open Go.Proofs Go.Sort Go.RowKit
theorem compact_length (l : List Int) : (Lib.compact l).length ≤ l.length := by
  unfold Lib.compact Lib.compactUpTo
  rw [List.length_map]
  exact Nat.le_trans (List.length_filter_le _ _) (by simp)
def slices_Sort (l : List Int) : Option (List Int) := if l.length < 4611686018427387904 then some (l.mergeSort fun x y => decide (x ≤ y)) else none
theorem slices_Sort_ok {l r : List Int} (h : slices_Sort l = some r) : SoundAt Tryd.prog 45 [.own false 1 (l.map eI)] (.tup []) [.own false 1 (r.map eI)] := by
  obtain ⟨g, h⟩ := chk_some h
  obtain rfl := Option.some.inj h
  exact sort_sound Tryd.slices_Sort_int Tryd.slices_Sort_int_none l g
def slices_Compact (l : List Int) : Option (List Int) := if l.length < 4611686018427387904 then some (Lib.compact l) else none
theorem slices_Compact_ok {l r : List Int} (h : slices_Compact l = some r) : Says Tryd.prog 46 [.own false 1 (l.map eI)] (.own false 1 (r.map eI)) := by
  obtain ⟨g, h⟩ := chk_some h
  obtain rfl := Option.some.inj h
  exact compact_sound Tryd.slices_Compact_int Tryd.slices_Compact_int_empty l g (compact_length l) rfl
theorem givesEq (b off : Nat) (n x : Int) (W : World) (hc : W.cell? ⟨b, off, none⟩ = some (.int .i64 n)) :
    FnGives Tryd.prog 48 #[.pointer (some ⟨b, off, none⟩)] #[.int .i64 x] (.bool (x == n)) W := by
  show Calls Tryd.prog 48 #[.int .i64 x, .pointer (some ⟨b, off, none⟩)] W _
  go_enter Tryd.func48, Tryd.ntmps48
  go_wp2
  all_goals (go_ret; exact ⟨by simp_all, 0, rfl⟩)
def slices_DeleteFunc_eq (l : List Int) (n : Int) : Option (List Int) := if l ≠ [] ∧ l.length < 4611686018427387904 then some (l.filter fun x => !(x == n)) else none
theorem slices_DeleteFunc_eq_ok {l r : List Int} {n : Int} (h : slices_DeleteFunc_eq l n = some r) : Says Tryd.prog 47 [.own false 1 (l.map eI), .fcl 48 [[si n]]] (.own false 1 (r.map eI)) := by
  obtain ⟨⟨g1, g2⟩, h⟩ := chk_some h
  obtain rfl := Option.some.inj h
  refine delete_sound (q := fun n x => x == n) ?_ givesEq l n g1 g2
  intro lb p blk off cap d w hp hpo hH hsz hcap
  exact Tryd.slices_DeleteFunc (Value.int .i64) (fun _ => rfl) p 48 lb (enters_of Tryd.func48 (by kernel_rfl) rfl) 0 (Tryd.zeroValue3) blk off cap d w hp hpo hH hsz hcap
end Go.Abs
