/- The state at the beginning, and which events are enabled: both sides. -/
import Derived.Test.YteobdlimfbjjnaaDoorP3
import Derived.Test.YteobdlimfbjjnaaDoorTF3
import Derived.Test.YteobdlimfbjjnaaDoorTF12
import Derived.Test.YteobdlimfbjjnaaDoorTF13
namespace Go.Abs
instance : Inhabited SCond := ⟨⟨⟨#[]⟩, 0⟩⟩
instance : Inhabited SCell := ⟨⟨⟨#[]⟩, 0, 0, false, 0⟩⟩
instance : Inhabited SSite := ⟨⟨0, 0, 0⟩⟩
instance : Inhabited SLockState := ⟨⟨0, []⟩⟩
instance : Inhabited SThreadSync := ⟨⟨0, 0, false⟩⟩
def startS (wv : SWorld) : SSync := ⟨List.replicate wv.Locks.length ⟨-1, []⟩, -1, List.replicate wv.Futures.length false, (List.replicate wv.Threads.length ⟨0, 0, false⟩).set 0 ⟨1, 0, false⟩⟩
theorem start_L1 (wv : SWorld) (hw : Small wv) (D : List Bool) (T : List SThreadSync) (tx : Int) : ∀ (n i : Nat), i ≤ wv.Locks.length → wv.Locks.length < n + i →
 o_St_L1r wv n ⟨List.replicate i ⟨-1, []⟩ ++ List.replicate (wv.Locks.length - i) ⟨0, []⟩, tx, D, T⟩ (i : Int) = o_St_J1 ⟨List.replicate wv.Locks.length ⟨-1, []⟩, tx, D, T⟩
 | 0, i, h1, h2 => by omega
 | n + 1, i, h1, h2 => by
  have := hw.l
  unfold o_St_L1r o_St_L1
  by_cases hi : i < wv.Locks.length
  · rw [ite_d (by simp; omega)]
    have e : List.replicate (wv.Locks.length - i) (SLockState.mk 0 []) = SLockState.mk 0 [] :: List.replicate (wv.Locks.length - (i + 1)) (SLockState.mk 0 []) := by
     rw [show wv.Locks.length - i = (wv.Locks.length - (i + 1)) + 1 from by omega, List.replicate_succ]
    have hx : gt (List.replicate i (SLockState.mk (-1) []) ++ List.replicate (wv.Locks.length - i) (SLockState.mk 0 [])) (i : Int) = some ⟨0, []⟩ := by
     rw [gt_nat, e, List.getElem?_append_right (by simp)]; simp
    have hset : (List.replicate i (SLockState.mk (-1) []) ++ List.replicate (wv.Locks.length - i) (SLockState.mk 0 [])).set i (SLockState.mk (-1) []) = List.replicate (i + 1) (SLockState.mk (-1) []) ++ List.replicate (wv.Locks.length - (i + 1)) (SLockState.mk 0 []) := by
     rw [e, List.set_append_right _ _ (by simp)]
     simp only [List.length_replicate, Nat.sub_self, List.set_cons_zero]
     rw [List.replicate_succ']; simp
    simp only [hx, Option.bind_some, Int.toNat_natCast, hset]
    rw [w64_succ (by omega)]
    exact start_L1 wv hw D T tx n (i + 1) (by omega) (by omega)
  · rw [ite_nd (by simp; omega)]
    have : i = wv.Locks.length := by omega
    subst this; simp
theorem object_Start_eq (wv : SWorld) (hw : Small wv) : o_St wv = some (startS wv) := by
 have h1 := hw.l; have h2 := hw.f; have h3 := hw.t; have hb := big_eq
 unfold o_St
 rw [if_pos ⟨by omega, by omega, room_of (by omega)⟩, if_pos ⟨by omega, by omega, room_of (by omega)⟩, if_pos ⟨by omega, by omega, room_of (by omega)⟩]
 have := start_L1 wv hw (List.replicate wv.Futures.length false) (List.replicate wv.Threads.length (SThreadSync.mk 0 0 false)) (-1) big 0 (by omega) (by omega)
 simp only [List.replicate_zero, List.nil_append, Nat.sub_zero, Int.natCast_zero] at this
 rw [this]
 unfold o_St_J1 o_St_J2 startS
 simp only [List.length_replicate]
 by_cases h : wv.Threads.length = 0
 · simp [h]
 · have h' : 0 < wv.Threads.length := by omega
   rw [ite_d (by omega)]
   have : gt (List.replicate wv.Threads.length (SThreadSync.mk 0 0 false)) 0 = some ⟨0, 0, false⟩ := by
    show gt _ ((0 : Nat) : Int) = _
    rw [gt_nat]; simp [h']
   rw [this]; rfl
theorem rstart_L3 (wv : SWorld) (hw : Small wv) (L : List SLockState) (D : List Bool) (tx : Int) : ∀ (n i : Nat), i ≤ wv.Threads.length → wv.Threads.length < n + i →
 r08_St_L3r wv n ⟨L, tx, D, (List.replicate i ⟨0, 0, false⟩).set 0 ⟨1, 0, false⟩⟩ (i : Int) = some ⟨L, tx, D, (List.replicate wv.Threads.length ⟨0, 0, false⟩).set 0 ⟨1, 0, false⟩⟩
 | 0, i, h1, h2 => by omega
 | n + 1, i, h1, h2 => by
  have := hw.t
  unfold r08_St_L3r r08_St_L3
  by_cases hi : i < wv.Threads.length
  · unfold r08_St_J3
    rw [ite_d (by omega)]
    simp only [List.length_set, List.length_replicate]
    rw [ite_room (by omega), ite_room (by omega), w64_succ (by omega)]
    have e : ∀ x, (if ((i : Int) == 0) = true then r08_St_L3r wv n ⟨L, tx, D, (List.replicate i ⟨0, 0, false⟩).set 0 ⟨1, 0, false⟩ ++ [⟨1, 0, false⟩]⟩ x else r08_St_L3r wv n ⟨L, tx, D, (List.replicate i ⟨0, 0, false⟩).set 0 ⟨1, 0, false⟩ ++ [⟨0, 0, false⟩]⟩ x) = r08_St_L3r wv n ⟨L, tx, D, (List.replicate (i + 1) ⟨0, 0, false⟩).set 0 ⟨1, 0, false⟩⟩ x := by
     intro x
     cases i with
     | zero => rfl
     | succ i =>
      rw [if_neg (by simp; omega), List.replicate_succ' (n := i + 1), List.set_append_left _ _ (by simp)]
    rw [e]
    exact rstart_L3 wv hw L D tx n (i + 1) (by omega) (by omega)
  · rw [ite_nd (by omega)]
    have : i = wv.Threads.length := by omega
    subst this; rfl
theorem rstart_L2 (wv : SWorld) (hw : Small wv) (L : List SLockState) (tx : Int) : ∀ (n i : Nat), i ≤ wv.Futures.length → wv.Futures.length < n + i →
 r08_St_L2r wv n ⟨L, tx, List.replicate i false, []⟩ (i : Int) = some ⟨L, tx, List.replicate wv.Futures.length false, (List.replicate wv.Threads.length ⟨0, 0, false⟩).set 0 ⟨1, 0, false⟩⟩
 | 0, i, h1, h2 => by omega
 | n + 1, i, h1, h2 => by
  have := hw.f
  unfold r08_St_L2r r08_St_L2
  by_cases hi : i < wv.Futures.length
  · rw [ite_d (by omega)]
    simp only [List.length_replicate]
    rw [ite_room (by omega), w64_succ (by omega), ← List.replicate_succ']
    exact rstart_L2 wv hw L tx n (i + 1) (by omega) (by omega)
  · rw [ite_nd (by omega)]
    have : i = wv.Futures.length := by omega
    subst this
    unfold r08_St_J2
    exact rstart_L3 wv hw L _ tx big 0 (by omega) (by have := hw.t; have := big_eq; omega)
theorem rstart_L1 (wv : SWorld) (hw : Small wv) : ∀ (n i : Nat), i ≤ wv.Locks.length → wv.Locks.length < n + i →
 r08_St_L1r wv n ⟨List.replicate i ⟨-1, []⟩, -1, [], []⟩ (i : Int) = some (startS wv)
 | 0, i, h1, h2 => by omega
 | n + 1, i, h1, h2 => by
  have := hw.l
  unfold r08_St_L1r r08_St_L1
  by_cases hi : i < wv.Locks.length
  · rw [ite_d (by omega)]
    simp only [List.length_replicate]
    rw [ite_room (by omega), w64_succ (by omega), ← List.replicate_succ']
    exact rstart_L1 wv hw n (i + 1) (by omega) (by omega)
  · rw [ite_nd (by omega)]
    have : i = wv.Locks.length := by omega
    subst this
    unfold r08_St_J1
    exact rstart_L2 wv hw _ (-1) big 0 (by omega) (by have := hw.f; have := big_eq; omega)
theorem ref08_Start_eq (wv : SWorld) (hw : Small wv) : r08_St wv = some (startS wv) := rstart_L1 wv hw big 0 (by omega) (by have := hw.l; have := big_eq; omega)
def startN (wv : SWorld) : SSnapshot := ⟨startS wv, wv.Cells.map (·.Init), List.replicate wv.Futures.length 0, List.replicate wv.Threads.length 0⟩
theorem wstart_L1 (wv : SWorld) (hw : Small wv) (S : SSync) (F C : List Int) : ∀ (n i : Nat), i ≤ wv.Cells.length → wv.Cells.length < n + i →
 w_St_L1r wv n ⟨S, (wv.Cells.take i).map (·.Init), F, C⟩ (i : Int) = some ⟨S, wv.Cells.map (·.Init), F, C⟩
 | 0, i, h1, h2 => by omega
 | n + 1, i, h1, h2 => by
  have := hw.c
  unfold w_St_L1r w_St_L1
  by_cases hi : i < wv.Cells.length
  · rw [ite_d (by omega), gt_lt hi, Option.bind_some]
    simp only
    rw [ite_room (by simp; omega), w64_succ (by omega)]
    have e : (wv.Cells.take i).map (·.Init) ++ [wv.Cells[i].Init] = (wv.Cells.take (i + 1)).map (·.Init) := by rw [← List.take_append_getElem hi, List.map_append]; rfl
    rw [e]
    exact wstart_L1 wv hw S F C n (i + 1) (by omega) (by omega)
  · rw [ite_nd (by omega), List.take_of_length_le (by omega)]; rfl
theorem rwstart_L1 (wv : SWorld) (hw : Small wv) (S : SSync) (F C : List Int) : ∀ (n i : Nat), i ≤ wv.Cells.length → wv.Cells.length < n + i →
 r16_St_L1r wv n ⟨S, (wv.Cells.take i).map (·.Init), F, C⟩ (i : Int) = some ⟨S, wv.Cells.map (·.Init), F, C⟩
 | 0, i, h1, h2 => by omega
 | n + 1, i, h1, h2 => by
  have := hw.c
  unfold r16_St_L1r r16_St_L1
  by_cases hi : i < wv.Cells.length
  · rw [ite_d (by omega), gt_lt hi, Option.bind_some]
    simp only
    rw [ite_room (by simp; omega), w64_succ (by omega)]
    have e : (wv.Cells.take i).map (·.Init) ++ [wv.Cells[i].Init] = (wv.Cells.take (i + 1)).map (·.Init) := by rw [← List.take_append_getElem hi, List.map_append]; rfl
    rw [e]
    exact rwstart_L1 wv hw S F C n (i + 1) (by omega) (by omega)
  · rw [ite_nd (by omega), List.take_of_length_le (by omega)]; rfl
theorem wellformed_Start_eq (wv : SWorld) (hw : Small wv) : w_St wv = some (startN wv) := by
 have h1 := hw.c; have h2 := hw.f; have h3 := hw.t; have hb := big_eq
 unfold w_St
 rw [object_Start_eq wv hw, Option.bind_some, if_pos ⟨by omega, by omega, room_of (by omega)⟩, if_pos ⟨by omega, by omega, room_of (by omega)⟩, if_pos ⟨by omega, by omega, room_of (by omega)⟩]
 exact wstart_L1 wv hw (startS wv) _ _ big 0 (by omega) (by omega)
theorem ref16_Start_eq (wv : SWorld) (hw : Small wv) : r16_St wv = some (startN wv) := by
 have h1 := hw.c; have h2 := hw.f; have h3 := hw.t; have hb := big_eq
 unfold r16_St
 rw [ref08_Start_eq wv hw, Option.bind_some, if_pos ⟨by omega, by omega, room_of (by omega)⟩, if_pos ⟨by omega, by omega, room_of (by omega)⟩]
 exact rwstart_L1 wv hw (startS wv) _ _ big 0 (by omega) (by omega)
end Go.Abs
