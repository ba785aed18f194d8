/- What an event does to the objects: both sides (2). -/
import Derived.Test.YteobdlimfbjjnaaDoorP6
set_option linter.unusedSimpArgs false
namespace Go.Abs
set_option maxHeartbeats 4000000
structure Fine (s : SSync) : Prop where
 l : s.Locks.length ≤ 1000
 d : s.Done.length ≤ 1000
 t : s.Threads.length ≤ 1000
 r : RB 1000000 s
theorem clone_loop (s : SSync) (hs : Fine s) : ∀ (n i : Nat), i ≤ s.Locks.length → s.Locks.length < n + i →
 o_cl_L1r s n (s.Locks.take i ++ List.replicate (s.Locks.length - i) ⟨0, []⟩) (i : Int) = some s
 | 0, i, h1, h2 => by omega
 | n + 1, i, h1, h2 => by
  have := hs.l; have := hs.d; have := hs.t
  unfold o_cl_L1r o_cl_L1
  by_cases hi : i < s.Locks.length
  · have hlen : (s.Locks.take i).length = i := by simp; omega
    have e : List.replicate (s.Locks.length - i) (SLockState.mk 0 []) = SLockState.mk 0 [] :: List.replicate (s.Locks.length - (i + 1)) (SLockState.mk 0 []) := by
     rw [show s.Locks.length - i = (s.Locks.length - (i + 1)) + 1 from by omega, List.replicate_succ]
    have hx : gt (s.Locks.take i ++ List.replicate (s.Locks.length - i) (SLockState.mk 0 [])) (i : Int) = some ⟨0, []⟩ := by
     rw [gt_nat, e, List.getElem?_append_right (by omega), hlen]; simp
    have hset : (s.Locks.take i ++ List.replicate (s.Locks.length - i) (SLockState.mk 0 [])).set i s.Locks[i] = s.Locks.take (i + 1) ++ List.replicate (s.Locks.length - (i + 1)) (SLockState.mk 0 []) := by
     rw [e, List.set_append_right _ _ (by omega), hlen, Nat.sub_self, List.set_cons_zero, ← List.take_append_getElem hi, List.append_assoc]; rfl
    have hr := hs.r _ (List.getElem_mem hi)
    unfold s_Clin
    rw [ite_d (by omega), gt_lt hi, Option.bind_some, ite_room (by omega), Option.bind_some, hx, Option.bind_some, w64_succ (by omega), Int.toNat_natCast]
    show o_cl_L1r s n ((s.Locks.take i ++ List.replicate (s.Locks.length - i) (SLockState.mk 0 [])).set i s.Locks[i]) _ = _
    rw [hset]
    exact clone_loop s hs n (i + 1) (by omega) (by omega)
  · rw [ite_nd (by omega), List.take_of_length_le (by omega), show s.Locks.length - i = 0 from by omega]
    unfold o_cl_J1 s_Clbo s_ClapT
    rw [ite_room (by omega), Option.bind_some, ite_room (by omega), Option.bind_some]
    simp
theorem clone_eq (s : SSync) (hs : Fine s) : o_cl s = some s := by
 have := hs.l
 unfold o_cl
 rw [if_pos ⟨by omega, by omega, room_of (by omega)⟩]
 have h := clone_loop s hs big 0 (by omega) (by have := big_eq; omega)
 rw [List.take_zero, List.nil_append] at h
 exact h
theorem Copy_loop (s : SSync) (hs : Fine s) (tx : Int) (D : List Bool) (T : List SThreadSync) : ∀ (n i : Nat), i ≤ s.Locks.length → s.Locks.length < n + i →
 r08_Co_L1r s n ⟨s.Locks.take i, tx, D, T⟩ (i : Int) = some ⟨s.Locks, tx, D, T⟩
 | 0, i, h1, h2 => by omega
 | n + 1, i, h1, h2 => by
  have := hs.l
  unfold r08_Co_L1r r08_Co_L1
  by_cases hi : i < s.Locks.length
  · have hr := hs.r _ (List.getElem_mem hi)
    rw [ite_d (by omega), gt_lt hi, Option.bind_some, ite_room (by omega), ite_room (by simp; omega), w64_succ (by omega)]
    simp only [List.take_append_getElem hi]
    exact Copy_loop s hs tx D T n (i + 1) (by omega) (by omega)
  · rw [ite_nd (by omega), List.take_of_length_le (by omega)]; rfl
theorem Copy_eq (s : SSync) (hs : Fine s) : r08_Co s = some s := by
 have := hs.l; have := hs.d; have := hs.t
 unfold r08_Co
 rw [ite_room (by omega), ite_room (by omega)]
 exact Copy_loop s hs s.Tx s.Done s.Threads big 0 (by omega) (by have := big_eq; omega)
def setT (s : SSync) (i : Int) (f : SThreadSync → SThreadSync) : SSync := ⟨s.Locks, s.Tx, s.Done, s.Threads.set i.toNat (f (ix s.Threads i))⟩
def setL (s : SSync) (i : Int) (f : SLockState → SLockState) : SSync := ⟨s.Locks.set i.toNat (f (ix s.Locks i)), s.Tx, s.Done, s.Threads⟩
def applyS (wv : SWorld) (s : SSync) (t k o wake : Int) : SSync × Int :=
 if k = 1 then (setT s t fun x => ⟨2, x.Cond, x.Atomic⟩, 0)
 else if k = 2 then (setT s t fun x => ⟨5, x.Cond, x.Atomic⟩, 0)
 else if k = 6 ∨ k = 10 then (setL s o fun x => ⟨t, x.Readers⟩, 0)
 else if k = 7 ∨ k = 11 then (setL s o fun x => ⟨-1, x.Readers⟩, 0)
 else if k = 8 then (setL s o fun x => ⟨x.Owner, setOf (x.Readers ++ [t])⟩, 0)
 else if k = 9 then (setL s o fun x => ⟨x.Owner, x.Readers.filter fun y => !(y == t)⟩, 0)
 else if k = 12 then (⟨s.Locks, t, s.Done, s.Threads⟩, 0)
 else if k = 13 then (⟨s.Locks, -1, s.Done, s.Threads⟩, 0)
 else if k = 14 then (setT s t fun x => ⟨x.Status, x.Cond, true⟩, 0)
 else if k = 15 then (setT s t fun x => ⟨x.Status, x.Cond, false⟩, 0)
 else if k = 16 then (setT (setL s (ix wv.Conds o).Mutex fun x => ⟨-1, x.Readers⟩) t fun x => ⟨3, o, x.Atomic⟩, 0)
 else if k = 17 then (setT (setL s (ix wv.Conds o).Mutex fun x => ⟨t, x.Readers⟩) t fun x => ⟨2, 0, x.Atomic⟩, 0)
 else if k = 18 then (if waitL o 0 s.Threads = [] then s else setT s (chosenS wake (waitL o 0 s.Threads)) wokenF, chosenS wake (waitL o 0 s.Threads))
 else if k = 19 then (⟨s.Locks, s.Tx, s.Done, s.Threads.map (wakeF o)⟩, ((waitL o 0 s.Threads).length : Int))
 else if k = 20 then (setT s o fun x => ⟨1, x.Cond, x.Atomic⟩, 0)
 else if k = 22 then (⟨s.Locks, s.Tx, s.Done.set o.toNat true, s.Threads⟩, 0)
 else (s, 0)
def emptyS : SSync := ⟨[], 0, [], []⟩
def applyR (wv : SWorld) (s : SSync) (t k o wake : Int) : SSync × Int × Bool := if enabledS wv s t k o = true then ((applyS wv s t k o wake).1, (applyS wv s t k o wake).2, true) else (emptyS, 0, false)
theorem set_set_ix {l : List SThreadSync} {t : Int} (ht : inB t l.length = true) (a : SThreadSync) : gt (l.set t.toNat a) t = some a := by
 obtain ⟨h0, h1⟩ := inB_iff.1 ht
 have : t.toNat < l.length := by omega
 unfold gt
 rw [if_pos h0, List.getElem?_set_self this]
theorem Fine.of {wv : SWorld} (hw : Small wv) {s : SSync} (hf : fitsS wv s = true) (hr : RB 1000000 s) : Fine s := by
 obtain ⟨l1, l2, l3⟩ := fitsS_len hf
 have := hw.l; have := hw.f; have := hw.t
 exact ⟨by omega, by omega, by omega, hr⟩
theorem RB.mono {N M : Nat} {s : SSync} (h : RB N s) (hM : N ≤ M) : RB M s := fun x hx => Nat.le_trans (h x hx) hM
theorem Sort_eq (l : List Int) (hl : l.length ≤ 1000000000) : slices_Sort l = some (msort l) := by
 unfold slices_Sort; rw [if_pos (by omega)]; rfl
theorem Compact_eq (l : List Int) (hl : l.length ≤ 1000000000) : slices_Compact l = some (Lib.compact l) := by
 unfold slices_Compact; rw [if_pos (by omega)]
theorem object_Apply_eq (wv : SWorld) (hw : Small wv) (s : SSync) (hr : RB 1000000 s) (t o wake : Int) : ∀ k, o_Ap wv s t k o wake = some (applyR wv s t k o wake) := by
  intro k
  unfold o_Ap applyR
  rw [object_Enabled_eq wv hw s (hr.mono (by omega)), Option.bind_some]
  cases he : enabledS wv s t k o with
  | false => rfl
  | true =>
    have he' := he
    unfold enabledS at he'
    simp only [Bool.and_eq_true] at he'
    obtain ⟨hf, ht, ha, hrd⟩ := he'
    obtain ⟨l1, l2, l3⟩ := fitsS_len hf
    have hfi := Fine.of hw hf hr
    have ht' : inB t s.Threads.length = true := by rw [l3]; exact ht
    have gT : gt s.Threads t = some (ix s.Threads t) := gt_ix ht'
    have gTT := set_set_ix ht'
    have hix := hr.ix o
    have hsl : (msort ((ix s.Locks o).Readers ++ [t])).length ≤ 1000000000 := by rw [msort_length]; simp; omega
    have hN := notify_eq s.Tx s.Threads o wake hfi.t
    have hA := notifyAll_eq s.Tx s.Threads o hfi.t
    rw [clone_eq s hfi, Option.bind_some, if_neg (by simp)]
    clear he
    revert ha hrd
    revert k
    refine kinds ?_ ?_ ?_ ?_ ?_ ?_ ?_ ?_ ?_ ?_ ?_ ?_ ?_ ?_ ?_ ?_ ?_ ?_ ?_ ?_ ?_ ?_ ?_ (fun k e1 e2 e3 e4 e5 e6 e7 e8 e9 e10 e11 e12 e13 e14 e15 e16 e17 e18 e19 e20 e21 e22 e23 => ?_)
    all_goals
      intro ha hrd
      unfold applyS
      simp (decide := true) only [allowedS, or_false, or_true, true_or, false_or, if_true, if_false, Bool.and_eq_true] at ha
      simp (decide := true) only [o_Ap_J1, o_Ap_J2, o_Ap_J3, beq_self_eq_true, beq_iff_eq, if_true, if_false, or_false, or_true, true_or, false_or, Bool.false_eq_true]
    all_goals first
      | done
      | (rw [gT, Option.bind_some]; rfl)
      | (rw [gt_ix (l := s.Locks) (by rw [l1]; exact ha.1), Option.bind_some]; rfl)
      | (rw [gt_ix (l := s.Locks) (by rw [l1]; exact ha.1), Option.bind_some, ite_room (by omega), Sort_eq _ (by simp; omega), Option.bind_some, Compact_eq _ hsl, Option.bind_some]; rfl)
      | (rw [gt_ix (l := s.Locks) (by rw [l1]; exact ha.1), Option.bind_some]
         unfold slices_DeleteFunc_eq
         have hne : (ix s.Locks o).Readers ≠ [] := by
           intro h
           simp (decide := true) only [readyS, if_true, if_false, or_false, or_true, true_or, false_or, h, List.contains_nil, Bool.and_false, Bool.false_eq_true] at hrd
         rw [if_pos ⟨hne, by omega⟩, Option.bind_some]; rfl)
      | (rw [gt_ix (l := wv.Conds) ha, Option.bind_some, gt_ix (l := s.Locks) (by rw [l1]; exact fitsS_mutex hf ha), Option.bind_some, gT, Option.bind_some, gTT, Option.bind_some]; simp only [List.set_set]; rfl)
      | (rw [hN, Option.bind_some]; simp only; by_cases hW : waitL o 0 s.Threads = [] <;> simp only [hW, if_true, if_false] <;> rfl)
      | (rw [hA, Option.bind_some]; done)
      | (rw [gt_ix (l := s.Threads) (by rw [l3]; exact ha), Option.bind_some]; rfl)
      | (rw [gt_ix (l := s.Done) (by rw [l2]; exact ha), Option.bind_some]; done)
      | rfl
      | (exfalso; revert ha; simp only [e1, e2, e3, e4, e5, e6, e7, e8, e9, e10, e11, e12, e13, e14, e15, e16, e17, e18, e19, e20, e21, e22, e23, if_false, or_self, Bool.false_eq_true, imp_self]; done)
      | skip
theorem setAll (o : Int) (suf : List SThreadSync) : ∀ (pre : List SThreadSync), (waitL o pre.length suf).foldl (fun T (u : Int) => T.set u.toNat (wokenF (ix T u))) (pre ++ suf) = pre ++ suf.map (wakeF o) := by
 induction suf with
 | nil => intro pre; simp [waitL]
 | cons x r ih =>
  intro pre
  unfold waitL
  have hix : ix (pre ++ x :: r) ((pre.length : Nat) : Int) = x := by
   unfold ix; rw [Int.toNat_natCast, List.getElem?_append_right (Nat.le_refl _)]; simp
  have ihp := fun y => ih (pre ++ [y])
  simp only [List.length_append, List.length_cons, List.length_nil, Nat.zero_add, List.append_assoc, List.singleton_append] at ihp
  cases hw : waitsS x o with
  | true =>
   rw [if_pos rfl, List.foldl_cons, hix, Int.toNat_natCast, List.set_append_right _ _ (Nat.le_refl _), Nat.sub_self, List.set_cons_zero, ihp]
   simp [wakeF, hw]
  | false =>
   rw [if_neg (by simp), ihp]
   simp [wakeF, hw]
theorem rApply_loop (W : List Int) (hl : W.length ≤ 1000000) : ∀ (n i : Nat) (s : SSync), i ≤ W.length → W.length < n + i → (∀ u ∈ W, inB u s.Threads.length = true) →
 r08_Ap_L1r W n s (i : Int) = some (⟨s.Locks, s.Tx, s.Done, (W.drop i).foldl (fun T (u : Int) => T.set u.toNat (wokenF (ix T u))) s.Threads⟩, (W.length : Int), true)
 | 0, i, s, h1, h2, _ => by omega
 | n + 1, i, s, h1, h2, h3 => by
  unfold r08_Ap_L1r r08_Ap_L1
  by_cases hi : i < W.length
  · rw [ite_d (by omega), gt_lt hi, Option.bind_some, gt_ix (h3 _ (List.getElem_mem hi)), Option.bind_some, w64_succ (by omega), rApply_loop W hl n (i + 1) _ (by omega) (by omega) (by simpa using h3), dropc hi, List.foldl_cons]
    rfl
  · rw [ite_nd (by omega), dropn hi]; rfl
theorem ref08_Apply_eq (wv : SWorld) (hw : Small wv) (s : SSync) (hr : RB 1000000 s) (t o wake : Int) : ∀ k, r08_Ap wv s t k o wake = some (applyR wv s t k o wake) := by
 intro k
 unfold r08_Ap applyR
 rw [ref08_Enabled_eq wv hw s (hr.mono (by omega)), Option.bind_some]
 cases he : enabledS wv s t k o with
 | false => rfl
 | true =>
  have he' := he
  unfold enabledS at he'
  simp only [Bool.and_eq_true] at he'
  obtain ⟨hf, ht, ha, hrd⟩ := he'
  obtain ⟨l1, l2, l3⟩ := fitsS_len hf
  have hfi := Fine.of hw hf hr
  have ht' : inB t s.Threads.length = true := by rw [l3]; exact ht
  have gT : gt s.Threads t = some (ix s.Threads t) := gt_ix ht'
  have gTT := set_set_ix ht'
  have hix := hr.ix o
  have hW := Waiting_eq s o hfi.t
  have hWl := waitL_length o s.Threads 0
  have hWt := hfi.t
  rw [Copy_eq s hfi, Option.bind_some, if_neg (by simp)]
  clear he
  revert ha hrd
  revert k
  refine kinds ?_ ?_ ?_ ?_ ?_ ?_ ?_ ?_ ?_ ?_ ?_ ?_ ?_ ?_ ?_ ?_ ?_ ?_ ?_ ?_ ?_ ?_ ?_ (fun k e1 e2 e3 e4 e5 e6 e7 e8 e9 e10 e11 e12 e13 e14 e15 e16 e17 e18 e19 e20 e21 e22 e23 => ?_)
  all_goals
   intro ha hrd
   unfold applyS
   simp (decide := true) only [allowedS, or_false, or_true, true_or, false_or, if_true, if_false, Bool.and_eq_true] at ha
   simp (decide := true) only [r08_Ap_J1, r08_Ap_J2, r08_Ap_J5, beq_self_eq_true, beq_iff_eq, if_true, if_false, or_false, or_true, true_or, false_or, Bool.false_eq_true]
  all_goals first
   | done
   | (rw [gT, Option.bind_some]; rfl)
   | (rw [gt_ix (l := s.Locks) (by rw [l1]; exact ha.1), Option.bind_some]; rfl)
   | (rw [gt_ix (l := s.Locks) (by rw [l1]; exact ha.1), Option.bind_some, Union_eq _ _ (by simp; omega), Option.bind_some]; rfl)
   | (rw [gt_ix (l := s.Locks) (by rw [l1]; exact ha.1), Option.bind_some, without_eq _ _ (by omega), Option.bind_some]; rfl)
   | (rw [gt_ix (l := wv.Conds) ha, Option.bind_some, gt_ix (l := s.Locks) (by rw [l1]; exact fitsS_mutex hf ha), Option.bind_some, gT, Option.bind_some, gTT, Option.bind_some]; simp only [List.set_set]; rfl)
   | (rw [gt_ix (l := s.Threads) (by rw [l3]; exact ha), Option.bind_some]; rfl)
   | (rw [gt_ix (l := s.Done) (by rw [l2]; exact ha), Option.bind_some]; done)
   | rfl
   | (exfalso; revert ha; simp only [e1, e2, e3, e4, e5, e6, e7, e8, e9, e10, e11, e12, e13, e14, e15, e16, e17, e18, e19, e20, e21, e22, e23, if_false, or_self, Bool.false_eq_true, imp_self]; done)
   | skip
  · -- a notification
    rw [hW, Option.bind_some]
    cases hWW : waitL o 0 s.Threads with
    | nil => rfl
    | cons w r =>
     have hlen : (w :: r).length ≤ 1000 := by rw [← hWW]; omega
     have hm : ∀ u, u ∈ w :: r → inB u s.Threads.length = true := fun u hu => by
      have := mem_waitL o s.Threads 0 u (by rw [hWW]; exact hu)
      exact inB_iff.2 (by simpa using this)
     have h0 : gt (w :: r) 0 = some w := rfl
     rw [ite_d (by simp only [List.length_cons]; omega), h0, Option.bind_some, Has_eq _ _ (by omega), Option.bind_some]
     unfold r08_Ap_J3 r08_Ap_J5 chosenS
     rw [if_neg (c := w :: r = []) (by simp), if_neg (c := w :: r = []) (by simp)]
     cases hc : (w :: r).contains wake with
     | true =>
      rw [if_pos rfl, gt_ix (hm wake (by simpa using hc)), Option.bind_some]; rfl
     | false =>
      rw [if_neg (by simp), gt_ix (hm w (List.mem_cons_self ..)), Option.bind_some]; rfl
  · -- of all
    have hm : ∀ u, u ∈ waitL o 0 s.Threads → inB u s.Threads.length = true := fun u hu => by
     have := mem_waitL o s.Threads 0 u hu
     exact inB_iff.2 (by simpa using this)
    have h1 := rApply_loop (waitL o 0 s.Threads) (by omega) big 0 s (by omega) (by have := big_eq; omega) hm
    have h2 := setAll o s.Threads []
    simp only [List.length_nil, List.nil_append] at h2
    rw [List.drop_zero, h2] at h1
    rw [hW, Option.bind_some]
    exact h1
end Go.Abs
