/- Which events are enabled: both sides. -/
import Derived.Test.YteobdlimfbjjnaaDoorP4
import Derived.Test.YteobdlimfbjjnaaDoorTF4
set_option linter.unusedSimpArgs false
namespace Go.Abs
set_option maxHeartbeats 4000000
theorem object_within_eq (i : Int) (n : Nat) : o_wi i (n : Int) = some (inB i n) := within_eq i n
theorem ref08_in_eq (i : Int) (n : Nat) : r08_in i (n : Int) = some (inB i n) := within_eq i n
theorem ref16_in_eq (i : Int) (n : Nat) : r16_in i (n : Int) = some (inB i n) := within_eq i n
def fitsS (wv : SWorld) (s : SSync) : Bool := wv.Conds.all (fun c => inB c.Mutex wv.Locks.length) && (s.Locks.length == wv.Locks.length && (s.Done.length == wv.Futures.length && s.Threads.length == wv.Threads.length))
theorem natBeq (a b : Nat) : ((a : Int) == (b : Int)) = (a == b) := by rw [Bool.eq_iff_iff, beq_iff_eq, beq_iff_eq]; omega
theorem natBne (a b : Nat) : ((a : Int) != (b : Int)) = !(a == b) := by rw [← natBeq]; rfl
theorem object_Fits_loop (wv : SWorld) (hw : Small wv) : ∀ (n i : Nat), i ≤ wv.Conds.length → wv.Conds.length < n + i → o_Fi_L1r wv n (i : Int) = some ((wv.Conds.drop i).all fun c => inB c.Mutex wv.Locks.length)
 | 0, i, h1, h2 => by omega
 | n + 1, i, h1, h2 => by
  have := hw.d
  unfold o_Fi_L1r o_Fi_L1
  by_cases hi : i < wv.Conds.length
  · rw [ite_d (by omega), gt_lt hi, Option.bind_some, dropc hi, w64_succ (by omega), object_Fits_loop wv hw n (i + 1) (by omega) (by omega), List.all_cons, object_within_eq, Option.bind_some]
    cases inB wv.Conds[i].Mutex wv.Locks.length <;> simp
  · rw [ite_nd (by omega), dropn hi]; rfl
theorem object_Fits_eq (wv : SWorld) (hw : Small wv) (s : SSync) : o_Fi wv s = some (fitsS wv s) := by
 have hl := object_Fits_loop wv hw big 0 (by omega) (by have := hw.d; have := big_eq; omega)
 rw [List.drop_zero] at hl
 unfold o_Fi o_Fi_J1 fitsS
 rw [natBne, natBne, natBne, show (0 : Int) = ((0 : Nat) : Int) from rfl, hl]
 cases (s.Locks.length == wv.Locks.length) <;> cases (s.Done.length == wv.Futures.length) <;> cases (s.Threads.length == wv.Threads.length) <;> simp
theorem ref08_Fits_loop (wv : SWorld) (hw : Small wv) (s : SSync) : ∀ (n i : Nat), i ≤ wv.Conds.length → wv.Conds.length < n + i → r08_Fi_L1r s wv n (i : Int) = some (((wv.Conds.drop i).all fun c => inB c.Mutex wv.Locks.length) && (s.Locks.length == wv.Locks.length && (s.Done.length == wv.Futures.length && s.Threads.length == wv.Threads.length)))
 | 0, i, h1, h2 => by omega
 | n + 1, i, h1, h2 => by
  have := hw.d
  unfold r08_Fi_L1r r08_Fi_L1
  by_cases hi : i < wv.Conds.length
  · unfold r08_Fi_J1
    rw [ite_d (by omega), gt_lt hi, Option.bind_some, dropc hi, w64_succ (by omega), ref08_Fits_loop wv hw s n (i + 1) (by omega) (by omega), List.all_cons]
    generalize wv.Conds[i] = c
    by_cases a1 : c.Mutex < 0
    · have : inB c.Mutex wv.Locks.length = false := by simp [inB]; omega
      simp [a1, this]
    · by_cases a2 : c.Mutex ≥ (wv.Locks.length : Int)
      · have : inB c.Mutex wv.Locks.length = false := by simp [inB]; omega
        simp [a1, a2, this]
      · have h : inB c.Mutex wv.Locks.length = true := by simp [inB]; omega
        rw [ite_nd a1, if_neg (by simpa using a2), h, Bool.true_and]
  · rw [ite_nd (by omega), dropn hi]
    unfold r08_Fi_J2 r08_Fi_J3
    rw [natBeq, natBeq, natBeq]
    cases (s.Locks.length == wv.Locks.length) <;> cases (s.Done.length == wv.Futures.length) <;> simp
theorem ref08_Fits_eq (wv : SWorld) (hw : Small wv) (s : SSync) : r08_Fi wv s = some (fitsS wv s) := by
 have hl := ref08_Fits_loop wv hw s big 0 (by omega) (by have := hw.d; have := big_eq; omega)
 rw [List.drop_zero] at hl
 exact hl
def fitsN (wv : SWorld) (s : SSnapshot) : Bool := fitsS wv s.Sync && (s.Cells.length == wv.Cells.length && (s.Futures.length == wv.Futures.length && s.Count.length == wv.Threads.length))
theorem wellformed_fits_eq (wv : SWorld) (hw : Small wv) (s : SSnapshot) : w_fi wv s = some (fitsN wv s) := by
 unfold w_fi w_fi_J1 fitsN
 rw [object_Fits_eq wv hw, Option.bind_some, natBeq, natBeq, natBeq]
 cases fitsS wv s.Sync <;> cases (s.Cells.length == wv.Cells.length) <;> cases (s.Futures.length == wv.Futures.length) <;> simp
theorem ref16_Fits_eq (wv : SWorld) (hw : Small wv) (s : SSnapshot) : r16_Fi wv s = some (fitsN wv s) := by
 unfold r16_Fi r16_Fi_J1 fitsN
 rw [ref08_Fits_eq wv hw, Option.bind_some, natBeq, natBeq, natBeq]
 cases fitsS wv s.Sync <;> cases (s.Cells.length == wv.Cells.length) <;> cases (s.Futures.length == wv.Futures.length) <;> simp
def allowedS (wv : SWorld) (k o : Int) : Bool :=
 if k = 1 ∨ k = 2 ∨ k = 5 ∨ k = 12 ∨ k = 13 ∨ k = 14 ∨ k = 15 then o == -1
 else if k = 3 ∨ k = 4 then inB o wv.Cells.length
 else if k = 6 ∨ k = 7 then inB o wv.Locks.length && !(ix wv.Locks o).RW
 else if k = 8 ∨ k = 9 ∨ k = 10 ∨ k = 11 then inB o wv.Locks.length && (ix wv.Locks o).RW
 else if k = 16 ∨ k = 17 ∨ k = 18 ∨ k = 19 then inB o wv.Conds.length
 else if k = 20 ∨ k = 21 then inB o wv.Threads.length
 else if k = 22 ∨ k = 23 then inB o wv.Futures.length
 else false
theorem lockRW {α : Type} (l : List SLock) (o : Int) (f g : Bool → Option α) (y : Option α) (hf : ∀ b, f b = g b) (hn : y = g false) (b' : SLock → Bool) : (if inB o l.length = true then (gt l o).bind fun x => f (b' x) else y) = g (inB o l.length && b' (ix l o)) := by
 cases h : inB o l.length with
 | false => simp [hn]
 | true => rw [if_pos rfl, gt_ix h, Option.bind_some, hf]; simp
theorem object_allowed_eq (wv : SWorld) (o : Int) : ∀ k, o_al wv k o = some (allowedS wv k o) := by
 refine kinds ?_ ?_ ?_ ?_ ?_ ?_ ?_ ?_ ?_ ?_ ?_ ?_ ?_ ?_ ?_ ?_ ?_ ?_ ?_ ?_ ?_ ?_ ?_ (fun k e1 e2 e3 e4 e5 e6 e7 e8 e9 e10 e11 e12 e13 e14 e15 e16 e17 e18 e19 e20 e21 e22 e23 => ?_)
 all_goals
  unfold o_al o_al_J1
  simp (decide := true) only [allowedS, o_al_J2, o_al_J3, o_al_J4, o_al_J5, o_al_J6, o_al_J7, o_al_J8, o_al_J9, object_within_eq, Option.bind_some, beq_self_eq_true, if_true, if_false, beq_iff_eq, or_false, or_true, true_or, false_or, Bool.false_eq_true]
 all_goals first
  | done
  | (simp only [e1, e2, e3, e4, e5, e6, e7, e8, e9, e10, e11, e12, e13, e14, e15, e16, e17, e18, e19, e20, e21, e22, e23, if_false, or_self]; done)
  | exact lockRW wv.Locks o some some (some false) (fun _ => rfl) rfl (fun x => !x.RW)
  | exact lockRW wv.Locks o some some (some false) (fun _ => rfl) rfl (fun x => x.RW)
theorem ref08_named_eq (wv : SWorld) (k o : Int) : r08_na wv k o = some (allowedS wv k o) := object_allowed_eq wv o k
theorem Index_loop (l : List Int) (v : Int) (hl : l.length ≤ 1000000000) : ∀ (n i : Nat), i ≤ l.length → l.length < n + i → ∃ r, s_In_L1r l v n (i : Int) = some r ∧ (0 ≤ r ↔ v ∈ l.drop i)
 | 0, i, h1, h2 => by omega
 | n + 1, i, h1, h2 => by
  unfold s_In_L1r s_In_L1
  by_cases hi : i < l.length
  · rw [ite_d (by omega), gt_lt hi, Option.bind_some, w64_succ (by omega), dropc hi]
    obtain ⟨r, hr, hr'⟩ := Index_loop l v hl n (i + 1) (by omega) (by omega)
    generalize l.drop (i + 1) = rest at hr' ⊢
    by_cases hx : v = l[i]
    · exact ⟨i, by simp [hx], by simp [hx]⟩
    · exact ⟨r, by simpa [hx] using hr, by simpa [hx] using hr'⟩
  · rw [ite_nd (by omega), dropn hi]
    exact ⟨-1, rfl, by simp⟩
theorem Contains_eq (l : List Int) (v : Int) (hl : l.length ≤ 1000000000) : s_Co l v = some (l.contains v) := by
 obtain ⟨r, h1, h2⟩ := Index_loop l v hl big 0 (by omega) (by have := big_eq; omega)
 rw [List.drop_zero] at h2
 unfold s_Co s_In
 rw [show (0 : Int) = ((0 : Nat) : Int) from rfl, h1, Option.bind_some]
 congr 1
 rw [Bool.eq_iff_iff, decide_eq_true_iff, List.contains_iff_mem]
 exact h2
theorem Has_loop (l : List Int) (v : Int) (hl : l.length ≤ 1000000000) : ∀ (n i : Nat), i ≤ l.length → l.length < n + i → r07_Ha_L1r l v n (i : Int) = some ((l.drop i).contains v)
 | 0, i, h1, h2 => by omega
 | n + 1, i, h1, h2 => by
  unfold r07_Ha_L1r r07_Ha_L1
  by_cases hi : i < l.length
  · rw [ite_d (by omega), gt_lt hi, Option.bind_some, w64_succ (by omega), dropc hi, Has_loop l v hl n (i + 1) (by omega) (by omega)]
    generalize l.drop (i + 1) = rest
    by_cases hx : l[i] = v
    · simp [hx]
    · have : ¬ v = l[i] := fun h => hx h.symm
      simp [hx, this]
  · rw [ite_nd (by omega), dropn hi]; rfl
theorem Has_eq (l : List Int) (v : Int) (hl : l.length ≤ 1000000000) : r07_Ha l v = some (l.contains v) := Has_loop l v hl big 0 (by omega) (by have := big_eq; omega)
def RB (N : Nat) (s : SSync) : Prop := ∀ x ∈ s.Locks, x.Readers.length ≤ N
theorem RB.ix {N : Nat} {s : SSync} (h : RB N s) (i : Int) : (ix s.Locks i).Readers.length ≤ N := by
 unfold Abs.ix
 cases hx : s.Locks[i.toNat]? with
 | none => exact Nat.zero_le _
 | some x => exact h x (List.mem_of_getElem? hx)
def readyS (wv : SWorld) (s : SSync) (t k o : Int) : Bool :=
 let me := ix s.Threads t
 if k = 1 then me.Status == 1
 else if k = 17 then me.Status == 4 && (me.Cond == o && (ix s.Locks (ix wv.Conds o).Mutex).Owner == -1)
 else me.Status == 2 && (
  if k = 6 then (ix s.Locks o).Owner == -1
  else if k = 10 then (ix s.Locks o).Owner == -1 && ((ix s.Locks o).Readers.length : Int) == 0
  else if k = 8 then (ix s.Locks o).Owner == -1 && !(ix s.Locks o).Readers.contains t
  else if k = 7 ∨ k = 11 then (ix s.Locks o).Owner == t
  else if k = 9 then (ix s.Locks o).Readers.contains t
  else if k = 12 then s.Tx == -1
  else if k = 13 then s.Tx == t
  else if k = 14 then !me.Atomic
  else if k = 15 then me.Atomic
  else if k = 16 ∨ k = 18 ∨ k = 19 then (ix s.Locks (ix wv.Conds o).Mutex).Owner == t
  else if k = 20 then o != t && (ix s.Threads o).Status == 0
  else if k = 21 then o != t && (ix s.Threads o).Status == 5
  else if k = 22 then !ix s.Done o
  else if k = 23 then ix s.Done o
  else true)
def enabledS (wv : SWorld) (s : SSync) (t k o : Int) : Bool := fitsS wv s && (inB t wv.Threads.length && (allowedS wv k o && readyS wv s t k o))
theorem fitsS_len {wv : SWorld} {s : SSync} (h : fitsS wv s = true) : s.Locks.length = wv.Locks.length ∧ s.Done.length = wv.Futures.length ∧ s.Threads.length = wv.Threads.length := by
 unfold fitsS at h
 simp only [Bool.and_eq_true, beq_iff_eq] at h
 exact h.2
theorem fitsS_mutex {wv : SWorld} {s : SSync} (h : fitsS wv s = true) {o : Int} (ho : inB o wv.Conds.length = true) : inB (ix wv.Conds o).Mutex wv.Locks.length = true := by
 unfold fitsS at h
 simp only [Bool.and_eq_true, List.all_eq_true] at h
 obtain ⟨h0, h1⟩ := inB_iff.1 ho
 have hl : o.toNat < wv.Conds.length := by omega
 refine h.1 _ ?_
 unfold ix
 rw [List.getElem?_eq_getElem hl]
 exact List.getElem_mem hl
theorem and3 (a b : Bool) : (if a = true then some b else some false) = some (a && b) := by cases a <;> rfl
theorem object_Enabled_eq (wv : SWorld) (hw : Small wv) (s : SSync) (hr : RB 1000000000 s) (t o : Int) : ∀ k, o_En wv s t k o = some (enabledS wv s t k o) := by
 intro k
 unfold o_En enabledS
 rw [object_Fits_eq wv hw, Option.bind_some]
 cases hf : fitsS wv s with
 | false => rfl
 | true =>
  rw [object_within_eq, Option.bind_some]
  cases ht : inB t wv.Threads.length with
  | false => rfl
  | true =>
   rw [object_allowed_eq, Option.bind_some]
   cases ha : allowedS wv k o with
   | false => rfl
   | true =>
    obtain ⟨l1, l2, l3⟩ := fitsS_len hf
    have gT : gt s.Threads t = some (ix s.Threads t) := gt_ix (by rw [l3]; exact ht)
    unfold o_En_J1
    simp only [Bool.not_true, Bool.false_eq_true, if_false, Bool.true_and]
    rw [gT, Option.bind_some]
    revert ha
    have hR := hr.ix o
    have hCo := Contains_eq (ix s.Locks o).Readers t (hr.ix o)
    revert k
    refine kinds ?_ ?_ ?_ ?_ ?_ ?_ ?_ ?_ ?_ ?_ ?_ ?_ ?_ ?_ ?_ ?_ ?_ ?_ ?_ ?_ ?_ ?_ ?_ (fun k e1 e2 e3 e4 e5 e6 e7 e8 e9 e10 e11 e12 e13 e14 e15 e16 e17 e18 e19 e20 e21 e22 e23 => ?_)
    all_goals
     intro ha
     unfold readyS
     simp (decide := true) only [allowedS, or_false, or_true, true_or, false_or, if_true, if_false, Bool.and_eq_true] at ha
     simp (decide := true) only [o_En_J2, o_En_J3, o_re, o_re_J1, o_re_J2, o_re_J3, o_re_J4, o_re_J5, o_re_J6, beq_self_eq_true, beq_iff_eq, if_true, if_false, or_false, or_true, true_or, false_or, Bool.false_eq_true]
    all_goals first
     | done
     | (rw [gt_ix (l := wv.Conds) ha, Option.bind_some, gt_ix (l := s.Locks) (by rw [l1]; exact fitsS_mutex hf ha)]; simp only [Option.bind_some]; generalize (ix s.Threads t).Status = x; generalize (ix s.Threads t).Cond = y; by_cases h1 : x = 4 <;> by_cases h2 : y = o <;> simp [h1, h2]; done)
     | (rw [gt_ix (l := wv.Conds) ha, Option.bind_some, gt_ix (l := s.Locks) (by rw [l1]; exact fitsS_mutex hf ha)]; simp only [Option.bind_some]; generalize (ix s.Threads t).Status = x; by_cases h1 : x = 2 <;> simp [h1]; done)
     | (rw [gt_ix (l := s.Locks) (by rw [l1]; exact ha.1)]; simp only [Option.bind_some, hCo]; generalize (ix s.Threads t).Status = x; by_cases h1 : x = 2 <;> by_cases h2 : (ix s.Locks o).Owner = -1 <;> simp [h1, h2]; done)
     | (rw [gt_ix (l := s.Threads) (by rw [l3]; exact ha)]; simp only [Option.bind_some]; generalize (ix s.Threads t).Status = x; by_cases h1 : x = 2 <;> by_cases h2 : o = t <;> simp [h1, h2]; done)
     | (rw [gt_ix (l := s.Done) (by rw [l2]; exact ha)]; simp only [Option.bind_some]; generalize (ix s.Threads t).Status = x; by_cases h1 : x = 2 <;> simp [h1]; done)
     | (generalize (ix s.Threads t).Status = x; by_cases h1 : x = 2 <;> simp [h1]; done)
     | (simp only [gT, Option.bind_some]; generalize (ix s.Threads t).Status = x; by_cases h1 : x = 2 <;> simp [h1]; done)
     | (exfalso; revert ha; simp only [e1, e2, e3, e4, e5, e6, e7, e8, e9, e10, e11, e12, e13, e14, e15, e16, e17, e18, e19, e20, e21, e22, e23, if_false, or_self, Bool.false_eq_true, imp_self]; done)
     | skip
theorem ref08_Enabled_eq (wv : SWorld) (hw : Small wv) (s : SSync) (hr : RB 1000000000 s) (t o : Int) : ∀ k, r08_En wv s t k o = some (enabledS wv s t k o) := by
 intro k
 unfold r08_En enabledS
 rw [ref08_Fits_eq wv hw, Option.bind_some]
 cases hf : fitsS wv s with
 | false => rfl
 | true =>
  rw [ref08_in_eq, Option.bind_some]
  cases ht : inB t wv.Threads.length with
  | false => rfl
  | true =>
   rw [ref08_named_eq, Option.bind_some]
   cases ha : allowedS wv k o with
   | false => rfl
   | true =>
    obtain ⟨l1, l2, l3⟩ := fitsS_len hf
    have gT : gt s.Threads t = some (ix s.Threads t) := gt_ix (by rw [l3]; exact ht)
    unfold r08_En_J1
    simp only [Bool.not_true, Bool.false_eq_true, if_false, Bool.true_and]
    rw [gT, Option.bind_some]
    revert ha
    have hR := hr.ix o
    have hCo := Has_eq (ix s.Locks o).Readers t (hr.ix o)
    revert k
    refine kinds ?_ ?_ ?_ ?_ ?_ ?_ ?_ ?_ ?_ ?_ ?_ ?_ ?_ ?_ ?_ ?_ ?_ ?_ ?_ ?_ ?_ ?_ ?_ (fun k e1 e2 e3 e4 e5 e6 e7 e8 e9 e10 e11 e12 e13 e14 e15 e16 e17 e18 e19 e20 e21 e22 e23 => ?_)
    all_goals
     intro ha
     unfold readyS
     simp (decide := true) only [allowedS, or_false, or_true, true_or, false_or, if_true, if_false, Bool.and_eq_true] at ha
     simp (decide := true) only [r08_En_J2, r08_En_J3, r08_En_J4, r08_En_J5, r08_En_J6, r08_En_J7, r08_En_J8, beq_self_eq_true, beq_iff_eq, if_true, if_false, or_false, or_true, true_or, false_or, Bool.false_eq_true]
    all_goals first
     | done
     | (rw [gt_ix (l := wv.Conds) ha, Option.bind_some, gt_ix (l := s.Locks) (by rw [l1]; exact fitsS_mutex hf ha)]; simp only [Option.bind_some]; generalize (ix s.Threads t).Status = x; generalize (ix s.Threads t).Cond = y; by_cases h1 : x = 4 <;> by_cases h2 : y = o <;> simp [h1, h2]; done)
     | (rw [gt_ix (l := wv.Conds) ha, Option.bind_some, gt_ix (l := s.Locks) (by rw [l1]; exact fitsS_mutex hf ha)]; simp only [Option.bind_some]; generalize (ix s.Threads t).Status = x; by_cases h1 : x = 2 <;> simp [h1]; done)
     | (rw [gt_ix (l := s.Locks) (by rw [l1]; exact ha.1)]; simp only [Option.bind_some, hCo]; generalize (ix s.Threads t).Status = x; by_cases h1 : x = 2 <;> by_cases h2 : (ix s.Locks o).Owner = -1 <;> simp [h1, h2]; done)
     | (rw [gt_ix (l := s.Threads) (by rw [l3]; exact ha)]; simp only [Option.bind_some]; generalize (ix s.Threads t).Status = x; by_cases h1 : x = 2 <;> by_cases h2 : o = t <;> simp [h1, h2]; done)
     | (rw [gt_ix (l := s.Done) (by rw [l2]; exact ha)]; simp only [Option.bind_some]; generalize (ix s.Threads t).Status = x; by_cases h1 : x = 2 <;> simp [h1]; done)
     | (generalize (ix s.Threads t).Status = x; by_cases h1 : x = 2 <;> simp [h1]; done)
     | (simp only [gT, Option.bind_some]; generalize (ix s.Threads t).Status = x; by_cases h1 : x = 2 <;> simp [h1]; done)
     | (exfalso; revert ha; simp only [e1, e2, e3, e4, e5, e6, e7, e8, e9, e10, e11, e12, e13, e14, e15, e16, e17, e18, e19, e20, e21, e22, e23, if_false, or_self, Bool.false_eq_true, imp_self]; done)
     | skip
end Go.Abs
