/- Steps: both sides. -/
import Derived.Test.YteobdlimfbjjnaaDoorP7
import Derived.Test.YteobdlimfbjjnaaDoorTF8
set_option linter.unusedSimpArgs false
namespace Go.Abs
set_option maxHeartbeats 4000000
instance : Inhabited SSync := ⟨emptyS⟩
def emptyN : SSnapshot := ⟨emptyS, [], [], []⟩
def EvOK (ev : SEvent) : Prop := ev.Deps.length < 4611686018427387904 ∧ ev.From.length < 4611686018427387904
def placedS (wv : SWorld) (ev : SEvent) : Bool := if ev.Kind = 1 ∨ ev.Kind = 2 then ev.Site == -1 else inB ev.Site wv.Sites.length && (ix wv.Sites ev.Site).Thread == ev.Thread
def numsS (c : Int) : Int → List Int → Bool
 | _, [] => true
 | last, x :: r => decide (last < x) && (decide (x < c) && numsS c x r)
def elemS (wv : SWorld) (ev : SEvent) : Bool := if ev.Kind = 3 ∨ ev.Kind = 4 then (ix wv.Cells ev.Obj).Size != 0 else false
def determinedS (wv : SWorld) (s : SSnapshot) (ev : SEvent) : Bool :=
 ((ev.Deps.isEmpty || (ev.Kind == 5 || elemS wv ev)) && numsS (ix s.Count ev.Thread) 0 ev.Deps) && ((ev.From.isEmpty || (ev.Kind == 4 || ev.Kind == 22)) && numsS (ix s.Count ev.Thread) 0 ev.From)
def valuedS (s : SSnapshot) (ev : SEvent) : Bool :=
 if ev.Kind = 3 then ev.Value == ix s.Cells ev.Obj
 else if ev.Kind = 23 then ev.Value == ix s.Futures ev.Obj
 else if ev.Kind = 5 then ev.Value == 0 || ev.Value == 1
 else if ev.Kind = 4 ∨ ev.Kind = 22 then true
 else if ev.Kind = 18 then (waitL ev.Obj 0 s.Sync.Threads).contains ev.Value || ((waitL ev.Obj 0 s.Sync.Threads).isEmpty && ev.Value == -1)
 else if ev.Kind = 19 then ev.Value == ((waitL ev.Obj 0 s.Sync.Threads).length : Int)
 else ev.Value == 0
theorem placed_eq (wv : SWorld) (ev : SEvent) : w_pl wv ev = some (placedS wv ev) := by
 unfold w_pl w_pl_J1 placedS
 by_cases h1 : ev.Kind = 1
 · simp [h1]
 · by_cases h2 : ev.Kind = 2
   · simp [h2]
   · have e1 : (ev.Kind == 1) = false := by simpa using h1
     have e2 : (ev.Kind == 2) = false := by simpa using h2
     rw [e1, e2, if_neg (c := ev.Kind = 1 ∨ ev.Kind = 2) (by simp [h1, h2])]
     simp only [Bool.false_eq_true, if_false]
     unfold w_pl_J2
     by_cases a1 : ev.Site ≥ 0
     · by_cases a2 : ev.Site < (wv.Sites.length : Int)
       · have hi : inB ev.Site wv.Sites.length = true := inB_iff.2 ⟨a1, a2⟩
         rw [ite_d a1, ite_d a2, gt_ix hi, Option.bind_some, hi]; rfl
       · have : inB ev.Site wv.Sites.length = false := by simp [inB]; omega
         rw [ite_d a1, ite_nd a2, this]; rfl
     · have : inB ev.Site wv.Sites.length = false := by simp [inB]; omega
       rw [ite_nd a1, this]; rfl
theorem dec_L2 (L1 : Int → Option Bool) (ev : SEvent) (l : List Int) (s : SSnapshot) (t : Int) (hc : gt s.Count ev.Thread = some (ix s.Count ev.Thread)) (hl : l.length < 4611686018427387904) : ∀ (n i : Nat) (last : Int), i ≤ l.length → l.length < n + i →
 w_de_L2r L1 ev l s t n last (i : Int) = if numsS (ix s.Count ev.Thread) last (l.drop i) = true then w_de_J6 L1 t else some false
 | 0, i, last, h1, h2 => by omega
 | n + 1, i, last, h1, h2 => by
  unfold w_de_L2r w_de_L2
  by_cases hi : i < l.length
  · unfold w_de_J5
    rw [ite_d (by omega), gt_lt hi, Option.bind_some, hc, dropc hi, w64_succ (by omega), dec_L2 L1 ev l s t hc hl n (i + 1) _ (by omega) (by omega)]
    generalize l[i] = x
    rw [numsS]
    by_cases a1 : x ≤ last
    · have : ¬ last < x := by omega
      simp [a1, this]
    · have b1 : last < x := by omega
      by_cases a2 : x ≥ ix s.Count ev.Thread
      · have : ¬ x < ix s.Count ev.Thread := by omega
        simp [a1, b1, a2, this]
      · have : x < ix s.Count ev.Thread := by omega
        simp [a1, b1, a2, this]
  · rw [ite_nd (by omega), dropn hi]
    simp [numsS]
theorem big_pred : big = (big - 3) + 3 := rfl
theorem det_J4 (L1 : Int → Option Bool) (ev : SEvent) (l : List Int) (s : SSnapshot) (t : Int) (hc : gt s.Count ev.Thread = some (ix s.Count ev.Thread)) (hl : l.length < 4611686018427387904) (b : Bool) :
 w_de_J4 L1 ev l s t b = if (!b && numsS (ix s.Count ev.Thread) 0 l) = true then w_de_J6 L1 t else some false := by
 unfold w_de_J4
 cases b with
 | true => simp
 | false =>
  have := dec_L2 L1 ev l s t hc hl big 0 0 (by omega) (by have := big_eq; omega)
  rw [List.drop_zero] at this
  simpa using this
theorem det_J2 (wv : SWorld) (s : SSnapshot) (ev : SEvent) (he : EvOK ev) (hc : gt s.Count ev.Thread = some (ix s.Count ev.Thread)) (a b : Bool) :
 w_de_J2 ev s a b = some (((ev.Deps.isEmpty || a) && numsS (ix s.Count ev.Thread) 0 ev.Deps) && ((ev.From.isEmpty || b) && numsS (ix s.Count ev.Thread) 0 ev.From)) := by
 unfold w_de_J2
 rw [big_pred]
 generalize big - 3 = m
 have r3 : w_de_L1r a b ev s (m + 1) 2 = some true := by
  unfold w_de_L1r w_de_L1; rfl
 have hJ3 : ∀ (L1 : Int → Option Bool) (t : Int) (l : List Int) (c : Bool), l.length < 4611686018427387904 → (t = 0 ∧ c = a ∨ t = 1 ∧ c = b) → w_de_J3 L1 a b ev s t l = if ((l.isEmpty || c) && numsS (ix s.Count ev.Thread) 0 l) = true then w_de_J6 L1 t else some false := by
  intro L1 t l c hl hx
  unfold w_de_J3
  rw [det_J4 _ _ _ _ _ hc hl, det_J4 _ _ _ _ _ hc hl, det_J4 _ _ _ _ _ hc hl]
  cases l with
  | nil => simp
  | cons x r =>
   rw [ite_d (by simp only [List.length_cons]; omega)]
   rcases hx with ⟨rfl, rfl⟩ | ⟨rfl, rfl⟩ <;> simp
 have r2 : w_de_L1r a b ev s (m + 2) 1 = some ((ev.From.isEmpty || b) && numsS (ix s.Count ev.Thread) 0 ev.From) := by
  unfold w_de_L1r w_de_L1
  rw [ite_d (by decide), if_neg (by decide), if_pos (by decide), hJ3 _ 1 ev.From b he.2 (.inr ⟨rfl, rfl⟩)]
  unfold w_de_J6
  rw [show w64 (1 + 1) = 2 from rfl, r3]
  cases ((ev.From.isEmpty || b) && numsS (ix s.Count ev.Thread) 0 ev.From) <;> rfl
 unfold w_de_L1r w_de_L1
 rw [ite_d (by decide), if_pos (by decide), hJ3 _ 0 ev.Deps a he.1 (.inl ⟨rfl, rfl⟩)]
 unfold w_de_J6
 rw [show w64 (0 + 1) = 1 from rfl, r2]
 cases ((ev.Deps.isEmpty || a) && numsS (ix s.Count ev.Thread) 0 ev.Deps) <;> simp
theorem determined_eq (wv : SWorld) (s : SSnapshot) (ev : SEvent) (he : EvOK ev) (hc : gt s.Count ev.Thread = some (ix s.Count ev.Thread)) (hcell : ev.Kind = 3 ∨ ev.Kind = 4 → inB ev.Obj wv.Cells.length = true) : w_de wv s ev = some (determinedS wv s ev) := by
 have hJ1 : ∀ e, e = elemS wv ev → w_de_J1 ev s e = some (determinedS wv s ev) := by
  intro e h
  unfold w_de_J1 determinedS
  rw [det_J2 wv s ev he hc, det_J2 wv s ev he hc, det_J2 wv s ev he hc, det_J2 wv s ev he hc, h]
  by_cases h5 : ev.Kind = 5
  · simp [h5]
  · by_cases h4 : ev.Kind = 4
    · simp [h4]
    · have e5 : (ev.Kind == 5) = false := by simpa using h5
      have e4 : (ev.Kind == 4) = false := by simpa using h4
      simp [e5, e4]
 unfold w_de
 by_cases h3 : ev.Kind = 3
 · rw [if_pos (by simp [h3]), gt_ix (hcell (.inl h3)), Option.bind_some]
   exact hJ1 _ (by simp [elemS, h3])
 · rw [if_neg (by simpa using h3)]
   by_cases h4 : ev.Kind = 4
   · rw [if_pos (by simp [h4]), gt_ix (hcell (.inr h4)), Option.bind_some]
     exact hJ1 _ (by simp [elemS, h4])
   · rw [if_neg (by simpa using h4)]
     exact hJ1 _ (by simp [elemS, h3, h4])
theorem valued_L1 (ev : SEvent) (s : SSnapshot) (hl : s.Sync.Threads.length ≤ 1000) : ∀ (n i w : Nat) (b : Bool), i ≤ s.Sync.Threads.length → s.Sync.Threads.length < n + i → w ≤ i →
 w_va_L1r ev s n (w : Int) b (i : Int) = some ((b || (waitL ev.Obj i (s.Sync.Threads.drop i)).contains ev.Value) || ((w + (waitL ev.Obj i (s.Sync.Threads.drop i)).length == 0) && ev.Value == -1))
 | 0, i, w, b, h1, h2, h3 => by omega
 | n + 1, i, w, b, h1, h2, h3 => by
  unfold w_va_L1r w_va_L1
  by_cases hi : i < s.Sync.Threads.length
  · unfold w_va_J3 w_va_J4
    rw [ite_d (by omega), gt_lt hi, Option.bind_some, dropc hi, waitL, w64_succ (i := i) (by omega), w64_succ (i := w) (by omega)]
    have ih := fun (w' : Nat) b' h => valued_L1 ev s hl n (i + 1) w' b' (by omega) (by omega) h
    rw [ih (w + 1) true (by omega), ih (w + 1) (ev.Value == (i : Int)) (by omega), ih w b (by omega)]
    unfold waitsS
    have e0 : ∀ m : Nat, (w + 1 + m == 0) = false := fun m => by simp
    have e2 : ∀ m : Nat, (w + (m + 1) == 0) = false := fun m => by simp
    have e3 : (ev.Value == (i : Int)) = decide (ev.Value = (i : Int)) := rfl
    cases (s.Sync.Threads[i].Status == 3) <;> cases (s.Sync.Threads[i].Cond == ev.Obj) <;> cases b <;> simp [e0, e2, e3]
  · rw [ite_nd (by omega), dropn hi]
    unfold w_va_J5 w_va_J6
    have : ((w : Int) == 0) = (w == 0) := by rw [Bool.eq_iff_iff, beq_iff_eq, beq_iff_eq]; omega
    rw [this]
    simp only [waitL, List.contains_nil, List.length_nil, Nat.add_zero, Bool.or_false]
    cases b <;> cases (w == 0) <;> simp
theorem valued_L2 (ev : SEvent) (s : SSnapshot) (hl : s.Sync.Threads.length ≤ 1000) : ∀ (n i w : Nat), i ≤ s.Sync.Threads.length → s.Sync.Threads.length < n + i → w ≤ i →
 w_va_L2r ev s n (w : Int) (i : Int) = some (ev.Value == ((w + (waitL ev.Obj i (s.Sync.Threads.drop i)).length : Nat) : Int))
 | 0, i, w, h1, h2, h3 => by omega
 | n + 1, i, w, h1, h2, h3 => by
  unfold w_va_L2r w_va_L2
  by_cases hi : i < s.Sync.Threads.length
  · unfold w_va_J7 w_va_J8
    rw [ite_d (by omega), gt_lt hi, Option.bind_some, dropc hi, waitL, w64_succ (i := i) (by omega), w64_succ (i := w) (by omega)]
    have ih := fun (w' : Nat) h => valued_L2 ev s hl n (i + 1) w' (by omega) (by omega) h
    rw [ih (w + 1) (by omega), ih w (by omega)]
    unfold waitsS
    have e1 : ∀ m : Nat, w + 1 + m = w + (m + 1) := fun m => by omega
    cases (s.Sync.Threads[i].Status == 3) <;> cases (s.Sync.Threads[i].Cond == ev.Obj) <;> simp [e1]
  · rw [ite_nd (by omega), dropn hi]
    simp [w_va_J9, waitL]
theorem isEmpty_len {α : Type} (l : List α) : (0 + l.length == 0) = l.isEmpty := by cases l <;> simp
theorem valued_eq (s : SSnapshot) (ev : SEvent) (hl : s.Sync.Threads.length ≤ 1000) (hcell : ev.Kind = 3 → inB ev.Obj s.Cells.length = true) (hfut : ev.Kind = 23 → inB ev.Obj s.Futures.length = true) : w_va s ev = some (valuedS s ev) := by
 have h1 := valued_L1 ev s hl big 0 0 false (by omega) (by have := big_eq; omega) (by omega)
 have h2 := valued_L2 ev s hl big 0 0 (by omega) (by have := big_eq; omega) (by omega)
 rw [List.drop_zero, isEmpty_len] at h1
 rw [List.drop_zero, Nat.zero_add] at h2
 simp only [Int.natCast_zero, Bool.false_or] at h1 h2
 unfold w_va w_va_J1 w_va_J2 w_va_J10 valuedS
 by_cases k3 : ev.Kind = 3
 · rw [if_pos (by simp [k3]), gt_ix (hcell k3), Option.bind_some, if_pos k3]
 · rw [if_neg (by simpa using k3), if_neg k3]
   by_cases k23 : ev.Kind = 23
   · rw [if_pos (by simp [k23]), gt_ix (hfut k23), Option.bind_some, if_pos k23]
   · rw [if_neg (by simpa using k23), if_neg k23]
     by_cases k5 : ev.Kind = 5
     · rw [if_pos (by simp [k5]), if_pos k5]
       cases (ev.Value == 0) <;> rfl
     · rw [if_neg (by simpa using k5), if_neg k5]
       by_cases k4 : ev.Kind = 4
       · simp [k4]
       · have e4 : (ev.Kind == 4) = false := by simpa using k4
         rw [e4, if_neg (by simp)]
         by_cases k22 : ev.Kind = 22
         · simp [k22]
         · have e22 : (ev.Kind == 22) = false := by simpa using k22
           rw [e22, if_neg (c := ev.Kind = 4 ∨ ev.Kind = 22) (by simp [k4, k22])]
           simp only [Bool.false_eq_true, if_false]
           by_cases k18 : ev.Kind = 18
           · rw [if_pos (by simp [k18]), if_pos k18]; exact h1
           · rw [if_neg (by simpa using k18), if_neg k18]
             by_cases k19 : ev.Kind = 19
             · rw [if_pos (by simp [k19]), if_pos k19]; exact h2
             · rw [if_neg (by simpa using k19), if_neg k19]
def nextS (wv : SWorld) (s : SSnapshot) (ev : SEvent) : SSnapshot :=
  ⟨(applyS wv s.Sync ev.Thread ev.Kind ev.Obj (if ev.Kind = 18 then ev.Value else -1)).1,
   if ev.Kind = 4 then s.Cells.set ev.Obj.toNat ev.Value else s.Cells,
   if ev.Kind = 22 then s.Futures.set ev.Obj.toNat ev.Value else s.Futures,
   s.Count.set ev.Thread.toNat (w64 (ix s.Count ev.Thread + 1))⟩
def possS (wv : SWorld) (s : SSnapshot) (ev : SEvent) : Bool :=
 fitsN wv s && (inB ev.Thread wv.Threads.length && (enabledS wv s.Sync ev.Thread ev.Kind ev.Obj && (placedS wv ev && (determinedS wv s ev && valuedS s ev))))
def stepS (wv : SWorld) (s : SSnapshot) (ev : SEvent) : SSnapshot × Bool := if possS wv s ev = true then (nextS wv s ev, true) else (emptyN, false)
theorem fitsN_len {wv : SWorld} {s : SSnapshot} (h : fitsN wv s = true) : fitsS wv s.Sync = true ∧ s.Cells.length = wv.Cells.length ∧ s.Futures.length = wv.Futures.length ∧ s.Count.length = wv.Threads.length := by
 unfold fitsN at h
 simpa only [Bool.and_eq_true, beq_iff_eq] using h
theorem allowed_kind {wv : SWorld} {k o : Int} (h : allowedS wv k o = true) : 1 ≤ k ∧ k ≤ 23 := by
 unfold allowedS at h
 repeat' split at h
 all_goals first | omega | cases h
theorem Step_eq (wv : SWorld) (hw : Small wv) (s : SSnapshot) (hr : RB 1000000 s.Sync) (ev : SEvent) (he : EvOK ev) : w_Stq wv s ev = some (stepS wv s ev) := by
 have hno : ∀ b, b = true → w_Stq_J1 ev s wv b = some (emptyN, false) := by rintro b rfl; rfl
 have hno2 : ∀ b, b = true → w_Stq_J2 ev s wv b = some (emptyN, false) := by rintro b rfl; rfl
 unfold w_Stq stepS possS
 rw [wellformed_fits_eq wv hw, Option.bind_some]
 cases hf : fitsN wv s with
 | false => rfl
 | true =>
  rw [if_neg (c := (!true) = true) (by simp), Bool.true_and]
  cases ht : inB ev.Thread wv.Threads.length with
  | false =>
   rw [Bool.false_and, if_neg (c := false = true) (by simp)]
   by_cases a1 : ev.Thread < 0
   · rw [ite_d a1, hno _ rfl]
   · rw [ite_nd a1]
     by_cases a2 : ev.Thread ≥ (wv.Threads.length : Int)
     · rw [ite_d a2, hno _ rfl]
     · exfalso
       have := inB_iff.2 ⟨Int.not_lt.1 a1, Int.not_le.1 a2⟩
       rw [ht] at this; cases this
  | true =>
   obtain ⟨b1, b2⟩ := inB_iff.1 ht
   rw [ite_nd (by omega), ite_nd (by omega), Bool.true_and]
   obtain ⟨hfs, c1, c2, c3⟩ := fitsN_len hf
   have hw1 := hw.c; have hw2 := hw.f; have hw3 := hw.t
   have hfi := Fine.of hw hfs hr
   have hEn := object_Enabled_eq wv hw s.Sync (hr.mono (by omega)) ev.Thread ev.Obj ev.Kind
   cases hen : enabledS wv s.Sync ev.Thread ev.Kind ev.Obj with
   | false =>
    rw [Bool.false_and, if_neg (c := false = true) (by simp)]
    by_cases a1 : ev.Kind < 1
    · rw [ite_d a1, hno _ rfl]
    · rw [ite_nd a1]
      unfold w_Stq_J1
      by_cases a2 : ev.Kind > 23
      · rw [if_pos (by simpa using a2)]; rfl
      · rw [if_neg (by simpa using a2), hEn, hen]; rfl
   | true =>
    have hen' := hen
    unfold enabledS at hen'
    simp only [Bool.and_eq_true] at hen'
    obtain ⟨_, _, ha, _⟩ := hen'
    obtain ⟨k1, k2⟩ := allowed_kind ha
    have hc : gt s.Count ev.Thread = some (ix s.Count ev.Thread) := gt_ix (by rw [c3]; exact ht)
    have hcellw : ev.Kind = 3 ∨ ev.Kind = 4 → inB ev.Obj wv.Cells.length = true := by
     rintro (h | h) <;> simpa (decide := true) [allowedS, h] using ha
    have hfut : ev.Kind = 22 ∨ ev.Kind = 23 → inB ev.Obj wv.Futures.length = true := by
     rintro (h | h) <;> simpa (decide := true) [allowedS, h] using ha
    rw [ite_nd (by omega)]
    unfold w_Stq_J1
    rw [if_neg (by simp; omega), hEn, hen, Option.bind_some, if_neg (c := (!true) = true) (by simp), placed_eq, Option.bind_some, Bool.true_and]
    cases hp : placedS wv ev with
    | false => rfl
    | true =>
     rw [if_neg (c := (!true) = true) (by simp), determined_eq wv s ev he hc hcellw, Option.bind_some, Bool.true_and]
     cases hd : determinedS wv s ev with
     | false => rfl
     | true =>
      rw [if_neg (c := (!true) = true) (by simp), valued_eq s ev hfi.t (fun h => by rw [c1]; exact hcellw (.inl h)) (fun h => by rw [c2]; exact hfut (.inr h)), Option.bind_some, Bool.true_and]
      cases hv : valuedS s ev with
      | false => rfl
      | true =>
       rw [if_pos rfl]
       unfold w_Stq_J2
       have hJ3 : ∀ wake, wake = (if ev.Kind = 18 then ev.Value else -1) → w_Stq_J3 ev s wv wake = some (nextS wv s ev, true) := by
        rintro wake rfl
        unfold w_Stq_J3
        rw [object_Apply_eq wv hw s.Sync hr, Option.bind_some]
        unfold applyR
        rw [hen, if_pos rfl, if_neg (by simp)]
        unfold s_Clinq s_Clin
        rw [ite_room (by omega), Option.bind_some, ite_room (by omega), Option.bind_some, ite_room (by omega), Option.bind_some]
        unfold w_Stq_J4 nextS
        simp only [hc, Option.bind_some]
        by_cases k4 : ev.Kind = 4
        · rw [if_pos (by simp [k4]), gt_ix (by rw [c1]; exact hcellw (.inr k4)), Option.bind_some]; simp [k4]
        · rw [if_neg (by simpa using k4)]
          by_cases k22 : ev.Kind = 22
          · rw [if_pos (by simp [k22]), gt_ix (by rw [c2]; exact hfut (.inl k22)), Option.bind_some]; simp [k22]
          · rw [if_neg (by simpa using k22)]; simp [k4, k22]
       rw [if_neg (by simp)]
       by_cases k18 : ev.Kind = 18
       · rw [if_pos (by simp [k18])]; exact hJ3 _ (by rw [if_pos k18])
       · rw [if_neg (by simpa using k18)]; exact hJ3 _ (by rw [if_neg k18])
end Go.Abs
