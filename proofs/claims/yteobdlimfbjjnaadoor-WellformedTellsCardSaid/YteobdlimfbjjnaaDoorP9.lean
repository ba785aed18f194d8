/- Steps and whole traces: both sides. -/
import Derived.Test.YteobdlimfbjjnaaDoorP8
import Derived.Test.YteobdlimfbjjnaaDoorTF15
set_option linter.unusedSimpArgs false
namespace Go.Abs
set_option maxHeartbeats 4000000
theorem numbers_loop (c : Int) (l : List Int) (hl : l.length < 4611686018427387904) : ∀ (n i : Nat) (last : Int), i ≤ l.length → l.length < n + i → (∀ (h : 0 < i) (h' : i - 1 < l.length), last = l[i - 1]) → (i = 0 → last = 0) → (0 < i → 1 ≤ last) →
 r16_nu_L1r c l n (i : Int) = some (numsS c last (l.drop i))
 | 0, i, last, h1, h2, _, _, _ => by omega
 | n + 1, i, last, h1, h2, h3, h4, h5 => by
  unfold r16_nu_L1r r16_nu_L1
  by_cases hi : i < l.length
  · have ih : 1 ≤ l[i] → r16_nu_L1r c l n ((i + 1 : Nat) : Int) = some (numsS c l[i] (l.drop (i + 1))) :=
     fun hx => numbers_loop c l hl n (i + 1) l[i] (by omega) (by omega) (fun _ _ => rfl) (by omega) (fun _ => hx)
    unfold r16_nu_J1
    rw [ite_d (by omega), gt_lt hi, Option.bind_some, dropc hi, w64_succ (by omega), numsS]
    by_cases a1 : l[i] < 1
    · have : ¬ last < l[i] := by
       by_cases h0 : i = 0
       · rw [h4 h0]; omega
       · have := h5 (by omega); omega
      simp [a1, this]
    · rw [ite_nd a1, ih (by omega)]
      by_cases a2 : l[i] ≥ c
      · have : ¬ l[i] < c := by omega
        simp [a2, this]
      · have b2 : l[i] < c := by omega
        rw [ite_nd a2]
        by_cases h0 : i = 0
        · have : last < l[i] := by rw [h4 h0]; omega
          rw [ite_nd (by omega)]
          simp [this, b2]
        · have hp := h3 (by omega) (by omega)
          rw [ite_d (by omega), w64_of (by omega) (by omega), show (i : Int) - 1 = ((i - 1 : Nat) : Int) from by omega, gt_lt (by omega), Option.bind_some, ← hp]
          by_cases a3 : l[i] ≤ last
          · have : ¬ last < l[i] := by omega
            simp [a3, this]
          · have : last < l[i] := by omega
            simp [a3, this, b2]
  · rw [ite_nd (by omega), dropn hi]; rfl
theorem numbers_eq (c : Int) (l : List Int) (hl : l.length < 4611686018427387904) : r16_nu l c = some (numsS c 0 l) := by
 have := numbers_loop c l hl big 0 0 (by omega) (by have := big_eq; omega) (by omega) (fun _ => rfl) (by omega)
 rw [List.drop_zero] at this
 exact this
theorem value_eq (s : SSnapshot) (ev : SEvent) (hl : s.Sync.Threads.length ≤ 1000) (hcell : ev.Kind = 3 → inB ev.Obj s.Cells.length = true) (hfut : ev.Kind = 23 → inB ev.Obj s.Futures.length = true) : r16_va s ev = some (valuedS s ev) := by
 have hW := Waiting_eq s.Sync ev.Obj hl
 have hWl := waitL_length ev.Obj s.Sync.Threads 0
 unfold r16_va r16_va_J1 r16_va_J2 valuedS
 rw [hW, Option.bind_some, Option.bind_some]
 by_cases k3 : ev.Kind = 3
 · rw [if_pos (by simp [k3]), gt_ix (hcell k3), Option.bind_some, if_pos k3]
 · rw [if_neg (by simpa using k3), if_neg k3]
   by_cases k23 : ev.Kind = 23
   · rw [if_pos (by simp [k23]), gt_ix (hfut k23), Option.bind_some, if_pos k23]
   · rw [if_neg (by simpa using k23), if_neg k23]
     by_cases k5 : ev.Kind = 5
     · rw [if_pos (by simp [k5]), if_pos k5]
       cases (ev.Value == 0) <;> rfl
     · rw [if_neg (by simpa using k5), if_neg k5]
       by_cases k4 : ev.Kind = 4
       · simp [k4]
       · have e4 : (ev.Kind == 4) = false := by simpa using k4
         rw [e4]
         by_cases k22 : ev.Kind = 22
         · simp [k22]
         · have e22 : (ev.Kind == 22) = false := by simpa using k22
           rw [e22, if_neg (c := ev.Kind = 4 ∨ ev.Kind = 22) (by simp [k4, k22])]
           simp only [Bool.false_eq_true, if_false]
           by_cases k18 : ev.Kind = 18
           · rw [if_pos (by simp [k18]), if_pos k18]
             have hb := mem_waitL ev.Obj s.Sync.Threads 0
             cases hWW : waitL ev.Obj 0 s.Sync.Threads with
             | nil => simp
             | cons w r =>
              rw [hWW] at hWl hb
              unfold r16_va_J3
              rw [if_neg (by simp; omega), Has_eq _ _ (by omega), Option.bind_some]
              cases hc : (w :: r).contains ev.Value with
              | true =>
               have := hb ev.Value (by simpa using hc)
               rw [ite_d (by omega), ite_d (by omega)]; rfl
              | false =>
               by_cases a1 : ev.Value ≥ 0 <;> by_cases a2 : ev.Value < (s.Sync.Threads.length : Int) <;> simp [a1, a2]
           · rw [if_neg (by simpa using k18), if_neg k18]
             by_cases k19 : ev.Kind = 19
             · rw [if_pos (by simp [k19]), if_pos k19]
             · rw [if_neg (by simpa using k19), if_neg k19]
theorem rStep_eq (wv : SWorld) (hw : Small wv) (s : SSnapshot) (hr : RB 1000000 s.Sync) (ev : SEvent) (he : EvOK ev) : r16_Stq wv s ev = some (stepS wv s ev) := by
  unfold r16_Stq stepS possS
  rw [ref16_Fits_eq wv hw, Option.bind_some]
  cases hf : fitsN wv s with
  | false => rfl
  | true =>
    rw [if_neg (c := (!true) = true) (by simp), ref16_in_eq, Option.bind_some, Bool.true_and]
    cases ht : inB ev.Thread wv.Threads.length with
    | false => rfl
    | true =>
      rw [if_neg (c := (!true) = true) (by simp), Bool.true_and]
      obtain ⟨hfs, c1, c2, c3⟩ := fitsN_len hf
      have hw1 := hw.c; have hw2 := hw.f; have hw3 := hw.t
      have hfi := Fine.of hw hfs hr
      have hEn := ref08_Enabled_eq wv hw s.Sync (hr.mono (by omega)) ev.Thread ev.Obj ev.Kind
      cases hen : enabledS wv s.Sync ev.Thread ev.Kind ev.Obj with
      | false =>
        rw [Bool.false_and, if_neg (c := false = true) (by simp)]
        by_cases a1 : ev.Kind < 1
        · rw [ite_d a1]; rfl
        · rw [ite_nd a1]
          by_cases a2 : ev.Kind > 23
          · rw [ite_d a2]; rfl
          · rw [ite_nd a2, hEn, hen]; rfl
      | true =>
        have hen' := hen
        unfold enabledS at hen'
        simp only [Bool.and_eq_true] at hen'
        obtain ⟨_, _, ha, _⟩ := hen'
        obtain ⟨k1, k2⟩ := allowed_kind ha
        have hc : gt s.Count ev.Thread = some (ix s.Count ev.Thread) := gt_ix (by rw [c3]; exact ht)
        have hcellw : ev.Kind = 3 ∨ ev.Kind = 4 → inB ev.Obj wv.Cells.length = true := by
          rintro (h | h) <;> simpa (decide := true) [allowedS, h] using ha
        have hfut : ev.Kind = 22 ∨ ev.Kind = 23 → inB ev.Obj wv.Futures.length = true := by
          rintro (h | h) <;> simpa (decide := true) [allowedS, h] using ha
        rw [ite_nd (by omega), ite_nd (by omega), hEn, hen, Option.bind_some, Bool.true_and]
        unfold r16_Stq_J1
        rw [if_neg (c := (!true) = true) (by simp)]
        -- the last part
        have hJ9 : ∀ wake, wake = (if ev.Kind = 18 then ev.Value else -1) → r16_Stq_J9 ev s wv wake = some (nextS wv s ev, true) := by
          rintro wake rfl
          unfold r16_Stq_J9
          rw [ref08_Apply_eq wv hw s.Sync hr, Option.bind_some]
          unfold applyR
          rw [hen, if_pos rfl]
          unfold r16_Stq_J10 r16_Stq_J11 nextS
          simp only [hc, Option.bind_some]
          by_cases k4 : ev.Kind = 4
          · rw [if_pos (by simp [k4]), gt_ix (by rw [c1]; exact hcellw (.inr k4)), Option.bind_some]; simp [k4]
          · rw [if_neg (c := (ev.Kind == 4) = true) (by simpa using k4)]
            by_cases k22 : ev.Kind = 22
            · rw [if_pos (by simp [k22]), gt_ix (by rw [c2]; exact hfut (.inl k22)), Option.bind_some]; simp [k22]
            · rw [if_neg (c := (ev.Kind == 22) = true) (by simpa using k22)]; simp [k4, k22]
        have hJ8 : ∀ b, r16_Stq_J8 ev s wv b = if b = true then some (emptyN, false) else some (nextS wv s ev, true) := by
          intro b
          unfold r16_Stq_J8
          cases b with
          | true => rfl
          | false =>
            rw [if_neg (c := false = true) (by simp), ite_room (by omega), ite_room (by omega), ite_room (by omega), if_neg (c := false = true) (by simp)]
            by_cases k18 : ev.Kind = 18
            · rw [if_pos (by simp [k18])]; exact hJ9 _ (by rw [if_pos k18])
            · rw [if_neg (by simpa using k18)]; exact hJ9 _ (by rw [if_neg k18])
        have hJ7 : ∀ b, r16_Stq_J7 ev s wv b = if (!b && (numsS (ix s.Count ev.Thread) 0 ev.Deps && (numsS (ix s.Count ev.Thread) 0 ev.From && valuedS s ev))) = true then some (nextS wv s ev, true) else some (emptyN, false) := by
          intro b
          unfold r16_Stq_J7
          rw [hc, Option.bind_some, numbers_eq _ _ he.1, Option.bind_some, numbers_eq _ _ he.2, Option.bind_some, value_eq s ev hfi.t (fun h => by rw [c1]; exact hcellw (.inl h)) (fun h => by rw [c2]; exact hfut (.inr h)), Option.bind_some]
          simp only [hJ8]
          cases b <;> cases numsS (ix s.Count ev.Thread) 0 ev.Deps <;> cases numsS (ix s.Count ev.Thread) 0 ev.From <;> cases valuedS s ev <;> rfl
        have hJ6 : ∀ b, r16_Stq_J6 ev s wv b = if (!b && ((ev.From.isEmpty || (ev.Kind == 4 || ev.Kind == 22)) && (numsS (ix s.Count ev.Thread) 0 ev.Deps && (numsS (ix s.Count ev.Thread) 0 ev.From && valuedS s ev)))) = true then some (nextS wv s ev, true) else some (emptyN, false) := by
          intro b
          unfold r16_Stq_J6
          simp only [hJ7]
          cases b with
          | true => rfl
          | false =>
            cases hF : ev.From with
            | nil => simp
            | cons x r =>
              rw [ite_d (by simp only [List.length_cons]; omega)]
              by_cases k4 : ev.Kind = 4
              · simp [k4]
              · by_cases k22 : ev.Kind = 22
                · simp [k22]
                · simp [k4, k22]
        have hJ5 : ∀ b, b = (ev.Kind == 3 || ev.Kind == 4) → r16_Stq_J5 ev s wv b = if ((ev.Deps.isEmpty || (ev.Kind == 5 || elemS wv ev)) && ((ev.From.isEmpty || (ev.Kind == 4 || ev.Kind == 22)) && (numsS (ix s.Count ev.Thread) 0 ev.Deps && (numsS (ix s.Count ev.Thread) 0 ev.From && valuedS s ev)))) = true then some (nextS wv s ev, true) else some (emptyN, false) := by
          rintro b rfl
          unfold r16_Stq_J5
          simp only [hJ6]
          cases hD : ev.Deps with
          | nil => simp
          | cons x r =>
            rw [ite_d (by simp only [List.length_cons]; omega)]
            by_cases k5 : ev.Kind = 5
            · simp [k5]
            · by_cases k3 : ev.Kind = 3
              · have hg := gt_ix (l := wv.Cells) (hcellw (.inl k3))
                simp [k3, hg, elemS]
              · by_cases k4 : ev.Kind = 4
                · have hg := gt_ix (l := wv.Cells) (hcellw (.inr k4))
                  simp [k4, hg, elemS]
                · simp [k5, k3, k4, elemS]
        have hJ4 : r16_Stq_J4 ev s wv = if (determinedS wv s ev && valuedS s ev) = true then some (nextS wv s ev, true) else some (emptyN, false) := by
          have e : (determinedS wv s ev && valuedS s ev) = ((ev.Deps.isEmpty || (ev.Kind == 5 || elemS wv ev)) && ((ev.From.isEmpty || (ev.Kind == 4 || ev.Kind == 22)) && (numsS (ix s.Count ev.Thread) 0 ev.Deps && (numsS (ix s.Count ev.Thread) 0 ev.From && valuedS s ev)))) := by
            unfold determinedS
            generalize (ev.Deps.isEmpty || (ev.Kind == 5 || elemS wv ev)) = p
            generalize (ev.From.isEmpty || (ev.Kind == 4 || ev.Kind == 22)) = q
            cases p <;> cases q <;> cases numsS (ix s.Count ev.Thread) 0 ev.Deps <;> cases numsS (ix s.Count ev.Thread) 0 ev.From <;> rfl
          rw [e]
          unfold r16_Stq_J4
          by_cases k3 : ev.Kind = 3
          · rw [if_pos (c := (ev.Kind == 3) = true) (by simp [k3])]
            exact hJ5 _ (by simp [k3])
          · rw [if_neg (c := (ev.Kind == 3) = true) (by simpa using k3)]
            exact hJ5 _ (by have : (ev.Kind == 3) = false := by simpa using k3
                            simp [this])
        have hJ2 : ∀ b, b = (ev.Kind == 1 || ev.Kind == 2) → r16_Stq_J2 ev s wv b = if (placedS wv ev && (determinedS wv s ev && valuedS s ev)) = true then some (nextS wv s ev, true) else some (emptyN, false) := by
          rintro b rfl
          unfold r16_Stq_J2 r16_Stq_J3 placedS
          rw [hJ4, ref16_in_eq, Option.bind_some]
          generalize (determinedS wv s ev && valuedS s ev) = q
          by_cases k : ev.Kind = 1 ∨ ev.Kind = 2
          · have : (ev.Kind == 1 || ev.Kind == 2) = true := by simpa using k
            rw [this, if_pos rfl, if_pos k]
            by_cases hs : ev.Site = -1
            · simp [hs]
            · simp [hs]; rfl
          · have : (ev.Kind == 1 || ev.Kind == 2) = false := by simpa using k
            rw [this, if_neg (c := false = true) (by simp), if_neg k]
            cases hi : inB ev.Site wv.Sites.length with
            | false => rfl
            | true =>
              rw [if_neg (c := (!true) = true) (by simp), gt_ix hi, Option.bind_some]
              by_cases hs : (ix wv.Sites ev.Site).Thread = ev.Thread
              · simp [hs]
              · simp [hs]; rfl
        have hfin : ∀ q : Bool, (if q = true then some (nextS wv s ev, true) else some (emptyN, false)) = some (if q = true then (nextS wv s ev, true) else (emptyN, false)) := fun q => by cases q <;> rfl
        rw [← hfin]
        by_cases k : ev.Kind = 1
        · rw [if_pos (c := (ev.Kind == 1) = true) (by simp [k])]; exact hJ2 _ (by simp [k])
        · have e : (ev.Kind == 1) = false := by simpa using k
          rw [if_neg (c := (ev.Kind == 1) = true) (by simpa using k)]; exact hJ2 _ (by simp [e])
end Go.Abs
