/- Whole traces: both sides. -/
import Derived.Test.YteobdlimfbjjnaaDoorP9
namespace Go.Abs
set_option maxHeartbeats 4000000
theorem RB.setL {N M : Nat} {s : SSync} (h : RB N s) (hM : N ≤ M) (i : Int) (f : SLockState → SLockState) (hf : (f (Abs.ix s.Locks i)).Readers.length ≤ M) : RB M (Abs.setL s i f) := by
 intro x hx
 rcases List.mem_or_eq_of_mem_set hx with hx | rfl
 · exact Nat.le_trans (h x hx) hM
 · exact hf
theorem RB.apply {N : Nat} {s : SSync} (h : RB N s) (wv : SWorld) (t k o wake : Int) : RB (N + 1) (applyS wv s t k o wake).1 := by
 have h1 : RB (N + 1) s := h.mono (by omega)
 have hi := fun i => Nat.le_succ_of_le (h.ix i)
 have key : ∀ (p : Prop) [Decidable p] (a b : SSync × Int), RB (N + 1) a.1 → RB (N + 1) b.1 → RB (N + 1) (if p then a else b).1 := by
  intro p _ a b ha hb; split <;> assumption
 unfold applyS
 repeat' refine key _ _ _ ?_ ?_
 all_goals first
  | exact h1
  | exact h.setL (by omega) _ _ (hi _)
  | (refine h.setL (by omega) _ _ ?_; have := setOf_length ((Abs.ix s.Locks o).Readers ++ [t]); have := h.ix o; simp at *; omega)
  | (refine h.setL (by omega) _ _ (Nat.le_trans (List.length_filter_le _ _) (hi _)))
  | exact h.setL (by omega) (Abs.ix wv.Conds o).Mutex (fun x => ⟨-1, x.Readers⟩) (hi _)
  | exact h.setL (by omega) (Abs.ix wv.Conds o).Mutex (fun x => ⟨t, x.Readers⟩) (hi _)
  | (by_cases hW : waitL o 0 s.Threads = [] <;> simp only [hW, if_true, if_false] <;> exact h1)
theorem RB.start (wv : SWorld) : RB 0 (startS wv) := by
 intro x hx
 have := List.eq_of_mem_replicate hx
 subst this; simp
def isR (e : SEvent) : Bool := e.Kind == 3 || e.Kind == 23
def rdB (l : List SEvent) (t : Int) : List Bool := (l.filter fun e => e.Thread == t).map isR
def isIn (reads : List Bool) (k : Int) : Bool := inB k reads.length && ix reads k
def readsS (pre : List SEvent) (ev : SEvent) : Bool := ev.Deps.all (isIn (rdB pre ev.Thread)) && ev.From.all (isIn (rdB pre ev.Thread))
theorem allReads_L2 (L1 : Int → Option Bool) (l : List Int) (reads : List Bool) (t : Int) (hl : l.length < 4611686018427387904) : ∀ (n i : Nat), i ≤ l.length → l.length < n + i → w_alRe_L2r L1 l reads t n (i : Int) = if (l.drop i).all (isIn reads) = true then w_alRe_J3 L1 t else some false
 | 0, i, h1, h2 => by omega
 | n + 1, i, h1, h2 => by
  unfold w_alRe_L2r w_alRe_L2
  by_cases hi : i < l.length
  · unfold w_alRe_J2
    rw [ite_d (by omega), gt_lt hi, Option.bind_some, dropc hi, w64_succ (by omega), allReads_L2 L1 l reads t hl n (i + 1) (by omega) (by omega), List.all_cons]
    generalize l[i] = x
    generalize (l.drop (i + 1)).all (isIn reads) = q
    unfold isIn
    by_cases a1 : x < 0
    · have : inB x reads.length = false := by simp [inB]; omega
      simp [a1, this]
    · by_cases a2 : x ≥ (reads.length : Int)
      · have : inB x reads.length = false := by simp [inB]; omega
        simp [a1, a2, this]
      · have h : inB x reads.length = true := by simp [inB]; omega
        rw [ite_nd a1, ite_nd a2, gt_ix h, Option.bind_some, h]
        cases ix reads x <;> simp
  · rw [ite_nd (by omega), dropn hi]; simp
theorem allReads_eq (reads : List Bool) (ev : SEvent) (he : EvOK ev) : w_alRe reads ev = some (ev.Deps.all (isIn reads) && ev.From.all (isIn reads)) := by
 unfold w_alRe
 have hb := big_eq
 have hJ1 : ∀ L1 t l, l.length < 4611686018427387904 → w_alRe_J1 L1 reads t l = if l.all (isIn reads) = true then w_alRe_J3 L1 t else some false := by
  intro L1 t l hl
  have := allReads_L2 L1 l reads t hl big 0 (by omega) (by omega)
  rw [List.drop_zero] at this
  exact this
 rw [big_pred]
 generalize big - 3 = m
 have r3 : w_alRe_L1r ev reads (m + 1) 2 = some true := by
  unfold w_alRe_L1r w_alRe_L1; rfl
 have r2 : w_alRe_L1r ev reads (m + 2) 1 = some (ev.From.all (isIn reads)) := by
  unfold w_alRe_L1r w_alRe_L1
  rw [ite_d (by decide), if_neg (by decide), if_pos (by decide), hJ1 _ _ _ he.2]
  unfold w_alRe_J3
  rw [show w64 (1 + 1) = 2 from rfl, r3]
  cases ev.From.all (isIn reads) <;> rfl
 unfold w_alRe_L1r w_alRe_L1
 rw [ite_d (by decide), if_pos (by decide), hJ1 _ _ _ he.1]
 unfold w_alRe_J3
 rw [show w64 (0 + 1) = 1 from rfl, r2]
 cases ev.Deps.all (isIn reads) <;> simp
def scanS (x t : Int) : Int → List SEvent → Bool
 | _, [] => false
 | nv, e :: r => if e.Thread = t then (nv == x && isR e) || scanS x t (nv + 1) r else scanS x t nv r
theorem rdB_cons (e : SEvent) (r : List SEvent) (t : Int) : rdB (e :: r) t = if e.Thread = t then isR e :: rdB r t else rdB r t := by
 unfold rdB
 by_cases h : e.Thread = t <;> simp [h]
theorem scan_eq (x t : Int) (l : List SEvent) : ∀ nv : Int, scanS x t nv l = isIn (rdB l t) (x - nv) := by
 induction l with
 | nil => intro nv; simp [scanS, isIn, rdB, inB]; omega
 | cons e r ih =>
  intro nv
  unfold scanS
  rw [rdB_cons]
  by_cases h : e.Thread = t
  · rw [if_pos h, if_pos h, ih]
    unfold isIn
    by_cases h0 : x = nv
    · subst h0
      have e1 : inB (x - x) (isR e :: rdB r t).length = true := by rw [inB_iff]; simp only [List.length_cons]; omega
      have e2 : ix (isR e :: rdB r t) (x - x) = isR e := by simp [ix]
      have e3 : inB (x - (x + 1)) (rdB r t).length = false := by
       cases hq : inB (x - (x + 1)) (rdB r t).length with
       | false => rfl
       | true => have := inB_iff.1 hq; omega
      rw [e1, e2, e3]; simp
    · have e0 : (nv == x) = false := by simpa using fun h => h0 h.symm
      have e1 : inB (x - nv) (isR e :: rdB r t).length = inB (x - (nv + 1)) (rdB r t).length := by
       rw [Bool.eq_iff_iff, inB_iff, inB_iff]; simp; omega
      rw [e0, e1]
      cases hb : inB (x - (nv + 1)) (rdB r t).length with
      | false => simp
      | true =>
       obtain ⟨b1, b2⟩ := inB_iff.1 hb
       have : ix (isR e :: rdB r t) (x - nv) = ix (rdB r t) (x - (nv + 1)) := by
        unfold ix
        rw [show (x - nv).toNat = (x - (nv + 1)).toNat + 1 from by omega, List.getElem?_cons_succ]
       rw [this]; simp
  · rw [if_neg h, if_neg h, ih]
theorem reads_L2 (L1 : Int → Option Bool) (i : Nat) (k : Int) (l : List SEvent) (numbers : List Int) (t x : Int) (hi : i ≤ l.length) (hi' : i ≤ 1000000) (hx : gt numbers k = some x) : ∀ (n j nv : Nat) (ok : Bool), j ≤ i → i < n + j → nv ≤ j →
 r16_re_L2r L1 (i : Int) k l numbers t n (nv : Int) ok (j : Int) = r16_re_J3 L1 k (ok || scanS x t nv ((l.take i).drop j))
 | 0, j, nv, ok, h1, h2, h3 => by omega
 | n + 1, j, nv, ok, h1, h2, h3 => by
  unfold r16_re_L2r r16_re_L2
  by_cases hj : j < i
  · have hj' : j < (l.take i).length := by simp; omega
    have ih := fun (nv' : Nat) ok' h => reads_L2 L1 i k l numbers t x hi hi' hx n (j + 1) nv' ok' (by omega) (by omega) h
    unfold r16_re_J1 r16_re_J2
    rw [ite_d (by omega), gt_lt (by omega), Option.bind_some, dropc hj', w64_succ (i := j) (by omega), w64_succ (i := nv) (by omega), hx, Option.bind_some, scanS]
    simp only [List.getElem_take, ih (nv + 1) _ (by omega), ih nv _ (by omega), show ((nv : Int) + 1) = ((nv + 1 : Nat) : Int) from rfl]
    unfold isR
    by_cases ht : l[j].Thread = t
    · have e : (l[j].Thread != t) = false := by simp [ht]
      rw [e, if_pos ht]
      cases ok <;> cases (((nv : Int) == x)) <;> cases (l[j].Kind == 3) <;> simp
    · have e : (l[j].Thread != t) = true := by simpa using ht
      rw [e, if_neg ht]; rfl
  · rw [ite_nd (by omega), List.drop_eq_nil_of_le (by simp; omega)]
    simp [scanS]
theorem reads_loop (i : Nat) (l : List SEvent) (numbers : List Int) (t : Int) (hi : i ≤ l.length) (hi' : i ≤ 1000000) (hl : numbers.length < 4611686018427387904) : ∀ (n k : Nat), k ≤ numbers.length → numbers.length < n + k →
 r16_re_L1r (i : Int) l numbers t n (k : Int) = some ((numbers.drop k).all (isIn (rdB (l.take i) t)))
 | 0, k, h1, h2 => by omega
 | n + 1, k, h1, h2 => by
  unfold r16_re_L1r r16_re_L1
  by_cases hk : k < numbers.length
  · have := reads_L2 (r16_re_L1r (i : Int) l numbers t n) i (k : Int) l numbers t numbers[k] hi hi' (gt_lt hk) big 0 0 false (by omega) (by have := big_eq; omega) (by omega)
    rw [List.drop_zero, scan_eq] at this
    simp only [Int.natCast_zero, Int.sub_zero, Bool.false_or] at this
    rw [ite_d (by omega), this, dropc hk, List.all_cons]
    unfold r16_re_J3 r16_re_J4
    rw [w64_succ (by omega), reads_loop i l numbers t hi hi' hl n (k + 1) (by omega) (by omega)]
    cases isIn (rdB (l.take i) t) numbers[k] <;> simp
  · rw [ite_nd (by omega), dropn hk]; rfl
theorem reads_eq (i : Nat) (l : List SEvent) (numbers : List Int) (t : Int) (hi : i ≤ l.length) (hi' : i ≤ 1000000) (hl : numbers.length < 4611686018427387904) : r16_re l (i : Int) t numbers = some (numbers.all (isIn (rdB (l.take i) t))) := by
 have := reads_loop i l numbers t hi hi' hl big 0 (by omega) (by have := big_eq; omega)
 rw [List.drop_zero] at this
 exact this
def checkL (wv : SWorld) : List SEvent → SSnapshot → List SEvent → Int × Int
 | _, _, [] => (0, 0)
 | pre, s, x :: r => if (possS wv s x && readsS pre x) = true then checkL wv (pre ++ [x]) (nextS wv s x) r else ((pre.length : Int), 12)
def checkS (t : STrace) : Int × Int := if t.Events.length > 400 then (0, 2) else if worldS t.World = true then checkL t.World [] (startN t.World) t.Events else (0, 1)
theorem possS_thread {wv : SWorld} {s : SSnapshot} {x : SEvent} (h : possS wv s x = true) : inB x.Thread wv.Threads.length = true := by
 unfold possS at h
 simp only [Bool.and_eq_true] at h
 exact h.2.1
theorem rdB_append (l : List SEvent) (x : SEvent) (t : Int) : rdB (l ++ [x]) t = if x.Thread = t then rdB l t ++ [isR x] else rdB l t := by
 unfold rdB
 rw [List.filter_append, List.map_append]
 by_cases h : x.Thread = t <;> simp [h]
theorem rdB_length (l : List SEvent) (t : Int) : (rdB l t).length ≤ l.length := by
 unfold rdB; rw [List.length_map]; exact List.length_filter_le _ _
theorem Check_loop (t : STrace) (hw : Small t.World) (hE : ∀ e ∈ t.Events, EvOK e) (hl : t.Events.length ≤ 400) : ∀ (n i : Nat) (s : SSnapshot) (R : List (List Bool)), i ≤ t.Events.length → t.Events.length < n + i → RB i s.Sync → R.length = t.World.Threads.length → (∀ u : Nat, u < R.length → R[u]? = some (rdB (t.Events.take i) (u : Int))) →
    w_Ch_L1r t n s R (i : Int) = some (checkL t.World (t.Events.take i) s (t.Events.drop i))
  | 0, i, s, R, h1, h2, _, _, _ => by omega
  | n + 1, i, s, R, h1, h2, h3, h4, h5 => by
    unfold w_Ch_L1r w_Ch_L1
    by_cases hi : i < t.Events.length
    · have he := hE _ (List.getElem_mem hi)
      rw [ite_d (by omega), gt_lt hi, Option.bind_some, Step_eq t.World hw s (h3.mono (by omega)) _ he, Option.bind_some, dropc hi, checkL, List.length_take_of_le (by omega)]
      unfold stepS
      cases hp : possS t.World s t.Events[i] with
      | false => rfl
      | true =>
        rw [if_pos rfl, if_neg (c := (!true) = true) (by simp), Bool.true_and]
        have ht := possS_thread hp
        obtain ⟨b1, b2⟩ := inB_iff.1 ht
        have hu : t.Events[i].Thread.toNat < R.length := by omega
        have hR : gt R t.Events[i].Thread = some (rdB (t.Events.take i) t.Events[i].Thread) := by
          unfold gt
          rw [if_pos b1, h5 _ hu]
          congr 2; omega
        have hrl := rdB_length (t.Events.take i) t.Events[i].Thread
        rw [List.length_take_of_le (by omega)] at hrl
        rw [hR, Option.bind_some, allReads_eq _ _ he, Option.bind_some]
        unfold w_Ch_J1
        show (if (!(readsS (t.Events.take i) t.Events[i])) = true then _ else _) = _
        cases readsS (t.Events.take i) t.Events[i] with
        | false => rfl
        | true =>
          rw [if_neg (c := (!true) = true) (by simp), if_pos rfl, hR, Option.bind_some, ite_room (by omega), ite_room (by omega)]
          unfold w_Ch_J2
          have hk : ∀ b, b = isR t.Events[i] → w_Ch_L1r t n (nextS t.World s t.Events[i]) (R.set t.Events[i].Thread.toNat (rdB (t.Events.take i) t.Events[i].Thread ++ [b])) (w64 ((i : Int) + 1)) = some (checkL t.World (t.Events.take i ++ [t.Events[i]]) (nextS t.World s t.Events[i]) (t.Events.drop (i + 1))) := by
            rintro b rfl
            rw [w64_succ (by omega), List.take_append_getElem hi]
            refine Check_loop t hw hE hl n (i + 1) _ _ (by omega) (by omega) ?_ (by simpa using h4) ?_
            · exact h3.apply _ _ _ _ _
            · intro u hu'
              rw [← List.take_append_getElem hi, rdB_append]
              have hu'' : u < R.length := by simpa using hu'
              by_cases hut : t.Events[i].Thread = (u : Int)
              · have : t.Events[i].Thread.toNat = u := by omega
                rw [if_pos hut, this, List.getElem?_set_self hu'', hut]
              · have : t.Events[i].Thread.toNat ≠ u := by omega
                rw [if_neg hut, List.getElem?_set_ne this, h5 u hu'']
          by_cases k3 : t.Events[i].Kind = 3
          · rw [if_pos (by simp [k3])]; exact hk _ (by simp [isR, k3])
          · rw [if_neg (by simpa using k3)]
            exact hk _ (by have : (t.Events[i].Kind == 3) = false := by simpa using k3
                           simp [isR, this])
    · rw [ite_nd (by omega), dropn hi]; rfl
theorem Check_eq (t : STrace) (hE : ∀ e ∈ t.Events, EvOK e) : w_Ch t = some (checkS t) := by
 unfold w_Ch checkS
 by_cases hl : t.Events.length > 400
 · rw [ite_d (by omega), if_pos hl]
 · rw [ite_nd (by omega), if_neg hl, ValidWorld_eq, Option.bind_some]
   cases hv : worldS t.World with
   | false => rfl
   | true =>
    have hw := worldS_small hv
    have h3 := hw.t
    rw [if_neg (c := (!true) = true) (by simp), wellformed_Start_eq _ hw, Option.bind_some, if_pos ⟨by omega, by omega, room_of (by omega)⟩, if_pos rfl]
    have := Check_loop t hw hE (by omega) big 0 (startN t.World) (List.replicate t.World.Threads.length []) (by omega) (by have := big_eq; omega) (RB.start _) (by simp) (by
     intro u hu
     simp at hu
     simp [hu, rdB])
    rw [List.take_zero, List.drop_zero] at this
    exact this
theorem rCheck_loop (t : STrace) (hw : Small t.World) (hE : ∀ e ∈ t.Events, EvOK e) (hl : t.Events.length ≤ 400) : ∀ (n i : Nat) (s : SSnapshot), i ≤ t.Events.length → t.Events.length < n + i → RB i s.Sync →
 r16_Ch_L1r t n s (i : Int) = some (checkL t.World (t.Events.take i) s (t.Events.drop i))
 | 0, i, s, h1, h2, _ => by omega
 | n + 1, i, s, h1, h2, h3 => by
  unfold r16_Ch_L1r r16_Ch_L1
  by_cases hi : i < t.Events.length
  · have he := hE _ (List.getElem_mem hi)
    rw [ite_d (by omega), gt_lt hi, Option.bind_some, rStep_eq t.World hw s (h3.mono (by omega)) _ he, Option.bind_some, dropc hi, checkL, List.length_take_of_le (by omega)]
    unfold stepS
    cases hp : possS t.World s t.Events[i] with
    | false => rfl
    | true =>
     rw [if_pos rfl, if_neg (c := (!true) = true) (by simp), Bool.true_and, reads_eq i _ _ _ (by omega) (by omega) he.1, Option.bind_some, reads_eq i _ _ _ (by omega) (by omega) he.2, Option.bind_some]
     unfold readsS
     cases t.Events[i].Deps.all (isIn (rdB (t.Events.take i) t.Events[i].Thread)) with
     | false => rfl
     | true =>
      cases t.Events[i].From.all (isIn (rdB (t.Events.take i) t.Events[i].Thread)) with
      | false => rfl
      | true =>
       rw [if_neg (c := (!true) = true) (by simp), Bool.true_and, if_pos rfl]
       unfold r16_Ch_J1
       rw [if_neg (c := (!true) = true) (by simp), w64_succ (by omega), List.take_append_getElem hi]
       exact rCheck_loop t hw hE hl n (i + 1) _ (by omega) (by omega) (h3.apply _ _ _ _ _)
  · rw [ite_nd (by omega), dropn hi]; rfl
theorem rCheck_eq (t : STrace) (hE : ∀ e ∈ t.Events, EvOK e) : r16_Ch t = some (checkS t) := by
 unfold r16_Ch checkS
 by_cases hl : t.Events.length > 400
 · rw [ite_d (by omega), if_pos hl]
 · rw [ite_nd (by omega), if_neg hl, rValidWorld_eq, Option.bind_some]
   cases hv : worldS t.World with
   | false => rfl
   | true =>
    have hw := worldS_small hv
    rw [if_neg (c := (!true) = true) (by simp), ref16_Start_eq _ hw, Option.bind_some, if_pos rfl]
    have := rCheck_loop t hw hE (by omega) big 0 (startN t.World) (by omega) (by have := big_eq; omega) (RB.start _)
    rw [List.take_zero, List.drop_zero] at this
    exact this
theorem awake_eq : l17_aw = some true := by decide +kernel
theorem WellformedTells_eq (t : STrace) (hE : ∀ e ∈ t.Events, EvOK e) : l17_WeTe t = some true := by
 have hJ : ∀ b, l17_WeTe_J1 t b = some true := by
  intro b
  unfold l17_WeTe_J1
  rw [Check_eq t hE, rCheck_eq t hE, awake_eq]
  cases b <;> simp [l17_WeTe_J2]
 unfold l17_WeTe
 rw [hJ, hJ]; simp
end Go.Abs
