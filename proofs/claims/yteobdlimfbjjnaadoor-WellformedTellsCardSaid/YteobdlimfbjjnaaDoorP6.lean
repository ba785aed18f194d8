/- What an event does to the objects: both sides. -/
import Derived.Test.YteobdlimfbjjnaaDoorP0
import Derived.Test.YteobdlimfbjjnaaDoorP5
import Derived.Test.YteobdlimfbjjnaaDoorTF5
import Derived.Test.YteobdlimfbjjnaaDoorTF6
import Derived.Test.YteobdlimfbjjnaaDoorTF7
import Derived.Test.YteobdlimfbjjnaaDoorTF14
set_option linter.unusedSimpArgs false
namespace Go.Abs
set_option maxHeartbeats 4000000
theorem Put_loop (l : List Int) (x : Int) (hl : l.length ≤ 1000000000) : ∀ (n i : Nat), i ≤ l.length → l.length < n + i → (∀ (k : Nat) (hk : k < l.length), k < i → l[k] < x) → r07_Pu_L1r l x n (i : Int) = some (ins l x)
 | 0, i, h1, h2, _ => by omega
 | n + 1, i, h1, h2, h3 => by
  unfold r07_Pu_L1r r07_Pu_L1
  have step : ∀ (b : Bool), (∀ (hi : i < l.length), b = decide (l[i] < x)) → (¬ i < l.length → b = false) → r07_Pu_J1 (r07_Pu_L1r l x n) (i : Int) l x b = some (ins l x) := by
   intro b hb hb'
   unfold r07_Pu_J1
   by_cases hi : i < l.length
   · rw [hb hi]
     by_cases hx : l[i] < x
     · rw [ite_d hx, w64_succ (by omega)]
       refine Put_loop l x hl n (i + 1) (by omega) (by omega) fun k hk hki => ?_
       by_cases e : k = i
       · subst e; exact hx
       · exact h3 k hk (by omega)
     · rw [ite_nd hx]
       have hp := insPos_eq l x i h1 h3 (fun _ => hx)
       unfold r07_Pu_J2 r07_Pu_J3 ins
       rw [ite_d (by omega), gt_lt hi, Option.bind_some, hp, List.getElem?_eq_getElem hi]
       by_cases e : l[i] = x
       · simp [e]
       · have : (l[i] == x) = false := by simpa using e
         rw [this, if_neg (by simp), Int.toNat_natCast, if_pos ⟨by omega, by omega⟩, ite_room (by simp; omega), ite_room (by simp; omega), if_pos ⟨by omega, by omega⟩, ite_room (by simp; omega), if_neg (by simpa using e)]
         have ht : (l.drop i).take (l.length - i) = l.drop i := List.take_of_length_le (by rw [List.length_drop]; omega)
         rw [ht]; simp
   · rw [hb' hi, if_neg (by simp)]
     have hp := insPos_eq l x i h1 h3 (fun h => absurd h hi)
     have hil : i = l.length := by omega
     unfold r07_Pu_J2 r07_Pu_J3 ins
     rw [ite_nd (by omega), if_neg (by simp), hp, Int.toNat_natCast, if_pos ⟨by omega, by omega⟩, ite_room (by simp; omega), ite_room (by simp; omega), if_pos ⟨by omega, by omega⟩, ite_room (by simp; omega), if_neg (by simp [hil])]
     congr 1
     simp [hil]
  by_cases hi : i < l.length
  · rw [ite_d (by omega), gt_lt hi, Option.bind_some]
    exact step _ (fun _ => rfl) (fun h => absurd hi h)
  · rw [ite_nd (by omega)]
    exact step _ (fun h => absurd h hi) (fun _ => rfl)
theorem Put_eq (l : List Int) (x : Int) (hl : l.length ≤ 1000000000) : r07_Pu l x = some (ins l x) := Put_loop l x hl big 0 (by omega) (by have := big_eq; omega) (fun k hk h => by omega)
theorem foldl_ins_length (l : List Int) : ∀ (out : List Int), (l.foldl ins out).length ≤ out.length + l.length := by
 induction l with
 | nil => intro out; simp
 | cons x l ih => intro out; have h1 := ih (ins out x); have h2 := ins_length out x; simp only [List.foldl_cons, List.length_cons]; omega
theorem Union_L2 (b : List Int) : ∀ (n i : Nat) (out : List Int), i ≤ b.length → b.length < n + i → out.length + b.length ≤ 1000000000 + i → b.length ≤ 1000000000 → r07_Un_L2r b n out (i : Int) = some ((b.drop i).foldl ins out)
 | 0, i, out, h1, h2, h3, h4 => by omega
 | n + 1, i, out, h1, h2, h3, h4 => by
  unfold r07_Un_L2r r07_Un_L2
  by_cases hi : i < b.length
  · have hl := ins_length out b[i]
    rw [ite_d (by omega), gt_lt hi, Option.bind_some, Put_eq _ _ (by omega), Option.bind_some, w64_succ (by omega), Union_L2 b n (i + 1) _ (by omega) (by omega) (by omega) h4, dropc hi, List.foldl_cons]
  · rw [ite_nd (by omega), dropn hi]; rfl
theorem Union_L1 (a b : List Int) (hb : a.length + b.length ≤ 1000000000) : ∀ (n i : Nat) (out : List Int), i ≤ a.length → a.length < n + i → out.length ≤ i → r07_Un_L1r a b n out (i : Int) = some (b.foldl ins ((a.drop i).foldl ins out))
 | 0, i, out, h1, h2, h3 => by omega
 | n + 1, i, out, h1, h2, h3 => by
  unfold r07_Un_L1r r07_Un_L1
  by_cases hi : i < a.length
  · have hl := ins_length out a[i]
    rw [ite_d (by omega), gt_lt hi, Option.bind_some, Put_eq _ _ (by omega), Option.bind_some, w64_succ (by omega), Union_L1 a b hb n (i + 1) _ (by omega) (by omega) (by omega), dropc hi, List.foldl_cons]
  · rw [ite_nd (by omega), dropn hi]
    unfold r07_Un_J1
    have := Union_L2 b big 0 out (by omega) (by have := big_eq; omega) (by omega) (by omega)
    rw [List.drop_zero] at this
    exact this
theorem Union_eq (a b : List Int) (hb : a.length + b.length ≤ 1000000000) : r07_Un a b = some (setOf (a ++ b)) := by
 have := Union_L1 a b hb big 0 [] (by omega) (by have := big_eq; omega) (by simp)
 rw [List.drop_zero, ← List.foldl_append] at this
 refine Eq.trans this ?_
 rw [← insAll_eq]; rfl
theorem without_loop (l : List Int) (x : Int) (hl : l.length ≤ 1000000000) : ∀ (n i : Nat) (out : List Int), i ≤ l.length → l.length < n + i → out.length ≤ i → r08_wi_L1r l x n out (i : Int) = some (out ++ (l.drop i).filter fun y => !(y == x))
 | 0, i, out, h1, h2, h3 => by omega
 | n + 1, i, out, h1, h2, h3 => by
  unfold r08_wi_L1r r08_wi_L1
  by_cases hi : i < l.length
  · unfold r08_wi_J1
    rw [ite_d (by omega), gt_lt hi, Option.bind_some, dropc hi, List.filter_cons, w64_succ (by omega)]
    by_cases e : l[i] = x
    · have h1' : (l[i] != x) = false := by simp [e]
      have h2' : (!(l[i] == x)) = false := by simp [e]
      rw [h1', h2', if_neg (by simp), if_neg (by simp)]
      exact without_loop l x hl n (i + 1) out (by omega) (by omega) (by omega)
    · have h1' : (l[i] != x) = true := by simpa using e
      have h2' : (!(l[i] == x)) = true := by simpa using e
      rw [h1', h2', if_pos rfl, if_pos rfl, ite_room (by omega), without_loop l x hl n (i + 1) _ (by omega) (by omega) (by simp; omega)]
      simp
  · rw [ite_nd (by omega), dropn hi]
    simp [r08_wi_J2]
theorem without_eq (l : List Int) (x : Int) (hl : l.length ≤ 1000000000) : r08_wi l x = some (l.filter fun y => !(y == x)) := by
 have := without_loop l x hl big 0 [] (by omega) (by have := big_eq; omega) (by simp)
 rw [List.drop_zero] at this
 exact this
def waitsS (x : SThreadSync) (o : Int) : Bool := x.Status == 3 && x.Cond == o
def waitL (o : Int) : Nat → List SThreadSync → List Int
 | _, [] => []
 | i, x :: r => if waitsS x o = true then (i : Int) :: waitL o (i + 1) r else waitL o (i + 1) r
theorem waitL_length (o : Int) (T : List SThreadSync) : ∀ i, (waitL o i T).length ≤ T.length := by
 induction T with
 | nil => intro i; simp [waitL]
 | cons x r ih =>
  intro i
  have := ih (i + 1)
  unfold waitL
  split <;> simp <;> omega
theorem mem_waitL (o : Int) (T : List SThreadSync) : ∀ (i : Nat) (u : Int), u ∈ waitL o i T → (i : Int) ≤ u ∧ u < ((i + T.length : Nat) : Int) := by
 induction T with
 | nil => intro i u h; simp [waitL] at h
 | cons x r ih =>
  intro i u h
  unfold waitL at h
  split at h
  · rcases List.mem_cons.1 h with rfl | h
    · simp; omega
    · have := ih (i + 1) u h; simp at this ⊢; omega
  · have := ih (i + 1) u h; simp at this ⊢; omega
theorem waits_eq (x : SThreadSync) (o : Int) : o_wa x o = some (waitsS x o) := by
 unfold o_wa o_wa_J1 waitsS
 cases (x.Status == 3) <;> simp
theorem Waiting_loop (s : SSync) (o : Int) (hl : s.Threads.length ≤ 1000) : ∀ (n i : Nat) (l : List Int), i ≤ s.Threads.length → s.Threads.length < n + i → l.length ≤ i → r08_Wa_L1r o s n l (i : Int) = some (l ++ waitL o i (s.Threads.drop i))
 | 0, i, l, h1, h2, h3 => by omega
 | n + 1, i, l, h1, h2, h3 => by
  unfold r08_Wa_L1r r08_Wa_L1
  by_cases hi : i < s.Threads.length
  · unfold r08_Wa_J1 r08_Wa_J2
    rw [ite_d (by omega), gt_lt hi, Option.bind_some, dropc hi, waitL, w64_succ (by omega), ite_room (by omega)]
    have a1 := Waiting_loop s o hl n (i + 1) (l ++ [(i : Int)]) (by omega) (by omega) (by simp; omega)
    have a2 := Waiting_loop s o hl n (i + 1) l (by omega) (by omega) (by omega)
    unfold waitsS
    rw [a1, a2]
    cases (s.Threads[i].Status == 3) <;> cases (s.Threads[i].Cond == o) <;> simp
  · rw [ite_nd (by omega), dropn hi]
    simp [r08_Wa_J3, waitL]
theorem Waiting_eq (s : SSync) (o : Int) (hl : s.Threads.length ≤ 1000) : r08_Wa s o = some (waitL o 0 s.Threads) := by
 have := Waiting_loop s o hl big 0 [] (by omega) (by have := big_eq; omega) (by simp)
 rw [List.drop_zero] at this
 exact this
def chooseL (wake : Int) : Int → List Int → Int
 | c, [] => c
 | c, w :: r => chooseL wake (if c < 0 ∨ w = wake then w else c) r
theorem chooseL_pos (wake : Int) (W : List Int) (hW : ∀ w ∈ W, 0 ≤ w) : ∀ c, 0 ≤ c → chooseL wake c W = if W.contains wake = true then wake else c := by
 induction W with
 | nil => intro c _; simp [chooseL]
 | cons w r ih =>
  intro c hc
  have hr := ih (fun w h => hW w (List.mem_cons_of_mem _ h))
  unfold chooseL
  by_cases e : w = wake
  · rw [if_pos (.inr e), hr w (hW w (List.mem_cons_self ..))]
    subst e; simp
  · have e' : ¬ wake = w := fun h => e h.symm
    rw [if_neg (by simp [e]; omega), hr c hc]
    simp [e']
def chosenS (wake : Int) (W : List Int) : Int := if W = [] then -1 else if W.contains wake = true then wake else W.headD 0
theorem chooseL_eq (wake : Int) (W : List Int) (hW : ∀ w ∈ W, 0 ≤ w) : chooseL wake (-1) W = chosenS wake W := by
 cases W with
 | nil => rfl
 | cons w r =>
  unfold chooseL chosenS
  rw [if_pos (.inl (by omega)), chooseL_pos wake r (fun w h => hW w (List.mem_cons_of_mem _ h)) w (hW w (List.mem_cons_self ..)), if_neg (c := w :: r = []) (by simp)]
  by_cases e : wake = w
  · subst e
    have hc : (wake :: r).contains wake = true := by simp
    rw [hc, if_pos rfl]
    split <;> rfl
  · have hc : (w :: r).contains wake = r.contains wake := by simp [e]
    rw [hc]; rfl
theorem notify_loop (T : List SThreadSync) (o wake : Int) (hl : T.length ≤ 1000) : ∀ (n i : Nat) (c : Int), i ≤ T.length → T.length < n + i → o_no_L1r o T wake n c (i : Int) = o_no_J3 T (chooseL wake c (waitL o i (T.drop i)))
 | 0, i, c, h1, h2 => by omega
 | n + 1, i, c, h1, h2 => by
  unfold o_no_L1r o_no_L1
  by_cases hi : i < T.length
  · unfold o_no_J1 o_no_J2
    rw [ite_d (by omega), gt_lt hi, Option.bind_some, waits_eq, Option.bind_some, dropc hi, waitL, w64_succ (by omega)]
    have ih := fun c => notify_loop T o wake hl n (i + 1) c (by omega) (by omega)
    simp only [ih]
    cases waitsS T[i] o with
    | false => simp
    | true =>
     simp only [if_true, chooseL]
     by_cases hc : c < 0
     · simp [hc]
     · by_cases hw : (i : Int) = wake <;> simp [hc, hw]
  · rw [ite_nd (by omega), dropn hi]; rfl
def wokenF (x : SThreadSync) : SThreadSync := ⟨4, x.Cond, x.Atomic⟩
def wakeF (o : Int) (x : SThreadSync) : SThreadSync := if waitsS x o = true then wokenF x else x
theorem notify_eq (tx : Int) (T : List SThreadSync) (o wake : Int) (hl : T.length ≤ 1000) : o_no tx T o wake = some (chosenS wake (waitL o 0 T), if waitL o 0 T = [] then T else T.set (chosenS wake (waitL o 0 T)).toNat (wokenF (ix T (chosenS wake (waitL o 0 T))))) := by
 have h := notify_loop T o wake hl big 0 (-1) (by omega) (by have := big_eq; omega)
 rw [List.drop_zero, chooseL_eq _ _ (fun w hw => (mem_waitL o T 0 w hw).1)] at h
 refine Eq.trans h ?_
 unfold o_no_J3 o_no_J4
 by_cases e : waitL o 0 T = []
 · rw [e]; simp [chosenS]
 · have hm : chosenS wake (waitL o 0 T) ∈ waitL o 0 T := by
    unfold chosenS
    rw [if_neg e]
    split
    · rename_i h; simpa using h
    · cases hW : waitL o 0 T with
      | nil => exact absurd hW e
      | cons w r => simp
   have hb := mem_waitL o T 0 _ hm
   rw [if_neg e, ite_d (by omega), gt_ix (inB_iff.2 (by simpa using hb))]
   rfl
theorem notifyAll_loop (T : List SThreadSync) (o : Int) (hl : T.length ≤ 1000) : ∀ (n i : Nat) (c : Nat), i ≤ T.length → T.length < n + i → c ≤ i →
 o_noAl_L1r o T n ((T.take i).map (wakeF o) ++ T.drop i) (c : Int) (i : Int) = some (((c + (waitL o i (T.drop i)).length : Nat) : Int), T.map (wakeF o))
 | 0, i, c, h1, h2, _ => by omega
 | n + 1, i, c, h1, h2, h3 => by
  unfold o_noAl_L1r o_noAl_L1
  by_cases hi : i < T.length
  · have hlen : ((T.take i).map (wakeF o)).length = i := by simp; omega
    have hx : gt ((T.take i).map (wakeF o) ++ T.drop i) (i : Int) = some T[i] := by
     rw [gt_nat, List.getElem?_append_right (by omega), hlen, Nat.sub_self, dropc hi]; rfl
    unfold o_noAl_J1
    rw [ite_d (by omega), hx, Option.bind_some, waits_eq, Option.bind_some, w64_succ (i := i) (by omega), w64_succ (i := c) (by omega), Int.toNat_natCast]
    have hmap : ∀ y, y = wakeF o T[i] → (T.take i).map (wakeF o) ++ y :: T.drop (i + 1) = (T.take (i + 1)).map (wakeF o) ++ T.drop (i + 1) := by
     rintro y rfl
     rw [← List.take_append_getElem hi, List.map_append]; simp
    have hset : ((T.take i).map (wakeF o) ++ T.drop i).set i (SThreadSync.mk 4 T[i].Cond T[i].Atomic) = (T.take i).map (wakeF o) ++ SThreadSync.mk 4 T[i].Cond T[i].Atomic :: T.drop (i + 1) := by
     rw [List.set_append_right _ _ (by omega), hlen, Nat.sub_self, dropc hi]; rfl
    have hkeep : (T.take i).map (wakeF o) ++ T.drop i = (T.take i).map (wakeF o) ++ T[i] :: T.drop (i + 1) := by rw [← dropc hi]
    rw [hset, hkeep, dropc hi, waitL]
    cases hw : waitsS T[i] o with
    | true =>
     rw [if_pos rfl, if_pos rfl, hmap _ (by simp [wakeF, hw, wokenF]), notifyAll_loop T o hl n (i + 1) (c + 1) (by omega) (by omega) (by omega)]
     congr 3
     simp; omega
    | false =>
     rw [if_neg (by simp), if_neg (by simp), hmap _ (by simp [wakeF, hw]), notifyAll_loop T o hl n (i + 1) c (by omega) (by omega) (by omega)]
  · rw [ite_nd (by omega), dropn hi, List.take_of_length_le (by omega)]
    simp [o_noAl_J2, waitL]
theorem notifyAll_eq (tx : Int) (T : List SThreadSync) (o : Int) (hl : T.length ≤ 1000) : o_noAl tx T o = some (((waitL o 0 T).length : Int), T.map (wakeF o)) := by
 have := notifyAll_loop T o hl big 0 0 (by omega) (by have := big_eq; omega) (by omega)
 simp only [List.take_zero, List.map_nil, List.drop_zero, List.nil_append, Nat.zero_add] at this
 exact this
end Go.Abs
