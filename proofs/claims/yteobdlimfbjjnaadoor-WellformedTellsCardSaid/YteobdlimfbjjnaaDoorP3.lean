/- Worlds: both sides recognize the same ones. -/
import Derived.Test.YteobdlimfbjjnaaDoorP2
import Derived.Test.YteobdlimfbjjnaaDoorTF1
import Derived.Test.YteobdlimfbjjnaaDoorTF2
import Derived.Test.YteobdlimfbjjnaaDoorTF11
namespace Go.Abs
instance : Inhabited SLock := ⟨⟨⟨#[]⟩, false⟩⟩
theorem bytes_inj {a b : ByteArray} : a.toList = b.toList ↔ a = b := by
 constructor
 · intro h
   rw [ByteArray.toList_eq, ByteArray.toList_eq] at h
   exact ByteArray.ext (Array.toList_inj.1 h)
 · exact fun h => h ▸ rfl
theorem ba_beq (a b : ByteArray) : (a == b) = (a.data == b.data) := by cases a; cases b; rfl
theorem beq_bytes (a b : ByteArray) : (a.toList == b.toList) = (a == b) := by
 rw [ba_beq, Bool.eq_iff_iff, beq_iff_eq, beq_iff_eq, ByteArray.toList_eq, ByteArray.toList_eq]; exact Array.toList_inj
theorem cells_inner (wv : SWorld) (L1 : List ByteArray → Int → Option (List ByteArray × Bool)) (L1' : List ByteArray → Int → Option (List ByteArray × Bool)) (F : List ByteArray × Bool → Option (List ByteArray × Bool))
 (hF : F ([], false) = some ([], false)) (hL : ∀ a b, L1 a b = (L1' a b).bind F) (i : Int) (l : List ByteArray) (x : SCell) :
 ∀ (m : Nat) (k : Int) (want : SCell), want.Name = x.Name → want.Size = x.Size → want.Volatile = false → want.Init = x.Init →
  r06_na_L2r L1 i l wv x m k = (c_vaCe_L2r L1' i wv.Cells l x m want k).bind F
 | 0, k, want, _, _, _, _ => rfl
 | m + 1, k, want, e1, e2, e3, e4 => by
  have ih := fun k' => cells_inner wv L1 L1' F hF hL i l x m k' ⟨want.Name, k, want.Size, want.Volatile, want.Init⟩ e1 e2 e3 e4
  unfold r06_na_L2r c_vaCe_L2r r06_na_L2 c_vaCe_L2
  by_cases hk : k < x.Size
  · rw [ite_d hk, ite_d hk]
    cases gt wv.Cells (w64 (i + k)) with
    | none => rfl
    | some y =>
     simp only [Option.bind_some, r06_na_J2, ih, e1, e2, e3, e4]
     by_cases a1 : y.Index = k <;> by_cases a2 : y.Name.toList = x.Name.toList <;> by_cases a3 : y.Size = x.Size <;> by_cases a4 : y.Init = x.Init <;> cases a5 : y.Volatile <;> simp [a1, a2, a3, a4, hF]
  · rw [ite_nd hk, ite_nd hk]
    simp only [r06_na_J3, c_vaCe_J2, hL, e2]
def Fnames (wv : SWorld) : List ByteArray × Bool → Option (List ByteArray × Bool) := fun v => if v.2 = true then r06_na_J4 wv v.1 else some ([], false)
theorem cells_rel (wv : SWorld) (hc : wv.Cells.length ≤ 12) : ∀ (n : Nat) (names : List ByteArray) (i : Int),
 r06_na_L1r wv n names i = (c_vaCe_L1r wv.Cells n names i).bind (Fnames wv)
 | 0, _, _ => rfl
 | n + 1, names, i => by
  have ih := cells_rel wv hc n
  unfold r06_na_L1r c_vaCe_L1r r06_na_L1 c_vaCe_L1
  by_cases hi : i < (wv.Cells.length : Int)
  · rw [ite_d hi, ite_d hi]
    cases hx : gt wv.Cells i with
    | none => rfl
    | some x =>
     simp only [Option.bind_some]
     by_cases hr : roomOK (names.length + 1) 16 = true
     · rw [if_pos hr, if_pos hr]
       by_cases h0 : x.Size = 0
       · simp only [h0, beq_self_eq_true, if_true, ih]
         by_cases h1 : x.Index = 0 <;> simp [h1, Fnames]
       · simp only [h0, beq_iff_eq, if_false, r06_na_J1, c_vaCe_J1]
         by_cases h1 : x.Size < 1
         · simp [h1, Fnames]
         · by_cases h2 : x.Size > 4
           · simp [h1, h2, Fnames]
           · simp only [h1, h2, decide_false, Bool.false_eq_true, if_false]
             have hin := cells_inner wv _ _ (Fnames wv) rfl (fun a b => ih a b) i names x big 0 x rfl rfl
             by_cases h3 : x.Size > w64 ((wv.Cells.length : Int) - i)
             · cases x.Volatile <;> simp [h3, Fnames]
             · simp only [h3, decide_false, Bool.false_eq_true, if_false]
               cases hv : x.Volatile with
               | false => simp only [Bool.false_eq_true, if_false]; exact hin hv rfl
               | true =>
                simp only [if_true]
                have hi0 : 0 ≤ i := by
                 unfold gt at hx
                 by_cases h : 0 ≤ i
                 · exact h
                 · simp [h] at hx
                show r06_na_L2r _ _ _ _ _ big 0 = _
                rw [show big = 18446744073709551615 + 1 from rfl]
                unfold r06_na_L2r r06_na_L2
                rw [ite_d (by omega), w64_of (by omega) (by omega), Int.add_zero, hx]
                simp only [Option.bind_some, r06_na_J2, hv]
                by_cases b1 : x.Index = 0 <;> simp [b1, Fnames]
     · rw [if_neg hr, if_neg hr]; rfl
  · rw [ite_nd hi, ite_nd hi]
    simp [c_vaCe_J3, Fnames]
theorem cells_inner_total (l : List SCell) (hl : l.length ≤ 12) (L1 : List ByteArray → Int → Option (List ByteArray × Bool)) (names : List ByteArray) (x : SCell) (i : Nat) (h1 : 1 ≤ x.Size) (h4 : x.Size ≤ 4) (hs : x.Size ≤ (l.length : Int) - i) (Q : List ByteArray × Bool → Prop) (hQ : Q ([], false))
 (hL : ∃ v, L1 (names ++ [x.Name]) ((i + x.Size.toNat : Nat) : Int) = some v ∧ Q v) :
 ∀ (m k : Nat) (want : SCell), want.Size = x.Size → k ≤ x.Size → x.Size < (m + k : Nat) → ∃ v, c_vaCe_L2r L1 (i : Int) l names x m want (k : Int) = some v ∧ Q v
 | 0, k, want, e, h, h' => by omega
 | m + 1, k, want, e, h, h' => by
  unfold c_vaCe_L2r c_vaCe_L2
  by_cases hk : (k : Int) < x.Size
  · rw [ite_d hk, w64_of (by omega) (by omega), show (i : Int) + (k : Int) = ((i + k : Nat) : Int) from by omega, gt_lt (by omega), Option.bind_some, w64_succ (by omega)]
    split
    · exact ⟨_, rfl, hQ⟩
    · exact cells_inner_total l hl L1 names x i h1 h4 hs Q hQ hL m (k + 1) _ e (by omega) (by omega)
  · rw [ite_nd hk]
    unfold c_vaCe_J2
    rw [e, w64_of (by omega) (by omega), show (i : Int) + x.Size = ((i + x.Size.toNat : Nat) : Int) from by omega]
    exact hL
theorem cells_total (l : List SCell) (hl : l.length ≤ 12) : ∀ (n i : Nat) (names : List ByteArray), i ≤ l.length → l.length < n + i → names.length ≤ i → ∃ v, c_vaCe_L1r l n names (i : Int) = some v ∧ v.1.length ≤ l.length
 | 0, i, names, h1, h2, h3 => by omega
 | n + 1, i, names, h1, h2, h3 => by
  unfold c_vaCe_L1r c_vaCe_L1
  by_cases hi : i < l.length
  · rw [ite_d (by omega), gt_lt hi, Option.bind_some, ite_room (by omega)]
    have hno : ∃ v, some (([], false) : List ByteArray × Bool) = some v ∧ v.1.length ≤ l.length := ⟨_, rfl, by simp⟩
    generalize l[i] = x
    by_cases h0 : x.Size = 0
    · simp only [h0, beq_self_eq_true, if_true]
      rw [w64_succ (by omega)]
      split
      · exact hno
      · exact cells_total l hl n (i + 1) _ (by omega) (by omega) (by simp; omega)
    · simp only [h0, beq_iff_eq, if_false, c_vaCe_J1]
      rw [w64_of (n := (l.length : Int) - i) (by omega) (by omega)]
      by_cases h1 : x.Size < 1
      · simp [h1]
      · by_cases h2 : x.Size > 4
        · simp [h1, h2]
        · by_cases h3 : x.Volatile = true
          · simp [h1, h2, h3]
          · by_cases h5 : x.Size > (l.length : Int) - i
            · simp [h1, h2, h3, h5]
            · simp only [h1, h2, h3, h5, decide_false, Bool.false_eq_true, if_false]
              refine cells_inner_total l hl _ names x i (by omega) (by omega) (by omega) _ (by simp) ?_ big 0 x rfl (by omega) (by have := big_eq; omega)
              exact cells_total l hl n (i + x.Size.toNat) _ (by omega) (by omega) (by simp; omega)
  · rw [ite_nd (by omega)]
    exact ⟨_, rfl, by simp; omega⟩
def namesOf (wv : SWorld) : List ByteArray := wv.Locks.map (·.Name) ++ (wv.Conds.map (·.Name) ++ (wv.Futures ++ wv.Threads))
def chkN : List ByteArray → List ByteArray → Bool
 | _, [] => true
 | seen, x :: r => nameB x && !(seen.any fun y => y == x) && chkN (seen ++ [x]) r
structure Small (wv : SWorld) : Prop where
 c : wv.Cells.length ≤ 12
 l : wv.Locks.length ≤ 4
 d : wv.Conds.length ≤ 2
 f : wv.Futures.length ≤ 2
 t : wv.Threads.length ≤ 4
 s : wv.Sites.length ≤ 60
theorem names_L3 (wv : SWorld) (a : List ByteArray) (hl : (a ++ wv.Futures ++ wv.Threads).length ≤ 1000) : ∀ (n i : Nat) (seen : List ByteArray), i ≤ (a ++ wv.Futures ++ wv.Threads).length → (a ++ wv.Futures ++ wv.Threads).length < n + i →
 c_vaNa_L3r a wv n (i : Int) seen = some (chkN seen ((a ++ wv.Futures ++ wv.Threads).drop i))
 | 0, i, seen, h1, h2 => by omega
 | n + 1, i, seen, h1, h2 => by
  unfold c_vaNa_L3r c_vaNa_L3
  by_cases hi : i < (a ++ wv.Futures ++ wv.Threads).length
  · rw [ite_d (by omega), gt_lt hi, Option.bind_some, token_IsName_eq, Option.bind_some, dropc hi]
    unfold c_vaNa_J3
    rw [w64_succ (by omega), names_L3 wv a hl n (i + 1) _ (by omega) (by omega)]
    generalize (a ++ wv.Futures ++ wv.Threads)[i] = x
    rw [chkN]
    cases nameB x <;> cases hs : (seen.any fun y => y == x) <;> simp
  · rw [ite_nd (by omega), dropn hi]
    rfl
theorem names_J2 (wv : SWorld) (hw : Small wv) (a : List ByteArray) (ha : a.length ≤ 100) : c_vaNa_J2 wv a = some (chkN [] (a ++ (wv.Futures ++ wv.Threads))) := by
 have := hw.f; have := hw.t; have hb := big_eq
 unfold c_vaNa_J2
 rw [ite_room (by omega), ite_room (by simp; omega)]
 have := names_L3 wv a (by simp; omega) big 0 [] (by omega) (by simp; omega)
 rw [List.drop_zero, List.append_assoc] at this
 exact this
theorem names_L2 (wv : SWorld) (hw : Small wv) : ∀ (n i : Nat) (a : List ByteArray), i ≤ wv.Conds.length → wv.Conds.length < n + i → a.length ≤ 50 + i → c_vaNa_L2r wv n a (i : Int) = some (chkN [] (a ++ ((wv.Conds.drop i).map (·.Name) ++ (wv.Futures ++ wv.Threads))))
 | 0, i, a, h1, h2, h3 => by omega
 | n + 1, i, a, h1, h2, h3 => by
  have := hw.d
  unfold c_vaNa_L2r c_vaNa_L2
  by_cases hi : i < wv.Conds.length
  · rw [ite_d (by omega), gt_lt hi, Option.bind_some, ite_room (by omega), w64_succ (by omega), names_L2 wv hw n (i + 1) _ (by omega) (by omega) (by simp; omega), dropc hi]
    simp only [List.map_cons, List.append_assoc, List.cons_append, List.nil_append]
  · rw [ite_nd (by omega), dropn hi, names_J2 wv hw a (by omega)]
    simp
theorem names_L1 (wv : SWorld) (hw : Small wv) : ∀ (n i : Nat) (a : List ByteArray), i ≤ wv.Locks.length → wv.Locks.length < n + i → a.length ≤ 20 + i → c_vaNa_L1r wv n a (i : Int) = some (chkN [] (a ++ ((wv.Locks.drop i).map (·.Name) ++ (wv.Conds.map (·.Name) ++ (wv.Futures ++ wv.Threads)))))
 | 0, i, a, h1, h2, h3 => by omega
 | n + 1, i, a, h1, h2, h3 => by
  have := hw.l; have := hw.d; have hb := big_eq
  unfold c_vaNa_L1r c_vaNa_L1
  by_cases hi : i < wv.Locks.length
  · rw [ite_d (by omega), gt_lt hi, Option.bind_some, ite_room (by omega), w64_succ (by omega), names_L1 wv hw n (i + 1) _ (by omega) (by omega) (by simp; omega), dropc hi]
    simp only [List.map_cons, List.append_assoc, List.cons_append, List.nil_append]
  · rw [ite_nd (by omega), dropn hi]
    unfold c_vaNa_J1
    have := names_L2 wv hw big 0 a (by omega) (by omega) (by omega)
    rw [List.drop_zero] at this
    simpa using this
theorem names_eq (wv : SWorld) (hw : Small wv) (vars : List ByteArray) (hv : vars.length ≤ 12) : c_vaNa wv vars = some (chkN [] (vars ++ namesOf wv)) := by
 have := hw.l; have hb := big_eq
 unfold c_vaNa
 rw [ite_room (by omega)]
 have := names_L1 wv hw big 0 vars (by omega) (by omega) (by omega)
 rw [List.drop_zero] at this
 exact this
theorem rnames_J6 (wv : SWorld) (hw : Small wv) (a : List ByteArray) (ha : a.length ≤ 100) : r06_na_J6 wv a = some (a ++ (wv.Futures ++ wv.Threads), true) := by
 have := hw.f; have := hw.t
 unfold r06_na_J6
 rw [ite_room (by omega), ite_room (by simp; omega), List.append_assoc]
theorem rnames_L4 (wv : SWorld) (hw : Small wv) : ∀ (n i : Nat) (a : List ByteArray), i ≤ wv.Conds.length → wv.Conds.length < n + i → a.length ≤ 50 + i → r06_na_L4r wv n a (i : Int) = some (a ++ ((wv.Conds.drop i).map (·.Name) ++ (wv.Futures ++ wv.Threads)), true)
 | 0, i, a, h1, h2, h3 => by omega
 | n + 1, i, a, h1, h2, h3 => by
  have := hw.d
  unfold r06_na_L4r r06_na_L4
  by_cases hi : i < wv.Conds.length
  · rw [ite_d (by omega), gt_lt hi, Option.bind_some, ite_room (by omega), w64_succ (by omega), rnames_L4 wv hw n (i + 1) _ (by omega) (by omega) (by simp; omega), dropc hi]
    simp only [List.map_cons, List.append_assoc, List.cons_append, List.nil_append]
  · rw [ite_nd (by omega), dropn hi, rnames_J6 wv hw a (by omega)]
    simp
theorem rnames_L3 (wv : SWorld) (hw : Small wv) : ∀ (n i : Nat) (a : List ByteArray), i ≤ wv.Locks.length → wv.Locks.length < n + i → a.length ≤ 20 + i → r06_na_L3r wv n a (i : Int) = some (a ++ ((wv.Locks.drop i).map (·.Name) ++ (wv.Conds.map (·.Name) ++ (wv.Futures ++ wv.Threads))), true)
 | 0, i, a, h1, h2, h3 => by omega
 | n + 1, i, a, h1, h2, h3 => by
  have := hw.l; have := hw.d; have hb := big_eq
  unfold r06_na_L3r r06_na_L3
  by_cases hi : i < wv.Locks.length
  · rw [ite_d (by omega), gt_lt hi, Option.bind_some, ite_room (by omega), w64_succ (by omega), rnames_L3 wv hw n (i + 1) _ (by omega) (by omega) (by simp; omega), dropc hi]
    simp only [List.map_cons, List.append_assoc, List.cons_append, List.nil_append]
  · rw [ite_nd (by omega), dropn hi]
    unfold r06_na_J5
    have := rnames_L4 wv hw big 0 a (by omega) (by omega) (by omega)
    rw [List.drop_zero] at this
    simpa using this
theorem rnames_J4 (wv : SWorld) (hw : Small wv) (a : List ByteArray) (ha : a.length ≤ 12) : r06_na_J4 wv a = some (a ++ namesOf wv, true) := by
 have := hw.l; have hb := big_eq
 unfold r06_na_J4
 have := rnames_L3 wv hw big 0 a (by omega) (by omega) (by omega)
 rw [List.drop_zero] at this
 exact this
theorem at_loop (l : List ByteArray) (x : ByteArray) (hl : l.length ≤ 1000) : ∀ (n i : Nat), i ≤ l.length → l.length < n + i → ∃ r, r04_At_L1r l x n (i : Int) = some r ∧ (0 ≤ r ↔ ((l.drop i).any fun y => y == x) = true)
 | 0, i, h1, h2 => by omega
 | n + 1, i, h1, h2 => by
  unfold r04_At_L1r r04_At_L1
  by_cases hi : i < l.length
  · rw [ite_d (by omega), gt_lt hi, Option.bind_some, w64_succ (by omega), dropc hi, beq_bytes, List.any_cons]
    obtain ⟨r, hr, hr'⟩ := at_loop l x hl n (i + 1) (by omega) (by omega)
    cases hx : (l[i] == x) with
    | true => exact ⟨_, rfl, by simp⟩
    | false => exact ⟨r, by simpa using hr, by simpa using hr'⟩
  · rw [ite_nd (by omega), dropn hi]
    exact ⟨-1, rfl, by simp⟩
theorem at_eq (l : List ByteArray) (x : ByteArray) (hl : l.length ≤ 1000) : ∃ r, r04_At l x = some r ∧ decide (r ≥ 0) = (l.any fun y => y == x) := by
 obtain ⟨r, h1, h2⟩ := at_loop l x hl big 0 (by omega) (by have := big_eq; omega)
 rw [List.drop_zero] at h2
 refine ⟨r, h1, ?_⟩
 cases h : (l.any fun y => y == x) with
 | true => simpa using h2.2 h
 | false =>
  simp only [decide_eq_false_iff_not, ge_iff_le]
  intro hr
  rw [h2.1 hr] at h; cases h
theorem rnames_loop (wv : SWorld) (v : List ByteArray × Bool) (hl : v.1.length ≤ 1000) : ∀ (n i : Nat), i ≤ v.1.length → v.1.length < n + i →
 r06_VaWo_L1r v wv n (i : Int) = if chkN (v.1.take i) (v.1.drop i) = true then r06_VaWo_J3 wv else some false
 | 0, i, h1, h2 => by omega
 | n + 1, i, h1, h2 => by
  unfold r06_VaWo_L1r r06_VaWo_L1
  by_cases hi : i < v.1.length
  · rw [ite_d (by omega), gt_lt hi, Option.bind_some, ref01_IsName_eq, Option.bind_some, dropc hi, if_pos (c := 0 ≤ (i : Int) ∧ (i : Int).toNat ≤ v.1.length) (by simp; omega), Int.toNat_natCast]
    obtain ⟨r, h3, h4⟩ := at_eq (v.1.take i) v.1[i] (by simp; omega)
    rw [h3, Option.bind_some, h4]
    unfold r06_VaWo_J2
    rw [w64_succ (by omega), rnames_loop wv v hl n (i + 1) (by omega) (by omega), chkN, List.take_append_getElem hi]
    cases nameB v.1[i] <;> cases ((v.1.take i).any fun y => y == v.1[i]) <;> simp
  · rw [ite_nd (by omega), dropn hi]
    rfl
def sitesS (nt : Nat) : Int → Int → List SSite → Bool
 | _, _, [] => true
 | t, n, x :: r => if x.Thread < t ∨ x.Thread ≥ nt then false else if x.Thread > t then x.Stmt == 0 && sitesS nt x.Thread 1 r else x.Stmt == n && sitesS nt t (n + 1) r
theorem sites_loop (wv : SWorld) (hw : Small wv) : ∀ (n i : Nat) (t : Int) (nx : Nat), i ≤ wv.Sites.length → wv.Sites.length < n + i → nx ≤ i → c_vaSi_L1r wv n t (nx : Int) (i : Int) = some (sitesS wv.Threads.length t nx (wv.Sites.drop i))
 | 0, i, t, nx, h1, h2, h3 => by omega
 | n + 1, i, t, nx, h1, h2, h3 => by
  have := hw.s
  unfold c_vaSi_L1r c_vaSi_L1
  by_cases hi : i < wv.Sites.length
  · rw [ite_d (by omega), gt_lt hi, Option.bind_some, dropc hi]
    simp only [c_vaSi_J1, c_vaSi_J2]
    rw [w64_succ (i := i) (by omega), w64_succ (i := nx) (by omega), show w64 (0 + 1) = ((1 : Nat) : Int) from rfl]
    rw [sites_loop wv hw n (i + 1) _ (nx + 1) (by omega) (by omega) (by omega), sites_loop wv hw n (i + 1) _ 1 (by omega) (by omega) (by omega)]
    generalize wv.Sites[i] = x
    rw [sitesS]
    by_cases a1 : x.Thread < t
    · simp [a1]
    · by_cases a2 : x.Thread ≥ (wv.Threads.length : Int)
      · simp [a1, a2]
      · by_cases a3 : x.Thread > t
        · by_cases a4 : x.Stmt = 0 <;> simp [a1, a2, a3, a4]
        · by_cases a4 : x.Stmt = (nx : Int) <;> simp [a1, a2, a3, a4]
  · rw [ite_nd (by omega), dropn hi]
    rfl
theorem rsites_loop (wv : SWorld) (hw : Small wv) : ∀ (n i : Nat) (t : Int) (nx : Nat), i ≤ wv.Sites.length → wv.Sites.length < n + i → nx ≤ i → (∀ (h : 0 < i) (h' : i - 1 < wv.Sites.length), t = wv.Sites[i - 1].Thread ∧ (nx : Int) = wv.Sites[i - 1].Stmt + 1) → (i = 0 → t = 0 ∧ nx = 0) → 0 ≤ t →
 r06_VaWo_L3r wv n (i : Int) = some (sitesS wv.Threads.length t nx (wv.Sites.drop i))
 | 0, i, t, nx, h1, h2, h3, _, _, _ => by omega
 | n + 1, i, t, nx, h1, h2, h3, h4, h5, h6 => by
  have := hw.s
  unfold r06_VaWo_L3r r06_VaWo_L3
  by_cases hi : i < wv.Sites.length
  · rw [ite_d (by omega), gt_lt hi, Option.bind_some, dropc hi]
    have ih : ∀ (t' : Int) (nx' : Nat), nx' ≤ i + 1 → (t' = wv.Sites[i].Thread ∧ (nx' : Int) = wv.Sites[i].Stmt + 1) → 0 ≤ t' → r06_VaWo_L3r wv n ((i + 1 : Nat) : Int) = some (sitesS wv.Threads.length t' nx' (wv.Sites.drop (i + 1))) :=
     fun t' nx' a b c => rsites_loop wv hw n (i + 1) t' nx' (by omega) (by omega) a (fun _ _ => b) (by omega) c
    simp only [r06_VaWo_J6, r06_VaWo_J7, r06_VaWo_J8, r06_VaWo_J9]
    rw [w64_succ (i := i) (by omega)]
    rw [sitesS]
    by_cases a0 : wv.Sites[i].Thread < 0
    · have : wv.Sites[i].Thread < t := by omega
      simp [a0, this]
    · by_cases a2 : wv.Sites[i].Thread ≥ (wv.Threads.length : Int)
      · simp [a0, a2]
      · simp only [a0, a2, decide_false, or_false, Bool.false_eq_true, if_false]
        by_cases hz : i = 0
        · subst hz
          obtain ⟨rfl, rfl⟩ := h5 rfl
          simp only [Int.natCast_zero, beq_self_eq_true, if_true, a0, if_false, Int.lt_irrefl, gt_iff_lt, decide_false, Bool.false_eq_true]
          by_cases a4 : wv.Sites[0].Stmt = 0
          · simp only [a4, bne_self_eq_false, Bool.false_eq_true, if_false, beq_self_eq_true, Bool.true_and]
            rw [ih wv.Sites[0].Thread 1 (by omega) ⟨rfl, by simp [a4]⟩ (by omega)]
            split
            · rfl
            · rw [show wv.Sites[0].Thread = 0 from by omega]; rfl
          · simp [a4]
        · have hb : ((i : Int) == 0) = false := by simp; omega
          have hgt : gt wv.Sites (w64 ((i : Int) - 1)) = some wv.Sites[i - 1] := by
           rw [w64_of (by omega) (by omega), show (i : Int) - 1 = ((i - 1 : Nat) : Int) from by omega, gt_lt (by omega)]
          obtain ⟨e1, e2⟩ := h4 (by omega) (by omega)
          have hs : w64 (wv.Sites[i - 1].Stmt + 1) = (nx : Int) := by rw [← e2]; exact w64_of (by omega) (by omega)
          have hp : decide ((i : Int) > 0) = true := by simp; omega
          simp only [hb, hgt, Option.bind_some, Bool.false_eq_true, if_false, hs, ← e1, hp, if_true]
          by_cases a3 : t = wv.Sites[i].Thread
          · have b1 : ¬ wv.Sites[i].Thread < t := by omega
            have b2 : ¬ wv.Sites[i].Thread > t := by omega
            simp only [a3, bne_self_eq_false, Bool.false_eq_true, if_false, Int.lt_irrefl, gt_iff_lt]
            by_cases a4 : wv.Sites[i].Stmt = (nx : Int)
            · simp only [a4, bne_self_eq_false, Bool.false_eq_true, if_false, beq_self_eq_true, Bool.true_and]
              rw [ih wv.Sites[i].Thread (nx + 1) (by omega) ⟨rfl, by omega⟩ (by omega)]
              rfl
            · simp [a4]
          · have hne : (t != wv.Sites[i].Thread) = true := by simpa using a3
            simp only [hne, if_true]
            by_cases a4 : wv.Sites[i].Stmt = 0
            · by_cases a5 : wv.Sites[i].Thread < t
              · simp [a4, a5]
              · have b2 : wv.Sites[i].Thread > t := by omega
                have b3 : ¬ t > wv.Sites[i].Thread := by omega
                simp only [a4, a5, b2, b3, bne_self_eq_false, Bool.false_eq_true, if_false, decide_false, if_true, beq_self_eq_true, Bool.true_and]
                rw [ih wv.Sites[i].Thread 1 (by omega) ⟨rfl, by simp [a4]⟩ (by omega)]
                rfl
            · by_cases a5 : wv.Sites[i].Thread < t
              · simp [a4, a5]
              · have b2 : wv.Sites[i].Thread > t := by omega
                simp [a4, a5, b2]
  · rw [ite_nd (by omega), dropn hi]
    rfl
theorem sites_eq (wv : SWorld) (hw : Small wv) : c_vaSi wv = some (sitesS wv.Threads.length 0 0 wv.Sites) := by
 have := sites_loop wv hw big 0 0 0 (by omega) (by have := hw.s; have := big_eq; omega) (by omega)
 rw [List.drop_zero] at this
 exact this
theorem rsites_eq (wv : SWorld) (hw : Small wv) : r06_VaWo_J5 wv = some (sitesS wv.Threads.length 0 0 wv.Sites) := by
 have := rsites_loop wv hw big 0 0 0 (by omega) (by have := hw.s; have := big_eq; omega) (by omega) (by omega) (by simp) (by omega)
 rw [List.drop_zero] at this
 exact this
def condB (wv : SWorld) (c : SCond) : Bool := inB c.Mutex wv.Locks.length && !(ix wv.Locks c.Mutex).RW
theorem within_eq (i : Int) (n : Nat) : c_wi i (n : Int) = some (inB i n) := by
 unfold c_wi c_wi_J1 inB
 simp only [ge_iff_le]
 cases decide (0 ≤ i) <;> rfl
theorem conds_loop (wv : SWorld) (hw : Small wv) : ∀ (n i : Nat), i ≤ wv.Conds.length → wv.Conds.length < n + i → c_VaWo_L1r wv n (i : Int) = if (wv.Conds.drop i).all (condB wv) = true then some (sitesS wv.Threads.length 0 0 wv.Sites) else some false
 | 0, i, h1, h2 => by omega
 | n + 1, i, h1, h2 => by
  have := hw.d
  unfold c_VaWo_L1r c_VaWo_L1
  by_cases hi : i < wv.Conds.length
  · rw [ite_d (by omega), gt_lt hi, Option.bind_some, dropc hi, w64_succ (by omega), conds_loop wv hw n (i + 1) (by omega) (by omega), List.all_cons]
    generalize wv.Conds[i] = c
    unfold c_isLo
    rw [within_eq, Option.bind_some]
    unfold condB c_isLo_J1
    cases h : inB c.Mutex wv.Locks.length with
    | false => simp
    | true =>
     rw [if_pos rfl, gt_ix h, Option.bind_some, Option.bind_some]
     cases (ix wv.Locks c.Mutex).RW <;> simp
  · rw [ite_nd (by omega), dropn hi]
    unfold c_VaWo_J4
    rw [sites_eq wv hw]; rfl
theorem rconds_loop (wv : SWorld) (hw : Small wv) : ∀ (n i : Nat), i ≤ wv.Conds.length → wv.Conds.length < n + i → r06_VaWo_L2r wv n (i : Int) = if (wv.Conds.drop i).all (condB wv) = true then some (sitesS wv.Threads.length 0 0 wv.Sites) else some false
 | 0, i, h1, h2 => by omega
 | n + 1, i, h1, h2 => by
  have := hw.d
  unfold r06_VaWo_L2r r06_VaWo_L2
  by_cases hi : i < wv.Conds.length
  · unfold r06_VaWo_J4
    rw [ite_d (by omega), gt_lt hi, Option.bind_some, dropc hi, w64_succ (by omega), rconds_loop wv hw n (i + 1) (by omega) (by omega), List.all_cons]
    generalize wv.Conds[i] = c
    unfold condB
    by_cases a1 : c.Mutex < 0
    · have : inB c.Mutex wv.Locks.length = false := by simp [inB]; omega
      simp [a1, this]
    · by_cases a2 : c.Mutex ≥ (wv.Locks.length : Int)
      · have : inB c.Mutex wv.Locks.length = false := by simp [inB]; omega
        simp [a1, a2, this]
      · have h : inB c.Mutex wv.Locks.length = true := by simp [inB]; omega
        rw [ite_nd a1, ite_nd a2, gt_ix h, Option.bind_some, h]
        cases (ix wv.Locks c.Mutex).RW <;> simp
  · rw [ite_nd (by omega), dropn hi]
    exact rsites_eq wv hw
def worldS (wv : SWorld) : Bool := decide (wv.Cells.length ≤ 12) && decide (wv.Locks.length ≤ 4) && decide (wv.Conds.length ≤ 2) && decide (wv.Futures.length ≤ 2) && decide (1 ≤ wv.Threads.length) && decide (wv.Threads.length ≤ 4) && decide (wv.Sites.length ≤ 60) &&
 (match c_vaCe wv.Cells with
 | some v => v.2 && chkN [] (v.1 ++ namesOf wv) && wv.Conds.all (condB wv) && sitesS wv.Threads.length 0 0 wv.Sites
 | none => false)
theorem ValidWorld_eq (wv : SWorld) : c_VaWo wv = some (worldS wv) := by
 unfold c_VaWo c_VaWo_J1
 by_cases a1 : wv.Cells.length ≤ 12
 · by_cases a2 : wv.Locks.length ≤ 4
   · by_cases a3 : wv.Conds.length ≤ 2
     · by_cases a4 : wv.Futures.length ≤ 2
       · by_cases a5 : wv.Sites.length ≤ 60
         · rw [ite_nd (by omega), ite_nd (by omega), ite_nd (by omega), ite_nd (by omega), if_neg (by simp; omega)]
           unfold c_VaWo_J2
           by_cases a6 : 1 ≤ wv.Threads.length
           · by_cases a7 : wv.Threads.length ≤ 4
             · have hw : Small wv := ⟨a1, a2, a3, a4, a7, a5⟩
               obtain ⟨v, hv, hvl⟩ := cells_total wv.Cells a1 big 0 [] (by omega) (by have := big_eq; omega) (by simp)
               have hv' : c_vaCe wv.Cells = some v := hv
               rw [ite_nd (by omega), if_neg (by simp; omega), hv', Option.bind_some]
               have hs : worldS wv = (v.2 && chkN [] (v.1 ++ namesOf wv) && wv.Conds.all (condB wv) && sitesS wv.Threads.length 0 0 wv.Sites) := by
                unfold worldS; rw [hv']; simp [a1, a2, a3, a4, a5, a6, a7]
               rw [hs, names_eq wv hw v.1 (by omega), Option.bind_some]
               unfold c_VaWo_J3
               have hc := conds_loop wv hw big 0 (by omega) (by have := big_eq; omega)
               rw [List.drop_zero] at hc
               rw [show (0 : Int) = ((0 : Nat) : Int) from rfl, hc]
               cases v.2 <;> cases chkN [] (v.1 ++ namesOf wv) <;> cases wv.Conds.all (condB wv) <;> simp
             · rw [ite_nd (by omega), if_pos (by simp; omega)]
               simp [worldS, a7]
           · rw [ite_d (by omega), if_pos rfl]
             simp [worldS, a6]
         · rw [ite_nd (by omega), ite_nd (by omega), ite_nd (by omega), ite_nd (by omega), if_pos (by simp; omega)]
           simp [worldS, a5]
       · rw [ite_nd (by omega), ite_nd (by omega), ite_nd (by omega), ite_d (by omega), if_pos rfl]
         simp [worldS, a4]
     · rw [ite_nd (by omega), ite_nd (by omega), ite_d (by omega), if_pos rfl]
       simp [worldS, a3]
   · rw [ite_nd (by omega), ite_d (by omega), if_pos rfl]
     simp [worldS, a2]
 · rw [ite_d (by omega), if_pos rfl]
   simp [worldS, a1]
theorem rValidWorld_eq (wv : SWorld) : r06_VaWo wv = some (worldS wv) := by
 unfold r06_VaWo r06_VaWo_J1
 by_cases a1 : wv.Cells.length ≤ 12
 · by_cases a2 : wv.Locks.length ≤ 4
   · by_cases a3 : wv.Conds.length ≤ 2
     · by_cases a4 : wv.Futures.length ≤ 2
       · by_cases a6 : 1 ≤ wv.Threads.length
         · by_cases a7 : wv.Threads.length ≤ 4
           · by_cases a5 : wv.Sites.length ≤ 60
             · have hw : Small wv := ⟨a1, a2, a3, a4, a7, a5⟩
               obtain ⟨v, hv, hvl⟩ := cells_total wv.Cells a1 big 0 [] (by omega) (by have := big_eq; omega) (by simp)
               have hv' : c_vaCe wv.Cells = some v := hv
               rw [ite_nd (by omega), ite_nd (by omega), ite_nd (by omega), ite_nd (by omega), ite_nd (by omega), ite_nd (by omega), if_neg (by simp; omega)]
               have hs : worldS wv = (v.2 && chkN [] (v.1 ++ namesOf wv) && wv.Conds.all (condB wv) && sitesS wv.Threads.length 0 0 wv.Sites) := by
                unfold worldS; rw [hv']; simp [a1, a2, a3, a4, a5, a6, a7]
               have hn : r06_na wv = Fnames wv v := by
                have := cells_rel wv a1 big [] 0
                rw [show (0 : Int) = ((0 : Nat) : Int) from rfl, hv] at this
                exact this
               rw [hn, hs]
               unfold Fnames
               have hc := rconds_loop wv hw big 0 (by omega) (by have := big_eq; omega)
               rw [List.drop_zero] at hc
               cases hv2 : v.2 with
               | false => simp
               | true =>
                rw [if_pos rfl, rnames_J4 wv hw v.1 (by omega), Option.bind_some, if_neg (by simp)]
                have hlen : (v.1 ++ namesOf wv).length ≤ 1000 := by simp [namesOf]; omega
                have hr := rnames_loop wv (v.1 ++ namesOf wv, true) hlen big 0 (by omega) (by have := big_eq; simp only; omega)
                rw [List.take_zero, List.drop_zero] at hr
                rw [show (0 : Int) = ((0 : Nat) : Int) from rfl, hr]
                unfold r06_VaWo_J3
                rw [show (0 : Int) = ((0 : Nat) : Int) from rfl, hc]
                cases chkN [] (v.1 ++ namesOf wv) <;> cases wv.Conds.all (condB wv) <;> simp
             · rw [ite_nd (by omega), ite_nd (by omega), ite_nd (by omega), ite_nd (by omega), ite_nd (by omega), ite_nd (by omega), if_pos (by simp; omega)]
               simp [worldS, a5]
           · rw [ite_nd (by omega), ite_nd (by omega), ite_nd (by omega), ite_nd (by omega), ite_nd (by omega), ite_d (by omega), if_pos rfl]
             simp [worldS, a7]
         · rw [ite_nd (by omega), ite_nd (by omega), ite_nd (by omega), ite_nd (by omega), ite_d (by omega), if_pos rfl]
           simp [worldS, a6]
       · rw [ite_nd (by omega), ite_nd (by omega), ite_nd (by omega), ite_d (by omega), if_pos rfl]
         simp [worldS, a4]
     · rw [ite_nd (by omega), ite_nd (by omega), ite_d (by omega), if_pos rfl]
       simp [worldS, a3]
   · rw [ite_nd (by omega), ite_d (by omega), if_pos rfl]
     simp [worldS, a2]
 · rw [ite_d (by omega), if_pos rfl]
   simp [worldS, a1]
theorem worldS_small {wv : SWorld} (h : worldS wv = true) : Small wv := by
 unfold worldS at h
 simp only [Bool.and_eq_true, decide_eq_true_eq] at h
 obtain ⟨⟨⟨⟨⟨⟨⟨h1, h2⟩, h3⟩, h4⟩, h5⟩, h6⟩, h7⟩, h8⟩ := h
 exact ⟨h1, h2, h3, h4, h6, h7⟩
end Go.Abs
