/- What comes in, as typed values. -/
import Derived.Test.YteobdlimfbjjnaaDoorCoreD
import Derived.Test.YteobdlimfbjjnaaDoorTB
import Derived.Test.YteobdlimfbjjnaaDoorRows
import Derived.Test.YteobdlimfbjjnaaDoorTie
import Derived.ProofKit
import Derived.LaidMore
import Derived.OpenShut
namespace Go.Abs
open Go.Proofs Go.RowKit
set_option maxRecDepth 100000
set_option maxHeartbeats 4000000
theorem rows_map {α : Type} {e : α → List AV} {ok : α → Prop} : ∀ (rows : List (List AV)), (∀ row ∈ rows, ∃ x : α, row = e x ∧ ok x) → ∃ l : List α, rows = l.map e ∧ ∀ x ∈ l, ok x
 | [], _ => ⟨[], rfl, fun _ h => by simp at h⟩
 | r :: rs, h => by
  obtain ⟨l, hl, ho⟩ := rows_map rs (fun row hr => h row (by simp [hr]))
  obtain ⟨x, hx, hxo⟩ := h r (by simp)
  refine ⟨x :: l, by rw [hx, hl]; rfl, fun y hy => ?_⟩
  rcases List.mem_cons.1 hy with rfl | hy
  · exact hxo
  · exact ho y hy
def okS (x : ByteArray) : Prop := x.size ≤ reachBytes
def okI_i64 (x : Int) : Prop := (Lit.int .i64 x).wf = true
def okB (_ : Bool) : Prop := True
structure okCell (x : SCell) : Prop where
 f0 : okS x.Name
 f1 : okI_i64 x.Index
 f2 : okI_i64 x.Size
 f3 : okB x.Volatile
 f4 : okI_i64 x.Init
structure okL_Cell (x : List SCell) : Prop where
 len : x.length * 48 ≤ reachBytes
 all : ∀ y ∈ x, okCell y
structure okLock (x : SLock) : Prop where
 f0 : okS x.Name
 f1 : okB x.RW
structure okL_Lock (x : List SLock) : Prop where
 len : x.length * 24 ≤ reachBytes
 all : ∀ y ∈ x, okLock y
structure okCond (x : SCond) : Prop where
 f0 : okS x.Name
 f1 : okI_i64 x.Mutex
structure okL_Cond (x : List SCond) : Prop where
 len : x.length * 24 ≤ reachBytes
 all : ∀ y ∈ x, okCond y
structure okL_S (x : List ByteArray) : Prop where
 len : x.length * 16 ≤ reachBytes
 all : ∀ y ∈ x, okS y
structure okSite (x : SSite) : Prop where
 f0 : okI_i64 x.Thread
 f1 : okI_i64 x.Stmt
 f2 : okI_i64 x.Line
structure okL_Site (x : List SSite) : Prop where
 len : x.length * 24 ≤ reachBytes
 all : ∀ y ∈ x, okSite y
structure okWorld (x : SWorld) : Prop where
 f0 : okL_Cell x.Cells
 f1 : okL_Lock x.Locks
 f2 : okL_Cond x.Conds
 f3 : okL_S x.Futures
 f4 : okL_S x.Threads
 f5 : okL_Site x.Sites
structure okL_I_i64 (x : List Int) : Prop where
 len : x.length * 8 ≤ reachBytes
 all : ∀ y ∈ x, okI_i64 y
structure okEvent (x : SEvent) : Prop where
 f0 : okI_i64 x.Thread
 f1 : okI_i64 x.Kind
 f2 : okI_i64 x.Obj
 f3 : okI_i64 x.Value
 f4 : okI_i64 x.Site
 f5 : okL_I_i64 x.Deps
 f6 : okL_I_i64 x.From
structure okL_Event (x : List SEvent) : Prop where
 len : x.length * 88 ≤ reachBytes
 all : ∀ y ∈ x, okEvent y
structure okTrace (x : STrace) : Prop where
 f0 : okWorld x.World
 f1 : okL_Event x.Events
theorem op9 : Opens Tryd.prog 9 (fun avs => ∃ x : ByteArray, avs = eS x ∧ okS x) := (opens_string Tryd.underlying9).mono fun _ ⟨s, h, hs⟩ => ⟨s, h, hs⟩
theorem arg9 (a : AV) : argAV Tryd.prog 9 [a] = a := by unfold argAV; rw [Tryd.underlying9]; rfl
theorem op3 : Opens Tryd.prog 3 (fun avs => ∃ x : Int, avs = eI x ∧ okI_i64 x) := (opens_int Tryd.underlying3).mono fun _ ⟨n, h, hw⟩ => ⟨n, h, hw⟩
theorem arg3 (a : AV) : argAV Tryd.prog 3 [a] = a := by unfold argAV; rw [Tryd.underlying3]; rfl
theorem op4 : Opens Tryd.prog 4 (fun avs => ∃ x : Bool, avs = eB x ∧ okB x) := (opens_bool Tryd.underlying4).mono fun _ ⟨b, h⟩ => ⟨b, h, trivial⟩
theorem arg4 (a : AV) : argAV Tryd.prog 4 [a] = a := by unfold argAV; rw [Tryd.underlying4]; rfl
theorem op2 : Opens Tryd.prog 2 (fun avs => ∃ x : Int, avs = eI x ∧ okI_i64 x) := (opens_int Tryd.underlying2).mono fun _ ⟨n, h, hw⟩ => ⟨n, h, hw⟩
theorem arg2 (a : AV) : argAV Tryd.prog 2 [a] = a := by unfold argAV; rw [Tryd.underlying2]; rfl
theorem op63 : Opens Tryd.prog 63 (fun avs => ∃ x : SCell, avs = eCell x ∧ okCell x) := by
 refine (opens_struct (Xs := [fun avs => ∃ x : ByteArray, avs = eS x ∧ okS x, fun avs => ∃ x : Int, avs = eI x ∧ okI_i64 x, fun avs => ∃ x : Int, avs = eI x ∧ okI_i64 x, fun avs => ∃ x : Bool, avs = eB x ∧ okB x, fun avs => ∃ x : Int, avs = eI x ∧ okI_i64 x]) Tryd.underlying63 ⟨by kernel_rfl, op9, ⟨by kernel_rfl, op3, ⟨by kernel_rfl, op3, ⟨by kernel_rfl, op4, ⟨by kernel_rfl, op2, trivial⟩⟩⟩⟩⟩ (by kernel_rfl)).mono ?_
 rintro avs ⟨a0, r0, rfl, ⟨x0, rfl, h0⟩, ⟨a1, r1, rfl, ⟨x1, rfl, h1⟩, ⟨a2, r2, rfl, ⟨x2, rfl, h2⟩, ⟨a3, r3, rfl, ⟨x3, rfl, h3⟩, ⟨a4, r4, rfl, ⟨x4, rfl, h4⟩, rfl⟩⟩⟩⟩⟩
 exact ⟨⟨x0, x1, x2, x3, x4⟩, rfl, ⟨h0, h1, h2, h3, h4⟩⟩
theorem arg63 (avs : List AV) : argAV Tryd.prog 63 avs = .agg avs := by unfold argAV; rw [Tryd.underlying63]; rfl
theorem op22 : Opens Tryd.prog 22 (fun avs => ∃ x : List SCell, avs = [.sl false 5 (x.map eCell)] ∧ okL_Cell x) := by
 refine (opens_slice (k := 5) Tryd.underlying22 (by kernel_rfl) (by omega) op63).mono ?_
 rintro avs ⟨rows, rfl, hr, hb⟩
 obtain ⟨l, rfl, hl⟩ := rows_map (e := eCell) (ok := okCell) rows fun row h => (hr row h).1
 have hby : Tryd.prog.bytesOf 63 = 48 := by kernel_rfl
 rw [hby, List.length_map] at hb
 exact ⟨l, rfl, hb, hl⟩
theorem arg22 (a : AV) : argAV Tryd.prog 22 [a] = a := by unfold argAV; rw [Tryd.underlying22]; rfl
theorem op78 : Opens Tryd.prog 78 (fun avs => ∃ x : SLock, avs = eLock x ∧ okLock x) := by
 refine (opens_struct (Xs := [fun avs => ∃ x : ByteArray, avs = eS x ∧ okS x, fun avs => ∃ x : Bool, avs = eB x ∧ okB x]) Tryd.underlying78 ⟨by kernel_rfl, op9, ⟨by kernel_rfl, op4, trivial⟩⟩ (by kernel_rfl)).mono ?_
 rintro avs ⟨a0, r0, rfl, ⟨x0, rfl, h0⟩, ⟨a1, r1, rfl, ⟨x1, rfl, h1⟩, rfl⟩⟩
 exact ⟨⟨x0, x1⟩, rfl, ⟨h0, h1⟩⟩
theorem arg78 (avs : List AV) : argAV Tryd.prog 78 avs = .agg avs := by unfold argAV; rw [Tryd.underlying78]; rfl
theorem op23 : Opens Tryd.prog 23 (fun avs => ∃ x : List SLock, avs = [.sl false 2 (x.map eLock)] ∧ okL_Lock x) := by
 refine (opens_slice (k := 2) Tryd.underlying23 (by kernel_rfl) (by omega) op78).mono ?_
 rintro avs ⟨rows, rfl, hr, hb⟩
 obtain ⟨l, rfl, hl⟩ := rows_map (e := eLock) (ok := okLock) rows fun row h => (hr row h).1
 have hby : Tryd.prog.bytesOf 78 = 24 := by kernel_rfl
 rw [hby, List.length_map] at hb
 exact ⟨l, rfl, hb, hl⟩
theorem arg23 (a : AV) : argAV Tryd.prog 23 [a] = a := by unfold argAV; rw [Tryd.underlying23]; rfl
theorem op59 : Opens Tryd.prog 59 (fun avs => ∃ x : SCond, avs = eCond x ∧ okCond x) := by
 refine (opens_struct (Xs := [fun avs => ∃ x : ByteArray, avs = eS x ∧ okS x, fun avs => ∃ x : Int, avs = eI x ∧ okI_i64 x]) Tryd.underlying59 ⟨by kernel_rfl, op9, ⟨by kernel_rfl, op3, trivial⟩⟩ (by kernel_rfl)).mono ?_
 rintro avs ⟨a0, r0, rfl, ⟨x0, rfl, h0⟩, ⟨a1, r1, rfl, ⟨x1, rfl, h1⟩, rfl⟩⟩
 exact ⟨⟨x0, x1⟩, rfl, ⟨h0, h1⟩⟩
theorem arg59 (avs : List AV) : argAV Tryd.prog 59 avs = .agg avs := by unfold argAV; rw [Tryd.underlying59]; rfl
theorem op24 : Opens Tryd.prog 24 (fun avs => ∃ x : List SCond, avs = [.sl false 2 (x.map eCond)] ∧ okL_Cond x) := by
 refine (opens_slice (k := 2) Tryd.underlying24 (by kernel_rfl) (by omega) op59).mono ?_
 rintro avs ⟨rows, rfl, hr, hb⟩
 obtain ⟨l, rfl, hl⟩ := rows_map (e := eCond) (ok := okCond) rows fun row h => (hr row h).1
 have hby : Tryd.prog.bytesOf 59 = 24 := by kernel_rfl
 rw [hby, List.length_map] at hb
 exact ⟨l, rfl, hb, hl⟩
theorem arg24 (a : AV) : argAV Tryd.prog 24 [a] = a := by unfold argAV; rw [Tryd.underlying24]; rfl
theorem op25 : Opens Tryd.prog 25 (fun avs => ∃ x : List ByteArray, avs = [.sl false 1 (x.map eS)] ∧ okL_S x) := by
 refine (opens_slice (k := 1) Tryd.underlying25 (by kernel_rfl) (by omega) op9).mono ?_
 rintro avs ⟨rows, rfl, hr, hb⟩
 obtain ⟨l, rfl, hl⟩ := rows_map (e := eS) (ok := okS) rows fun row h => (hr row h).1
 have hby : Tryd.prog.bytesOf 9 = 16 := by kernel_rfl
 rw [hby, List.length_map] at hb
 exact ⟨l, rfl, hb, hl⟩
theorem arg25 (a : AV) : argAV Tryd.prog 25 [a] = a := by unfold argAV; rw [Tryd.underlying25]; rfl
theorem op80 : Opens Tryd.prog 80 (fun avs => ∃ x : SSite, avs = eSite x ∧ okSite x) := by
 refine (opens_struct (Xs := [fun avs => ∃ x : Int, avs = eI x ∧ okI_i64 x, fun avs => ∃ x : Int, avs = eI x ∧ okI_i64 x, fun avs => ∃ x : Int, avs = eI x ∧ okI_i64 x]) Tryd.underlying80 ⟨by kernel_rfl, op3, ⟨by kernel_rfl, op3, ⟨by kernel_rfl, op3, trivial⟩⟩⟩ (by kernel_rfl)).mono ?_
 rintro avs ⟨a0, r0, rfl, ⟨x0, rfl, h0⟩, ⟨a1, r1, rfl, ⟨x1, rfl, h1⟩, ⟨a2, r2, rfl, ⟨x2, rfl, h2⟩, rfl⟩⟩⟩
 exact ⟨⟨x0, x1, x2⟩, rfl, ⟨h0, h1, h2⟩⟩
theorem arg80 (avs : List AV) : argAV Tryd.prog 80 avs = .agg avs := by unfold argAV; rw [Tryd.underlying80]; rfl
theorem op26 : Opens Tryd.prog 26 (fun avs => ∃ x : List SSite, avs = [.sl false 3 (x.map eSite)] ∧ okL_Site x) := by
 refine (opens_slice (k := 3) Tryd.underlying26 (by kernel_rfl) (by omega) op80).mono ?_
 rintro avs ⟨rows, rfl, hr, hb⟩
 obtain ⟨l, rfl, hl⟩ := rows_map (e := eSite) (ok := okSite) rows fun row h => (hr row h).1
 have hby : Tryd.prog.bytesOf 80 = 24 := by kernel_rfl
 rw [hby, List.length_map] at hb
 exact ⟨l, rfl, hb, hl⟩
theorem arg26 (a : AV) : argAV Tryd.prog 26 [a] = a := by unfold argAV; rw [Tryd.underlying26]; rfl
theorem op28 : Opens Tryd.prog 28 (fun avs => ∃ x : SWorld, avs = eWorld x ∧ okWorld x) := by
 refine (opens_struct (Xs := [fun avs => ∃ x : List SCell, avs = [.sl false 5 (x.map eCell)] ∧ okL_Cell x, fun avs => ∃ x : List SLock, avs = [.sl false 2 (x.map eLock)] ∧ okL_Lock x, fun avs => ∃ x : List SCond, avs = [.sl false 2 (x.map eCond)] ∧ okL_Cond x, fun avs => ∃ x : List ByteArray, avs = [.sl false 1 (x.map eS)] ∧ okL_S x, fun avs => ∃ x : List ByteArray, avs = [.sl false 1 (x.map eS)] ∧ okL_S x, fun avs => ∃ x : List SSite, avs = [.sl false 3 (x.map eSite)] ∧ okL_Site x]) Tryd.underlying28 ⟨by kernel_rfl, op22, ⟨by kernel_rfl, op23, ⟨by kernel_rfl, op24, ⟨by kernel_rfl, op25, ⟨by kernel_rfl, op25, ⟨by kernel_rfl, op26, trivial⟩⟩⟩⟩⟩⟩ (by kernel_rfl)).mono ?_
 rintro avs ⟨a0, r0, rfl, ⟨x0, rfl, h0⟩, ⟨a1, r1, rfl, ⟨x1, rfl, h1⟩, ⟨a2, r2, rfl, ⟨x2, rfl, h2⟩, ⟨a3, r3, rfl, ⟨x3, rfl, h3⟩, ⟨a4, r4, rfl, ⟨x4, rfl, h4⟩, ⟨a5, r5, rfl, ⟨x5, rfl, h5⟩, rfl⟩⟩⟩⟩⟩⟩
 exact ⟨⟨x0, x1, x2, x3, x4, x5⟩, rfl, ⟨h0, h1, h2, h3, h4, h5⟩⟩
theorem arg28 (avs : List AV) : argAV Tryd.prog 28 avs = .agg avs := by unfold argAV; rw [Tryd.underlying28]; rfl
theorem op44 : Opens Tryd.prog 44 (fun avs => ∃ x : List Int, avs = [.sl false 1 (x.map eI)] ∧ okL_I_i64 x) := by
 refine (opens_slice (k := 1) Tryd.underlying44 (by kernel_rfl) (by omega) op3).mono ?_
 rintro avs ⟨rows, rfl, hr, hb⟩
 obtain ⟨l, rfl, hl⟩ := rows_map (e := eI) (ok := okI_i64) rows fun row h => (hr row h).1
 have hby : Tryd.prog.bytesOf 3 = 8 := by kernel_rfl
 rw [hby, List.length_map] at hb
 exact ⟨l, rfl, hb, hl⟩
theorem arg44 (a : AV) : argAV Tryd.prog 44 [a] = a := by unfold argAV; rw [Tryd.underlying44]; rfl
theorem op50 : Opens Tryd.prog 50 (fun avs => ∃ x : SEvent, avs = eEvent x ∧ okEvent x) := by
 refine (opens_struct (Xs := [fun avs => ∃ x : Int, avs = eI x ∧ okI_i64 x, fun avs => ∃ x : Int, avs = eI x ∧ okI_i64 x, fun avs => ∃ x : Int, avs = eI x ∧ okI_i64 x, fun avs => ∃ x : Int, avs = eI x ∧ okI_i64 x, fun avs => ∃ x : Int, avs = eI x ∧ okI_i64 x, fun avs => ∃ x : List Int, avs = [.sl false 1 (x.map eI)] ∧ okL_I_i64 x, fun avs => ∃ x : List Int, avs = [.sl false 1 (x.map eI)] ∧ okL_I_i64 x]) Tryd.underlying50 ⟨by kernel_rfl, op3, ⟨by kernel_rfl, op3, ⟨by kernel_rfl, op3, ⟨by kernel_rfl, op2, ⟨by kernel_rfl, op3, ⟨by kernel_rfl, op44, ⟨by kernel_rfl, op44, trivial⟩⟩⟩⟩⟩⟩⟩ (by kernel_rfl)).mono ?_
 rintro avs ⟨a0, r0, rfl, ⟨x0, rfl, h0⟩, ⟨a1, r1, rfl, ⟨x1, rfl, h1⟩, ⟨a2, r2, rfl, ⟨x2, rfl, h2⟩, ⟨a3, r3, rfl, ⟨x3, rfl, h3⟩, ⟨a4, r4, rfl, ⟨x4, rfl, h4⟩, ⟨a5, r5, rfl, ⟨x5, rfl, h5⟩, ⟨a6, r6, rfl, ⟨x6, rfl, h6⟩, rfl⟩⟩⟩⟩⟩⟩⟩
 exact ⟨⟨x0, x1, x2, x3, x4, x5, x6⟩, rfl, ⟨h0, h1, h2, h3, h4, h5, h6⟩⟩
theorem arg50 (avs : List AV) : argAV Tryd.prog 50 avs = .agg avs := by unfold argAV; rw [Tryd.underlying50]; rfl
theorem op29 : Opens Tryd.prog 29 (fun avs => ∃ x : List SEvent, avs = [.sl false 7 (x.map eEvent)] ∧ okL_Event x) := by
 refine (opens_slice (k := 7) Tryd.underlying29 (by kernel_rfl) (by omega) op50).mono ?_
 rintro avs ⟨rows, rfl, hr, hb⟩
 obtain ⟨l, rfl, hl⟩ := rows_map (e := eEvent) (ok := okEvent) rows fun row h => (hr row h).1
 have hby : Tryd.prog.bytesOf 50 = 88 := by kernel_rfl
 rw [hby, List.length_map] at hb
 exact ⟨l, rfl, hb, hl⟩
theorem arg29 (a : AV) : argAV Tryd.prog 29 [a] = a := by unfold argAV; rw [Tryd.underlying29]; rfl
theorem op31 : Opens Tryd.prog 31 (fun avs => ∃ x : STrace, avs = eTrace x ∧ okTrace x) := by
 refine (opens_struct (Xs := [fun avs => ∃ x : SWorld, avs = eWorld x ∧ okWorld x, fun avs => ∃ x : List SEvent, avs = [.sl false 7 (x.map eEvent)] ∧ okL_Event x]) Tryd.underlying31 ⟨by kernel_rfl, op28, ⟨by kernel_rfl, op29, trivial⟩⟩ (by kernel_rfl)).mono ?_
 rintro avs ⟨a0, r0, rfl, ⟨x0, rfl, h0⟩, ⟨a1, r1, rfl, ⟨x1, rfl, h1⟩, rfl⟩⟩
 exact ⟨⟨x0, x1⟩, rfl, ⟨h0, h1⟩⟩
theorem arg31 (avs : List AV) : argAV Tryd.prog 31 avs = .agg avs := by unfold argAV; rw [Tryd.underlying31]; rfl
theorem laid : laidOutB Tryd.prog = true := by kernel_rfl
theorem own0 : ownKnob Tryd.prog.godebug = none := by kernel_rfl
abbrev laidL : List (String × DataW Unit) := [("interleave/token.keywords", Go.Proofs.YteobdlimfbjjnaaDoor.Rows.laid_interleave_token_keywords)]
theorem gName : Tryd.prog.globalNamed "interleave/token.keywords" = some 0 := by kernel_rfl
theorem gType : (Tryd.prog.globals[0]?).map (·.type) = some 109 := by kernel_rfl
theorem laidDatum : (Go.Proofs.YteobdlimfbjjnaaDoor.Rows.laid_interleave_token_keywords : DataW Unit) = .agg (gamS0.map fun s => .lit (.string s.data.toList)) := rfl
theorem gi_of_laid {W : World} (h : laidMetH Tryd.prog laidL W) : GI W (Old W) := by
 rw [MakeChecks.laidMetH_plain _ _ _ (by kernel_rfl)] at h
 obtain ⟨ps, ⟨g0, t0, cs0, f0, p0, q0, hg0, ht0, hv0, hd0, _, _⟩, _, _⟩ := h
 obtain rfl := Option.some.inj (gName.symm.trans hg0)
 obtain rfl := Option.some.inj (gType.symm.trans ht0)
 obtain ⟨xs, m, rfl, hx, hlen, hn, hel⟩ := DataW.trod_array Tryd.underlying109 hd0
 have ce : Tryd.prog.cellsOf 9 = 1 := by kernel_rfl
 rw [laidDatum] at hx
 simp only [Prod.mk.injEq, DataW.agg.injEq] at hx
 have hcell : ∀ (j : Nat) s, gamS0[j]? = some s → W.cell? ⟨0, j, none⟩ = some (.string s) := by
  intro j s hj
  have hjn : j < 22 := by
   have := (List.getElem?_eq_some_iff.1 hj).1
   exact this
  have hxj : (xs.map (·.1))[j]? = some (.lit (.string s.data.toList)) := by rw [← hx.1, List.getElem?_map, hj]; rfl
  rw [List.getElem?_map] at hxj
  cases hxs : xs[j]? with
  | none => rw [hxs] at hxj; cases hxj
  | some y =>
   have ht := hel j hjn
   rw [hxs, ce] at ht
   obtain ⟨s', hs', hy, _⟩ := DataW.trod_string Tryd.underlying9 ht
   rw [hxs] at hxj
   simp only [Option.map_some, Option.some.injEq] at hxj
   rw [hy] at hxj
   simp only [DataW.lit.injEq, Lit.string.injEq] at hxj
   have hss : s' = s := ByteArray.ext (Array.toList_inj.1 hxj)
   subst hss
   rw [World.var?_cell gName hv0 j]
   have : (cs0.toList.drop (j * 1)).take 1 = [.string s'] := hs'
   rw [Nat.mul_one] at this
   have h0 : cs0.toList[j]? = some (.string s') := by
    have h1 : ((cs0.toList.drop j).take 1)[0]? = some (.string s') := by rw [this]; rfl
    simpa using h1
   simpa using h0
 intro x hxm
 have : x = (0, gamS0.map Value.string) := by simpa [Gam] using hxm
 subst this
 have h0 := hcell 0 _ rfl
 obtain ⟨_, hlt⟩ := cell_lt h0
 refine ⟨hlt, ?_⟩
 unfold World.cell? at h0
 cases hb : W.heap[0]? with
 | none => simp [hb] at h0
 | some blk =>
  cases blk with
  | cells arr E fz =>
   refine ⟨arr, E, fz, rfl, fun j v hj => ?_⟩
   rw [List.getElem?_map] at hj
   cases hs : gamS0[j]? with
   | none => rw [hs] at hj; cases hj
   | some s =>
    rw [hs] at hj
    simp only [Option.map_some, Option.some.injEq] at hj
    subst hj
    have := hcell j s hs
    unfold World.cell? at this
    simpa [hb] using this
  | _ => simp [hb] at h0
end Go.Abs
