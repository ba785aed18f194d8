/- WellformedRuns: for every input the law returns true, and its arguments read behind the call as before. The listed package variable starts as the program's text lays it. -/
import Derived.Test.YtkpdblcoclbgbaaGreatDoorPlainC
import Derived.Test.YtkpdblcoclbgbaaGreatDoorWalkJ
import Derived.Test.YtkpdblcoclbgbaaGreatDoorCards
import Derived.Test.YtkpdblcoclbgbaaGreatDoorTie
import Derived.Shelf.Slices.SearchI
set_option linter.unusedSimpArgs false
set_option linter.unusedVariables false
namespace Go.Proofs.YtkpdblcoclbgbaaGreatDoor
open Go.ChangeShapes Go.WideShapes Go.ChangeAt Go.RowKit Go.Abs
namespace wellformedRuns
theorem bY (os:Os) (args:Array Value):laidMetH Tryz.prog VM ((World.doorLaid Tryz.prog 400 os).forCall (λ_ _=>0) ⟨#[],args,[]⟩).memory:=
  laidMetH_of_parts3 (fuel:=8) (laidMet_of_run' 8 (by kernel_rfl) (by kernel_rfl)) (by kernel_rfl) (by kernel_rfl)
set_option maxRecDepth 100000 in
theorem lifted (os:Os) (started:os.Started) (H:Type) (enc:TypeId×Value->H):
    ReturnsInHanded {} Tryz.checked os 3 .any (λw args=>(Rows.wellformedRunsSpec.pre enc Tryz.prog Tryz.f3 [] false w args/\laidMetH Tryz.prog VM w)/\sizedMet enc Tryz.prog Tryz.f3 (OpenSpec.ofChange Rows.wellformedRunsSpec) false w args)
      (Rows.wellformedRunsSpec.post enc Tryz.prog Tryz.f3 false true false false):=by
  refine returnsInHanded_of_change_and (C:=Tryz.checked) (X:=λw _=>laidMetH Tryz.prog VM w) (λ_ _ _ hh h=>h.of_heap hh) own0 started (by kernel_rfl) Tryz.func3
    (ChangeSpec.witness_shaped (enc:=enc) (C:=Tryz.checked) (os:=os) (X:=λw _=>laidMetH Tryz.prog VM w) false (World.doorLaid Tryz.prog 400 os) #[.slice none 0 0,.slice none 0 0] 8 rfl (World.shaped_of_RefB (by kernel_rfl) (by kernel_rfl)) (by kernel_rfl) (by kernel_rfl) (by kernel_rfl) (bY os _)) ?_
  intro W base args ds gs before hval hW _ hwt hL _
  refine Tu (P:=Tryz.prog) (Xs:=[λavs=>∃x:List Int,avs=[.sl false 1 (x.map UN)]/\Kc x,λavs=>∃x:List Int,avs=[.sl false 1 (x.map UN)]/\Kc x]) rfl (by kernel_rfl) Tryz.underlying4 laid ?_ ?_ ?_ ?_ hval hW hwt (Wp hL)
  . rw[Tryz.params3];intro t ht
    have:t=22:=by simpa using ht
    rcases this with rfl<;>exact⟨by kernel_rfl,of_decide_eq_true (by kernel_rfl)⟩
  . rw[Tryz.params3];exact⟨uK,⟨uK,trivial⟩⟩
  . rw[Tryz.params3]
    rintro avs ⟨a0,r0,rfl,⟨x0,rfl,h0⟩,⟨a1,r1,rfl,⟨x1,rfl,h1⟩,rfl⟩⟩
    rw[kR,kR]
    exact fP (Runs_law h0)
  . rw[Tryz.params3]
    intro ds hl
    obtain⟨d0,d1,rfl⟩:∃d0 d1,ds=[d0,d1]:=by
      match ds,hl with
      |[d0,d1],_=>exact⟨d0,d1,rfl⟩
    rfl
theorem proved:Rows.WellformedRunsSaid:=
  OpenClaim.holds_of_wide 3 Tryz.f3 rfl rfl rfl rfl rfl rfl rfl ⟨rfl,rfl,rfl,rfl,rfl⟩ rfl rfl rfl rfl rfl (by kernel_rfl) Tryz.func3 (by kernel_rfl)
    (of_decide_eq_true (by kernel_rfl)) (by unfold Func.isWrapper;first| (rw[if_pos (by decide +kernel)];kernel_rfl)| (rw[if_neg (by decide +kernel)];exact⟨rfl,rfl⟩))
    (λos started H enc _=>lifted os started H enc)
theorem card:Rows.WellformedRunsCardSaid:=
  Claim7.holds_tied_plain_at .later [] [.data] true (true,"348bece73726898a879926ce140adf6e0500480a15dbfdc87f433f8be4c5fa89") false
    proved (λ_ h=>by cases h) (by kernel_rfl) (λ_ h=>by cases h) wellformedRuns_row_tie rfl ⟨rfl,rfl⟩ (by kernel_rfl) rfl
    (λf fn hf hfn=>by
      obtain rfl:f=3:=Option.some.inj ((show Tryz.prog.funcNamed "interleave/interleavelaw17.WellformedRuns" =some 3 by kernel_rfl).symm.trans hf) |>.symm
      obtain rfl:fn=Tryz.f3:=(Option.some.inj (Tryz.func3.symm.trans hfn)).symm
      exact⟨by kernel_rfl,λj t ht=>by
        rw[Tryz.params3]at ht
        have hm:t∈[22,22]:=by simpa using Array.mem_of_getElem? ht
        have hall:([22,22].all λu=> !Tryz.prog.wantsStandIn u)=true:=by kernel_rfl
        exact(show Tryz.prog.wantsStandIn t=false by simpa using List.all_eq_true.1 hall t hm)⟩)
    (by kernel_rfl)
#print axioms card
end wellformedRuns
end Go.Proofs.YtkpdblcoclbgbaaGreatDoor
