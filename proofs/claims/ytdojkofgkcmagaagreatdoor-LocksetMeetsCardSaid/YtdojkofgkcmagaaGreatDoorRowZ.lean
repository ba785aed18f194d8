/- LocksetMeets: for every input the law returns true, and its arguments read behind the call as before. The listed package variable starts as the program's text lays it. -/
import Derived.Test.YtdojkofgkcmagaaGreatDoorPlainE
import Derived.Test.YtdojkofgkcmagaaGreatDoorCards
import Derived.Test.YtdojkofgkcmagaaGreatDoorTie
set_option linter.unusedSimpArgs false
set_option linter.unusedVariables false
namespace Go.Proofs.YtdojkofgkcmagaaGreatDoor
open Go.ChangeShapes Go.WideShapes Go.ChangeAt Go.RowKit Go.Abs
namespace locksetMeets
theorem door_met (os:Os) (args:Array Value):laidMetH Tryz.prog oG ((World.doorLaid Tryz.prog 400 os).forCall (λ_ _=>0) ⟨#[],args,[]⟩).memory:=
  laidMetH_of_parts3 (fuel:=8) (laidMet_of_run' 8 (by kernel_rfl) (by kernel_rfl)) (by kernel_rfl) (by kernel_rfl)
set_option maxRecDepth 100000 in
theorem lifted (os:Os) (started:os.Started) (H:Type) (enc:TypeId×Value->H):
    ReturnsInHanded {} Tryz.checked os 5 .any (λw args=>(Rows.locksetMeetsSpec.pre enc Tryz.prog Tryz.f5 [] false w args/\laidMetH Tryz.prog oG w)/\sizedMet enc Tryz.prog Tryz.f5 (OpenSpec.ofChange Rows.locksetMeetsSpec) false w args)
      (Rows.locksetMeetsSpec.post enc Tryz.prog Tryz.f5 false true false false):=by
  refine returnsInHanded_of_change_and (C:=Tryz.checked) (X:=λw _=>laidMetH Tryz.prog oG w) (λ_ _ _ hh h=>h.of_heap hh) own0 started (by kernel_rfl) Tryz.func5
    (ChangeSpec.witness_shaped (enc:=enc) (C:=Tryz.checked) (os:=os) (X:=λw _=>laidMetH Tryz.prog oG w) false (World.doorLaid Tryz.prog 400 os) #[.agg #[.slice none 0 0,.slice none 0 0,.slice none 0 0,.int .u8 0,.int .u8 0],.slice none 0 0] 8 rfl (World.shaped_of_RefB (by kernel_rfl) (by kernel_rfl)) (by kernel_rfl) (by kernel_rfl) (by kernel_rfl) (door_met os _)) ?_
  intro W base args ds gs before B0 hW _ hwt hL _;refine jR (P:=Tryz.prog) (Xs:=[λIE=>∃x:Kk,IE=Yx x/\jY x,λIE=>∃x:List Int,IE=[.sl false 1 (x.map eI)]/\okL_I_i64 x]) rfl (by kernel_rfl) Tryz.underlying4 laid ?_ ?_ ?_ ?_ B0 hW hwt (sX hL)
  . rw[Tryz.params5];intro t ht;have:t=24∨t=38:=(by simpa using ht);rcases this with rfl|rfl<;>exact⟨by kernel_rfl,of_decide_eq_true (by kernel_rfl)⟩
  . rw[Tryz.params5];exact⟨op24,⟨op38,trivial⟩⟩
  . rw[Tryz.params5];rintro IE ⟨a0,r0,rfl,⟨x0,rfl,h0⟩,⟨a1,r1,rfl,⟨x1,rfl,h1⟩,rfl⟩⟩;rw[arg24,arg38];exact X3 (LMeets_law h0)
  . rw[Tryz.params5];intro ds hl;obtain⟨d0,d1,rfl⟩:∃d0 d1,ds=[d0,d1]:=by
      match ds,hl with
      |[d0,d1],_=>exact⟨d0,d1,rfl⟩
    rfl
theorem f4:(Rows.locksetMeetsRow.lifted==Tryz.prog.liftsFinal)=true:=by rw[rb4];rfl
theorem f5:(Rows.locksetMeetsRow.plainKeys==Tryz.prog.plainKeys)=true:=by rw[rb5];rfl
theorem f6:(Rows.locksetMeetsRow.recurses==Tryz.prog.recurses 5)=true:=by kernel_rfl
theorem f7:(Rows.locksetMeetsRow.named==Tryz.prog.varsNamed 5)=true:=by kernel_rfl
theorem f8:(Rows.locksetMeetsRow.unfollowed==Tryz.prog.unfollowed 5)=true:=by kernel_rfl
theorem f9:(Rows.locksetMeetsRow.inPlace==Tryz.prog.inPlace 5)=true:=by kernel_rfl
theorem closed:joinedFacts Tryz.prog 5 Tryz.f5 Rows.locksetMeetsSpec Rows.locksetMeetsRow=true:=by
  unfold joinedFacts;simp only[rb0,rb1,rb2,rb3,f4,f5,f6,f7,f8,f9,Bool.and_true,Bool.true_and]
  kernel_rfl
theorem proved:Rows.LocksetMeetsSaid:=
  OpenClaim.holds_of_wide 5 Tryz.f5 rfl rfl rfl rfl rfl rfl rfl ⟨rfl,rfl,rfl,rfl,rfl⟩ rfl rfl rfl rfl rfl (by kernel_rfl) Tryz.func5 closed
    (of_decide_eq_true (by kernel_rfl)) (by unfold Func.isWrapper;first| (rw[if_pos (by decide +kernel)];kernel_rfl)| (rw[if_neg (by decide +kernel)];exact⟨rfl,rfl⟩))
    (λos started H enc _=>lifted os started H enc)
theorem g0:Rows.locksetMeetsRow.wfByText (OpenSpec.ofChange Rows.locksetMeetsSpec)=true:=by kernel_rfl
theorem g2:false=Rows.locksetMeetsRow.goesBy Tryz.prog:=by kernel_rfl
theorem card:Rows.LocksetMeetsCardSaid:=
  Claim7.holds_tied_plain_at .later [] [.data] true (true,"8a42790257e1b6008a5a8b49b99a48ba9345b5ac028b326e59bb36f246f00561") false
    proved (λ_ h=>by cases h) g0 (λ_ h=>by cases h) locksetMeets_row_tie rfl ⟨rfl,rfl⟩ rb6 rfl
    (λf fn hf qI=>by obtain rfl:f=5:=Option.some.inj ((show Tryz.prog.funcNamed "interleave/interleavelaw28.LocksetMeets" =some 5 by kernel_rfl).symm.trans hf) |>.symm;obtain rfl:fn=Tryz.f5:=(Option.some.inj (Tryz.func5.symm.trans qI)).symm;exact⟨rb7,λj t ht=>by rw[Tryz.params5]at ht;have hm:t∈[24,38]:=(by simpa using Array.mem_of_getElem? ht);have Hy:([24,38].all λu=> !Tryz.prog.wantsStandIn u)=true:=(by kernel_rfl);exact(show Tryz.prog.wantsStandIn t=false by simpa using List.all_eq_true.1 Hy t hm)⟩)
    g2
#print axioms card
end locksetMeets
end Go.Proofs.YtdojkofgkcmagaaGreatDoor
