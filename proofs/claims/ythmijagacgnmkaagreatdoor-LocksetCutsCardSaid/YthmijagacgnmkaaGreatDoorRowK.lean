/- LocksetCuts: for every input the law returns true, and its arguments read behind the call as before. The listed package variable starts as the program's text lays it. -/
import Derived.Test.YthmijagacgnmkaaGreatDoorPlainD
import Derived.Test.YthmijagacgnmkaaGreatDoorCards
import Derived.Test.YthmijagacgnmkaaGreatDoorTie
set_option linter.unusedSimpArgs false
set_option linter.unusedVariables false
namespace Go.Proofs.YthmijagacgnmkaaGreatDoor
open Go.ChangeShapes Go.WideShapes Go.ChangeAt Go.RowKit Go.Abs
namespace locksetCuts
theorem door_met (os:Os) (args:Array Value):laidMetH Tryz.prog jX ((World.doorLaid Tryz.prog 400 os).forCall (λ_ _=>0) ⟨#[],args,[]⟩).memory:=
  laidMetH_of_parts3 (fuel:=8) (laidMet_of_run' 8 (by kernel_rfl) (by kernel_rfl)) (by kernel_rfl) (by kernel_rfl)
set_option maxRecDepth 100000 in
theorem lifted (os:Os) (started:os.Started) (H:Type) (enc:TypeId×Value->H):
    ReturnsInHanded {} Tryz.checked os 13 .any (λw args=>(Rows.locksetCutsSpec.pre enc Tryz.prog Tryz.f13 [] false w args/\laidMetH Tryz.prog jX w)/\sizedMet enc Tryz.prog Tryz.f13 (OpenSpec.ofChange Rows.locksetCutsSpec) false w args)
      (Rows.locksetCutsSpec.post enc Tryz.prog Tryz.f13 false true false false):=by
  refine returnsInHanded_of_change_and (C:=Tryz.checked) (X:=λw _=>laidMetH Tryz.prog jX w) (λ_ _ _ hh h=>h.of_heap hh) own0 started (by kernel_rfl) Tryz.func13
    (ChangeSpec.witness_shaped (enc:=enc) (C:=Tryz.checked) (os:=os) (X:=λw _=>laidMetH Tryz.prog jX w) false (World.doorLaid Tryz.prog 400 os) #[.agg #[.slice none 0 0,.slice none 0 0,.slice none 0 0],.int .u8 0] 8 rfl (World.shaped_of_RefB (by kernel_rfl) (by kernel_rfl)) (by kernel_rfl) (by kernel_rfl) (by kernel_rfl) (door_met os _)) ?_
  intro W base args ds gs before Bi hW _ hwt hL _;refine eF (P:=Tryz.prog) (Xs:=[λHq=>∃x:Uf,Hq=sJ x/\okRun x,λHq=>∃x:Int,Hq=[.sc (.int .u8 x)]/\SO x]) rfl (by kernel_rfl) Tryz.underlying4 laid ?_ ?_ ?_ ?_ Bi hW hwt (oB hL)
  . rw[Tryz.params13];intro t ht;have:t=24∨t=5:=(by simpa using ht);rcases this with rfl|rfl<;>exact⟨by kernel_rfl,of_decide_eq_true (by kernel_rfl)⟩
  . rw[Tryz.params13];exact⟨op24,⟨op5,trivial⟩⟩
  . rw[Tryz.params13];rintro Hq ⟨a0,r0,rfl,⟨x0,rfl,h0⟩,⟨a1,r1,rfl,⟨x1,rfl,h1⟩,rfl⟩⟩;rw[arg24,arg5];exact YK (LCuts_law h0 h1)
  . rw[Tryz.params13];intro ds hl;obtain⟨d0,d1,rfl⟩:∃d0 d1,ds=[d0,d1]:=by
      match ds,hl with
      |[d0,d1],_=>exact⟨d0,d1,rfl⟩
    rfl
theorem f4:(Rows.locksetCutsRow.lifted==Tryz.prog.liftsFinal)=true:=by rw[rb4];rfl
theorem f5:(Rows.locksetCutsRow.plainKeys==Tryz.prog.plainKeys)=true:=by rw[rb5];rfl
theorem f6:(Rows.locksetCutsRow.recurses==Tryz.prog.recurses 13)=true:=by kernel_rfl
theorem f7:(Rows.locksetCutsRow.named==Tryz.prog.varsNamed 13)=true:=by kernel_rfl
theorem f8:(Rows.locksetCutsRow.unfollowed==Tryz.prog.unfollowed 13)=true:=by kernel_rfl
theorem f9:(Rows.locksetCutsRow.inPlace==Tryz.prog.inPlace 13)=true:=by kernel_rfl
theorem closed:joinedFacts Tryz.prog 13 Tryz.f13 Rows.locksetCutsSpec Rows.locksetCutsRow=true:=by
  unfold joinedFacts;simp only[rb0,rb1,rb2,rb3,f4,f5,f6,f7,f8,f9,Bool.and_true,Bool.true_and]
  kernel_rfl
theorem proved:Rows.LocksetCutsSaid:=
  OpenClaim.holds_of_wide 13 Tryz.f13 rfl rfl rfl rfl rfl rfl rfl ⟨rfl,rfl,rfl,rfl,rfl⟩ rfl rfl rfl rfl rfl (by kernel_rfl) Tryz.func13 closed
    (of_decide_eq_true (by kernel_rfl)) (by unfold Func.isWrapper;first| (rw[if_pos (by decide +kernel)];kernel_rfl)| (rw[if_neg (by decide +kernel)];exact⟨rfl,rfl⟩))
    (λos started H enc _=>lifted os started H enc)
theorem g0:Rows.locksetCutsRow.wfByText (OpenSpec.ofChange Rows.locksetCutsSpec)=true:=by kernel_rfl
theorem g2:false=Rows.locksetCutsRow.goesBy Tryz.prog:=by kernel_rfl
theorem card:Rows.LocksetCutsCardSaid:=
  Claim7.holds_tied_plain_at .later [] [.data] true (true,"d451a204984a6844bee374a30dabfb0cecc037902d4d03ac54b8394056717808") false
    proved (λ_ h=>by cases h) g0 (λ_ h=>by cases h) locksetCuts_row_tie rfl ⟨rfl,rfl⟩ rb6 rfl
    (λf fn hf hfn=>by obtain rfl:f=13:=Option.some.inj ((show Tryz.prog.funcNamed "interleave/interleavelaw28.LocksetCuts" =some 13 by kernel_rfl).symm.trans hf) |>.symm;obtain rfl:fn=Tryz.f13:=(Option.some.inj (Tryz.func13.symm.trans hfn)).symm;exact⟨rb7,λj t ht=>by rw[Tryz.params13]at ht;have hm:t∈[24,5]:=(by simpa using Array.mem_of_getElem? ht);have Ie:([24,5].all λu=> !Tryz.prog.wantsStandIn u)=true:=(by kernel_rfl);exact(show Tryz.prog.wantsStandIn t=false by simpa using List.all_eq_true.1 Ie t hm)⟩)
    g2
#print axioms card
end locksetCuts
end Go.Proofs.YthmijagacgnmkaaGreatDoor
