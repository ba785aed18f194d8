/- WindowSpoils: for every input the law returns true, and its arguments read behind the call as before. The listed package variable starts as the program's text lays it. -/
import Derived.Test.YtdadohkcmclilaaGreatDoorPlainD
import Derived.Test.YtdadohkcmclilaaGreatDoorCards
import Derived.Test.YtdadohkcmclilaaGreatDoorTie
import Derived.Shelf.Slices.SearchI
set_option linter.unusedSimpArgs false
set_option linter.unusedVariables false
namespace Go.Proofs.YtdadohkcmclilaaGreatDoor
open Go.ChangeShapes Go.WideShapes Go.ChangeAt Go.RowKit Go.Abs
namespace windowSpoils
theorem yT (os:Os) (args:Array Value):laidMetH Tryz.prog eC ((World.doorLaid Tryz.prog 400 os).forCall (λ_ _=>0) ⟨#[],args,[]⟩).memory:=
  laidMetH_of_parts3 (fuel:=8) (laidMet_of_run' 8 (by kernel_rfl) (by kernel_rfl)) (by kernel_rfl) (by kernel_rfl)
set_option maxRecDepth 100000 in
theorem lifted (os:Os) (started:os.Started) (H:Type) (enc:TypeId×Value->H):
    ReturnsInHanded {} Tryz.checked os 5 .any (λw args=>(Rows.windowSpoilsSpec.pre enc Tryz.prog Tryz.f5 [] false w args/\laidMetH Tryz.prog eC w)/\sizedMet enc Tryz.prog Tryz.f5 (OpenSpec.ofChange Rows.windowSpoilsSpec) false w args)
      (Rows.windowSpoilsSpec.post enc Tryz.prog Tryz.f5 false true false false):=by
  refine returnsInHanded_of_change_and (C:=Tryz.checked) (X:=λw _=>laidMetH Tryz.prog eC w) (λ_ _ _ hh h=>h.of_heap hh) own0 started (by kernel_rfl) Tryz.func5
    (ChangeSpec.witness_shaped (enc:=enc) (C:=Tryz.checked) (os:=os) (X:=λw _=>laidMetH Tryz.prog eC w) false (World.doorLaid Tryz.prog 400 os) #[.slice none 0 0,.slice none 0 0,.int .u8 0,.int .u8 0,.int .u8 0,.int .u8 0,.int .i8 0] 8 rfl (World.shaped_of_RefB (by kernel_rfl) (by kernel_rfl)) (by kernel_rfl) (by kernel_rfl) (by kernel_rfl) (yT os _)) ?_
  intro W base args ds gs before Bb hW _ hwt hL _;refine Z3 (P:=Tryz.prog) (Xs:=[λHj=>∃x:List Int,Hj=[.sl false 1 (x.map WL)]/\SY x,λHj=>∃x:List Int,Hj=[.sl false 1 (x.map WL)]/\SY x,λHj=>∃x:Int,Hj=[.sc (.int .u8 x)]/\Mo x,λHj=>∃x:Int,Hj=[.sc (.int .u8 x)]/\Mo x,λHj=>∃x:Int,Hj=[.sc (.int .u8 x)]/\Mo x,λHj=>∃x:Int,Hj=[.sc (.int .u8 x)]/\Mo x,λHj=>∃x:Int,Hj=[.sc (.int .i8 x)]/\okI_i8 x]) rfl (by kernel_rfl) Tryz.underlying4 laid ?_ ?_ ?_ ?_ Bb hW hwt (kS hL)
  . rw[Tryz.params5];intro t ht;have:t=22∨t=5∨t=69:=(by simpa using ht);rcases this with rfl|rfl|rfl<;>exact⟨by kernel_rfl,of_decide_eq_true (by kernel_rfl)⟩
  . rw[Tryz.params5];exact⟨op22,⟨op22,⟨op5,⟨op5,⟨op5,⟨op5,⟨op69,trivial⟩⟩⟩⟩⟩⟩⟩
  . rw[Tryz.params5];rintro Hj ⟨a0,r0,rfl,⟨x0,rfl,h0⟩,⟨a1,r1,rfl,⟨x1,rfl,h1⟩,⟨a2,r2,rfl,⟨x2,rfl,h2⟩,⟨a3,r3,rfl,⟨x3,rfl,h3⟩,⟨a4,r4,rfl,⟨x4,rfl,h4⟩,⟨a5,r5,rfl,⟨x5,rfl,h5⟩,⟨a6,r6,rfl,⟨x6,rfl,h6⟩,rfl⟩⟩⟩⟩⟩⟩⟩;rw[arg22,arg22,arg5,arg5,arg5,arg5,arg69];exact Td (WSpoils_law h0 h2 h3 h5)
  . rw[Tryz.params5];intro ds hl;obtain⟨d0,d1,d2,d3,d4,d5,d6,rfl⟩:∃d0 d1 d2 d3 d4 d5 d6,ds=[d0,d1,d2,d3,d4,d5,d6]:=by
      match ds,hl with
      |[d0,d1,d2,d3,d4,d5,d6],_=>exact⟨d0,d1,d2,d3,d4,d5,d6,rfl⟩
    rfl
theorem proved:Rows.WindowSpoilsSaid:=
  OpenClaim.holds_of_wide 5 Tryz.f5 rfl rfl rfl rfl rfl rfl rfl ⟨rfl,rfl,rfl,rfl,rfl⟩ rfl rfl rfl rfl rfl (by kernel_rfl) Tryz.func5 (by kernel_rfl)
    (of_decide_eq_true (by kernel_rfl)) (by unfold Func.isWrapper;first| (rw[if_pos (by decide +kernel)];kernel_rfl)| (rw[if_neg (by decide +kernel)];exact⟨rfl,rfl⟩))
    (λos started H enc _=>lifted os started H enc)
theorem card:Rows.WindowSpoilsCardSaid:=
  Claim7.holds_tied_plain_at .later [] [.data] true (true,"a89a33aa4cdb50a8ea06fd6708924d42f4de187715f037e9ea503831e4e194b5") false
    proved (λ_ h=>by cases h) (by kernel_rfl) (λ_ h=>by cases h) windowSpoils_row_tie rfl ⟨rfl,rfl⟩ (by kernel_rfl) rfl
    (λf fn hf lA=>by obtain rfl:f=5:=Option.some.inj ((show Tryz.prog.funcNamed "interleave/interleavelaw18.WindowSpoils" =some 5 by kernel_rfl).symm.trans hf) |>.symm;obtain rfl:fn=Tryz.f5:=(Option.some.inj (Tryz.func5.symm.trans lA)).symm;exact⟨by kernel_rfl,λj t ht=>by rw[Tryz.params5]at ht;have hm:t∈[22,22,5,5,5,5,69]:=(by simpa using Array.mem_of_getElem? ht);have Ho:([22,22,5,5,5,5,69].all λu=> !Tryz.prog.wantsStandIn u)=true:=(by kernel_rfl);exact(show Tryz.prog.wantsStandIn t=false by simpa using List.all_eq_true.1 Ho t hm)⟩)
    (by kernel_rfl)
#print axioms card
end windowSpoils
end Go.Proofs.YtdadohkcmclilaaGreatDoor
