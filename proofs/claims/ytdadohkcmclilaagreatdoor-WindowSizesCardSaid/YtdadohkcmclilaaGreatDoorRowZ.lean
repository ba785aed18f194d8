/- WindowSizes: for every input the law returns true, and its arguments read behind the call as before. The listed package variable starts as the program's text lays it. -/
import Derived.Test.YtdadohkcmclilaaGreatDoorPlainD
import Derived.Test.YtdadohkcmclilaaGreatDoorCards
import Derived.Test.YtdadohkcmclilaaGreatDoorTie
import Derived.Shelf.Slices.SearchI
set_option linter.unusedSimpArgs false
set_option linter.unusedVariables false
namespace Go.Proofs.YtdadohkcmclilaaGreatDoor
open Go.ChangeShapes Go.WideShapes Go.ChangeAt Go.RowKit Go.Abs
namespace windowSizes
theorem u7 (os:Os) (args:Array Value):laidMetH Tryz.prog bT ((World.doorLaid Tryz.prog 400 os).forCall (λ_ _=>0) ⟨#[],args,[]⟩).memory:=
  laidMetH_of_parts3 (fuel:=8) (laidMet_of_run' 8 (by kernel_rfl) (by kernel_rfl)) (by kernel_rfl) (by kernel_rfl)
set_option maxRecDepth 100000 in
theorem lifted (os:Os) (started:os.Started) (H:Type) (enc:TypeId×Value->H):
    ReturnsInHanded {} Tryz.checked os 6 .any (λw args=>(Rows.windowSizesSpec.pre enc Tryz.prog Tryz.f6 [] false w args/\laidMetH Tryz.prog bT w)/\sizedMet enc Tryz.prog Tryz.f6 (OpenSpec.ofChange Rows.windowSizesSpec) false w args)
      (Rows.windowSizesSpec.post enc Tryz.prog Tryz.f6 false true false false):=by
  refine returnsInHanded_of_change_and (C:=Tryz.checked) (X:=λw _=>laidMetH Tryz.prog bT w) (λ_ _ _ hh h=>h.of_heap hh) own0 started (by kernel_rfl) Tryz.func6
    (ChangeSpec.witness_shaped (enc:=enc) (C:=Tryz.checked) (os:=os) (X:=λw _=>laidMetH Tryz.prog bT w) false (World.doorLaid Tryz.prog 400 os) #[.slice none 0 0,.slice none 0 0,.int .u8 0] 8 rfl (World.shaped_of_RefB (by kernel_rfl) (by kernel_rfl)) (by kernel_rfl) (by kernel_rfl) (by kernel_rfl) (u7 os _)) ?_
  intro W base args ds gs before BP hW _ hwt hL _
  refine ZJ (P:=Tryz.prog) (Xs:=[λDt=>∃x:List Int,Dt=[.sl false 1 (x.map YL)]/\Yi x,λDt=>∃x:List Int,Dt=[.sl false 1 (x.map YL)]/\Yi x,λDt=>∃x:Int,Dt=[.sc (.int .u8 x)]/\WR x]) rfl (by kernel_rfl) Tryz.underlying4 laid ?_ ?_ ?_ ?_ BP hW hwt (gD hL)
  . rw[Tryz.params6];intro t ht
    have:t=22∨t=5:=by simpa using ht
    rcases this with rfl|rfl<;>exact⟨by kernel_rfl,of_decide_eq_true (by kernel_rfl)⟩
  . rw[Tryz.params6];exact⟨op22,⟨op22,⟨op5,trivial⟩⟩⟩
  . rw[Tryz.params6]
    rintro Dt ⟨a0,r0,rfl,⟨x0,rfl,h0⟩,⟨a1,r1,rfl,⟨x1,rfl,h1⟩,⟨a2,r2,rfl,⟨x2,rfl,h2⟩,rfl⟩⟩⟩
    rw[arg22,arg22,arg5]
    exact XS (WSizes_law h0 h2)
  . rw[Tryz.params6]
    intro ds hl
    obtain⟨d0,d1,d2,rfl⟩:∃d0 d1 d2,ds=[d0,d1,d2]:=by
      match ds,hl with
      |[d0,d1,d2],_=>exact⟨d0,d1,d2,rfl⟩
    rfl
theorem proved:Rows.WindowSizesSaid:=
  OpenClaim.holds_of_wide 6 Tryz.f6 rfl rfl rfl rfl rfl rfl rfl ⟨rfl,rfl,rfl,rfl,rfl⟩ rfl rfl rfl rfl rfl (by kernel_rfl) Tryz.func6 (by kernel_rfl)
    (of_decide_eq_true (by kernel_rfl)) (by unfold Func.isWrapper;first| (rw[if_pos (by decide +kernel)];kernel_rfl)| (rw[if_neg (by decide +kernel)];exact⟨rfl,rfl⟩))
    (λos started H enc _=>lifted os started H enc)
theorem card:Rows.WindowSizesCardSaid:=
  Claim7.holds_tied_plain_at .later [] [.data] true (true,"a89a33aa4cdb50a8ea06fd6708924d42f4de187715f037e9ea503831e4e194b5") false
    proved (λ_ h=>by cases h) (by kernel_rfl) (λ_ h=>by cases h) windowSizes_row_tie rfl ⟨rfl,rfl⟩ (by kernel_rfl) rfl
    (λf fn hf gO=>by
      obtain rfl:f=6:=Option.some.inj ((show Tryz.prog.funcNamed "interleave/interleavelaw18.WindowSizes" =some 6 by kernel_rfl).symm.trans hf) |>.symm
      obtain rfl:fn=Tryz.f6:=(Option.some.inj (Tryz.func6.symm.trans gO)).symm
      exact⟨by kernel_rfl,λj t ht=>by
        rw[Tryz.params6]at ht
        have hm:t∈[22,22,5]:=by simpa using Array.mem_of_getElem? ht
        have Hm:([22,22,5].all λu=> !Tryz.prog.wantsStandIn u)=true:=by kernel_rfl
        exact(show Tryz.prog.wantsStandIn t=false by simpa using List.all_eq_true.1 Hm t hm)⟩)
    (by kernel_rfl)
#print axioms card
end windowSizes
end Go.Proofs.YtdadohkcmclilaaGreatDoor
