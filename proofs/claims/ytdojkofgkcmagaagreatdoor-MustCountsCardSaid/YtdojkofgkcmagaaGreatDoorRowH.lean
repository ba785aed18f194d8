/- MustCounts: for every input the law returns true, and its arguments read behind the call as before. The listed package variable starts as the program's text lays it. -/
import Derived.Test.YtdojkofgkcmagaaGreatDoorPlainE
import Derived.Test.YtdojkofgkcmagaaGreatDoorCards
import Derived.Test.YtdojkofgkcmagaaGreatDoorTie
import Derived.Shelf.Slices.SearchI
set_option linter.unusedSimpArgs false
set_option linter.unusedVariables false
namespace Go.Proofs.YtdojkofgkcmagaaGreatDoor
open Go.ChangeShapes Go.WideShapes Go.ChangeAt Go.RowKit Go.Abs
namespace mustCounts
theorem door_met (os:Os) (args:Array Value):laidMetH Tryz.prog nS ((World.doorLaid Tryz.prog 400 os).forCall (λ_ _=>0) ⟨#[],args,[]⟩).memory:=
  laidMetH_of_parts3 (fuel:=8) (laidMet_of_run' 8 (by kernel_rfl) (by kernel_rfl)) (by kernel_rfl) (by kernel_rfl)
set_option maxRecDepth 100000 in
theorem lifted (os:Os) (started:os.Started) (H:Type) (enc:TypeId×Value->H):
    ReturnsInHanded {} Tryz.checked os 13 .any (λw args=>(Rows.mustCountsSpec.pre enc Tryz.prog Tryz.f13 [] false w args/\laidMetH Tryz.prog nS w)/\sizedMet enc Tryz.prog Tryz.f13 (OpenSpec.ofChange Rows.mustCountsSpec) false w args)
      (Rows.mustCountsSpec.post enc Tryz.prog Tryz.f13 false true false false):=by
  refine returnsInHanded_of_change_and (C:=Tryz.checked) (X:=λw _=>laidMetH Tryz.prog nS w) (λ_ _ _ hh h=>h.of_heap hh) own0 started (by kernel_rfl) Tryz.func13
    (ChangeSpec.witness_shaped (enc:=enc) (C:=Tryz.checked) (os:=os) (X:=λw _=>laidMetH Tryz.prog nS w) false (World.doorLaid Tryz.prog 400 os) #[.agg #[.slice none 0 0,.slice none 0 0,.slice none 0 0,.int .u8 0,.int .u8 0]] 8 rfl (World.shaped_of_RefB (by kernel_rfl) (by kernel_rfl)) (by kernel_rfl) (by kernel_rfl) (by kernel_rfl) (door_met os _)) ?_
  intro W base args ds gs before CB hW _ qU hL _;refine iX (P:=Tryz.prog) (Xs:=[λEg=>∃x:O1,Eg=lF x/\okView x]) rfl (by kernel_rfl) Tryz.underlying4 laid ?_ ?_ ?_ ?_ CB hW qU (sV hL)
  . rw[Tryz.params13];intro t ht;have:t=24:=(by simpa using ht);rcases this with rfl<;>exact⟨by kernel_rfl,of_decide_eq_true (by kernel_rfl)⟩
  . rw[Tryz.params13];exact⟨op24,trivial⟩
  . rw[Tryz.params13];rintro Eg ⟨a0,r0,rfl,⟨x0,rfl,h0⟩,rfl⟩;rw[arg24];exact bW (MCounts_law h0)
  . rw[Tryz.params13];intro ds hl;obtain⟨d0,rfl⟩:∃d0,ds=[d0]:=by
      match ds,hl with
      |[d0],_=>exact⟨d0,rfl⟩
    rfl
theorem f4:(Rows.mustCountsRow.lifted==Tryz.prog.liftsFinal)=true:=by rw[rb4];rfl
theorem f5:(Rows.mustCountsRow.plainKeys==Tryz.prog.plainKeys)=true:=by rw[rb5];rfl
theorem f6:(Rows.mustCountsRow.recurses==Tryz.prog.recurses 13)=true:=by kernel_rfl
theorem f7:(Rows.mustCountsRow.named==Tryz.prog.varsNamed 13)=true:=by kernel_rfl
theorem f8:(Rows.mustCountsRow.unfollowed==Tryz.prog.unfollowed 13)=true:=by kernel_rfl
theorem f9:(Rows.mustCountsRow.inPlace==Tryz.prog.inPlace 13)=true:=by kernel_rfl
theorem closed:joinedFacts Tryz.prog 13 Tryz.f13 Rows.mustCountsSpec Rows.mustCountsRow=true:=by
  unfold joinedFacts;simp only[rb0,rb1,rb2,rb3,f4,f5,f6,f7,f8,f9,Bool.and_true,Bool.true_and]
  kernel_rfl
theorem proved:Rows.MustCountsSaid:=
  OpenClaim.holds_of_wide 13 Tryz.f13 rfl rfl rfl rfl rfl rfl rfl ⟨rfl,rfl,rfl,rfl,rfl⟩ rfl rfl rfl rfl rfl (by kernel_rfl) Tryz.func13 closed
    (of_decide_eq_true (by kernel_rfl)) (by unfold Func.isWrapper;first| (rw[if_pos (by decide +kernel)];kernel_rfl)| (rw[if_neg (by decide +kernel)];exact⟨rfl,rfl⟩))
    (λos started H enc _=>lifted os started H enc)
theorem g0:Rows.mustCountsRow.wfByText (OpenSpec.ofChange Rows.mustCountsSpec)=true:=by kernel_rfl
theorem g2:false=Rows.mustCountsRow.goesBy Tryz.prog:=by kernel_rfl
theorem card:Rows.MustCountsCardSaid:=
  Claim7.holds_tied_plain_at .later [] [.data] true (true,"8a42790257e1b6008a5a8b49b99a48ba9345b5ac028b326e59bb36f246f00561") false
    proved (λ_ h=>by cases h) g0 (λ_ h=>by cases h) mustCounts_row_tie rfl ⟨rfl,rfl⟩ rb6 rfl
    (λf fn hf qI=>by obtain rfl:f=13:=Option.some.inj ((show Tryz.prog.funcNamed "interleave/interleavelaw27.MustCounts" =some 13 by kernel_rfl).symm.trans hf) |>.symm;obtain rfl:fn=Tryz.f13:=(Option.some.inj (Tryz.func13.symm.trans qI)).symm;exact⟨rb7,λj t ht=>by rw[Tryz.params13]at ht;have hm:t∈[24]:=(by simpa using Array.mem_of_getElem? ht);have II:([24].all λu=> !Tryz.prog.wantsStandIn u)=true:=(by kernel_rfl);exact(show Tryz.prog.wantsStandIn t=false by simpa using List.all_eq_true.1 II t hm)⟩)
    g2
#print axioms card
end mustCounts
end Go.Proofs.YtdojkofgkcmagaaGreatDoor
