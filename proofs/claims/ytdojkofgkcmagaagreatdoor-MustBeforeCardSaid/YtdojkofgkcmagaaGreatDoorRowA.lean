/- MustBefore: for every input the law returns true, and its arguments read behind the call as before. The listed package variable starts as the program's text lays it. -/
import Derived.Test.YtdojkofgkcmagaaGreatDoorPlainE
import Derived.Test.YtdojkofgkcmagaaGreatDoorCards
import Derived.Test.YtdojkofgkcmagaaGreatDoorTie
import Derived.Shelf.Slices.SearchI
set_option linter.unusedSimpArgs false
set_option linter.unusedVariables false
namespace Go.Proofs.YtdojkofgkcmagaaGreatDoor
open Go.ChangeShapes Go.WideShapes Go.ChangeAt Go.RowKit Go.Abs
namespace mustBefore
theorem door_met (os:Os) (args:Array Value):laidMetH Tryz.prog rC ((World.doorLaid Tryz.prog 400 os).forCall (λ_ _=>0) ⟨#[],args,[]⟩).memory:=
  laidMetH_of_parts3 (fuel:=8) (laidMet_of_run' 8 (by kernel_rfl) (by kernel_rfl)) (by kernel_rfl) (by kernel_rfl)
set_option maxRecDepth 100000 in
theorem lifted (os:Os) (started:os.Started) (H:Type) (enc:TypeId×Value->H):
    ReturnsInHanded {} Tryz.checked os 6 .any (λw args=>(Rows.mustBeforeSpec.pre enc Tryz.prog Tryz.f6 [] false w args/\laidMetH Tryz.prog rC w)/\sizedMet enc Tryz.prog Tryz.f6 (OpenSpec.ofChange Rows.mustBeforeSpec) false w args)
      (Rows.mustBeforeSpec.post enc Tryz.prog Tryz.f6 false true false false):=by
  refine returnsInHanded_of_change_and (C:=Tryz.checked) (X:=λw _=>laidMetH Tryz.prog rC w) (λ_ _ _ hh h=>h.of_heap hh) own0 started (by kernel_rfl) Tryz.func6
    (ChangeSpec.witness_shaped (enc:=enc) (C:=Tryz.checked) (os:=os) (X:=λw _=>laidMetH Tryz.prog rC w) false (World.doorLaid Tryz.prog 400 os) #[.agg #[.slice none 0 0,.slice none 0 0,.slice none 0 0,.int .u8 0,.int .u8 0]] 8 rfl (World.shaped_of_RefB (by kernel_rfl) (by kernel_rfl)) (by kernel_rfl) (by kernel_rfl) (by kernel_rfl) (door_met os _)) ?_
  intro W base args ds gs before CG hW _ tW hL _;refine mH (P:=Tryz.prog) (Xs:=[λIg=>∃x:Ke,Ig=Xd x/\mP x]) rfl (by kernel_rfl) Tryz.underlying4 laid ?_ ?_ ?_ ?_ CG hW tW (wW hL)
  . rw[Tryz.params6];intro t ht;have:t=24:=(by simpa using ht);rcases this with rfl<;>exact⟨by kernel_rfl,of_decide_eq_true (by kernel_rfl)⟩
  . rw[Tryz.params6];exact⟨op24,trivial⟩
  . rw[Tryz.params6];rintro Ig ⟨a0,r0,rfl,⟨x0,rfl,h0⟩,rfl⟩;rw[arg24];exact gQ (MBefore_law h0)
  . rw[Tryz.params6];intro ds hl;obtain⟨d0,rfl⟩:∃d0,ds=[d0]:=by
      match ds,hl with
      |[d0],_=>exact⟨d0,rfl⟩
    rfl
theorem f4:(Rows.mustBeforeRow.lifted==Tryz.prog.liftsFinal)=true:=by rw[rb4];rfl
theorem f5:(Rows.mustBeforeRow.plainKeys==Tryz.prog.plainKeys)=true:=by rw[rb5];rfl
theorem f6:(Rows.mustBeforeRow.recurses==Tryz.prog.recurses 6)=true:=by kernel_rfl
theorem f7:(Rows.mustBeforeRow.named==Tryz.prog.varsNamed 6)=true:=by kernel_rfl
theorem f8:(Rows.mustBeforeRow.unfollowed==Tryz.prog.unfollowed 6)=true:=by kernel_rfl
theorem f9:(Rows.mustBeforeRow.inPlace==Tryz.prog.inPlace 6)=true:=by kernel_rfl
theorem closed:joinedFacts Tryz.prog 6 Tryz.f6 Rows.mustBeforeSpec Rows.mustBeforeRow=true:=by
  unfold joinedFacts;simp only[rb0,rb1,rb2,rb3,f4,f5,f6,f7,f8,f9,Bool.and_true,Bool.true_and]
  kernel_rfl
theorem proved:Rows.MustBeforeSaid:=
  OpenClaim.holds_of_wide 6 Tryz.f6 rfl rfl rfl rfl rfl rfl rfl ⟨rfl,rfl,rfl,rfl,rfl⟩ rfl rfl rfl rfl rfl (by kernel_rfl) Tryz.func6 closed
    (of_decide_eq_true (by kernel_rfl)) (by unfold Func.isWrapper;first| (rw[if_pos (by decide +kernel)];kernel_rfl)| (rw[if_neg (by decide +kernel)];exact⟨rfl,rfl⟩))
    (λos started H enc _=>lifted os started H enc)
theorem g0:Rows.mustBeforeRow.wfByText (OpenSpec.ofChange Rows.mustBeforeSpec)=true:=by kernel_rfl
theorem g2:false=Rows.mustBeforeRow.goesBy Tryz.prog:=by kernel_rfl
theorem card:Rows.MustBeforeCardSaid:=
  Claim7.holds_tied_plain_at .later [] [.data] true (true,"8a42790257e1b6008a5a8b49b99a48ba9345b5ac028b326e59bb36f246f00561") false
    proved (λ_ h=>by cases h) g0 (λ_ h=>by cases h) mustBefore_row_tie rfl ⟨rfl,rfl⟩ rb6 rfl
    (λf fn hf tQ=>by obtain rfl:f=6:=Option.some.inj ((show Tryz.prog.funcNamed "interleave/interleavelaw27.MustBefore" =some 6 by kernel_rfl).symm.trans hf) |>.symm;obtain rfl:fn=Tryz.f6:=(Option.some.inj (Tryz.func6.symm.trans tQ)).symm;exact⟨rb7,λj t ht=>by rw[Tryz.params6]at ht;have hm:t∈[24]:=(by simpa using Array.mem_of_getElem? ht);have IY:([24].all λu=> !Tryz.prog.wantsStandIn u)=true:=(by kernel_rfl);exact(show Tryz.prog.wantsStandIn t=false by simpa using List.all_eq_true.1 IY t hm)⟩)
    g2
#print axioms card
end mustBefore
end Go.Proofs.YtdojkofgkcmagaaGreatDoor
