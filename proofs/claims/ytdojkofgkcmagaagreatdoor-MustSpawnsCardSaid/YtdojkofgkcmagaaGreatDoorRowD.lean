/- MustSpawns: for every input the law returns true, and its arguments read behind the call as before. The listed package variable starts as the program's text lays it. -/
import Derived.Test.YtdojkofgkcmagaaGreatDoorPlainE
import Derived.Test.YtdojkofgkcmagaaGreatDoorCards
import Derived.Test.YtdojkofgkcmagaaGreatDoorTie
set_option linter.unusedSimpArgs false
set_option linter.unusedVariables false
namespace Go.Proofs.YtdojkofgkcmagaaGreatDoor
open Go.ChangeShapes Go.WideShapes Go.ChangeAt Go.RowKit Go.Abs
namespace mustSpawns
theorem door_met (os:Os) (args:Array Value):laidMetH Tryz.prog oG ((World.doorLaid Tryz.prog 400 os).forCall (λ_ _=>0) ⟨#[],args,[]⟩).memory:=
  laidMetH_of_parts3 (fuel:=8) (laidMet_of_run' 8 (by kernel_rfl) (by kernel_rfl)) (by kernel_rfl) (by kernel_rfl)
set_option maxRecDepth 100000 in
theorem lifted (os:Os) (started:os.Started) (H:Type) (enc:TypeId×Value->H):
    ReturnsInHanded {} Tryz.checked os 9 .any (λw args=>(Rows.mustSpawnsSpec.pre enc Tryz.prog Tryz.f9 [] false w args/\laidMetH Tryz.prog oG w)/\sizedMet enc Tryz.prog Tryz.f9 (OpenSpec.ofChange Rows.mustSpawnsSpec) false w args)
      (Rows.mustSpawnsSpec.post enc Tryz.prog Tryz.f9 false true false false):=by
  refine returnsInHanded_of_change_and (C:=Tryz.checked) (X:=λw _=>laidMetH Tryz.prog oG w) (λ_ _ _ hh h=>h.of_heap hh) own0 started (by kernel_rfl) Tryz.func9
    (ChangeSpec.witness_shaped (enc:=enc) (C:=Tryz.checked) (os:=os) (X:=λw _=>laidMetH Tryz.prog oG w) false (World.doorLaid Tryz.prog 400 os) #[.agg #[.slice none 0 0,.slice none 0 0,.slice none 0 0,.int .u8 0,.int .u8 0]] 8 rfl (World.shaped_of_RefB (by kernel_rfl) (by kernel_rfl)) (by kernel_rfl) (by kernel_rfl) (by kernel_rfl) (door_met os _)) ?_
  intro W base args ds gs before B0 hW _ hwt hL _;refine jR (P:=Tryz.prog) (Xs:=[λIE=>∃x:Kk,IE=Yx x/\jY x]) rfl (by kernel_rfl) Tryz.underlying4 laid ?_ ?_ ?_ ?_ B0 hW hwt (sX hL)
  . rw[Tryz.params9];intro t ht;have:t=24:=(by simpa using ht);rcases this with rfl<;>exact⟨by kernel_rfl,of_decide_eq_true (by kernel_rfl)⟩
  . rw[Tryz.params9];exact⟨op24,trivial⟩
  . rw[Tryz.params9];rintro IE ⟨a0,r0,rfl,⟨x0,rfl,h0⟩,rfl⟩;rw[arg24];exact bO (MSpawns_law h0)
  . rw[Tryz.params9];intro ds hl;obtain⟨d0,rfl⟩:∃d0,ds=[d0]:=by
      match ds,hl with
      |[d0],_=>exact⟨d0,rfl⟩
    rfl
theorem f4:(Rows.mustSpawnsRow.lifted==Tryz.prog.liftsFinal)=true:=by rw[rb4];rfl
theorem f5:(Rows.mustSpawnsRow.plainKeys==Tryz.prog.plainKeys)=true:=by rw[rb5];rfl
theorem f6:(Rows.mustSpawnsRow.recurses==Tryz.prog.recurses 9)=true:=by kernel_rfl
theorem f7:(Rows.mustSpawnsRow.named==Tryz.prog.varsNamed 9)=true:=by kernel_rfl
theorem f8:(Rows.mustSpawnsRow.unfollowed==Tryz.prog.unfollowed 9)=true:=by kernel_rfl
theorem f9:(Rows.mustSpawnsRow.inPlace==Tryz.prog.inPlace 9)=true:=by kernel_rfl
theorem closed:joinedFacts Tryz.prog 9 Tryz.f9 Rows.mustSpawnsSpec Rows.mustSpawnsRow=true:=by
  unfold joinedFacts;simp only[rb0,rb1,rb2,rb3,f4,f5,f6,f7,f8,f9,Bool.and_true,Bool.true_and]
  kernel_rfl
theorem proved:Rows.MustSpawnsSaid:=
  OpenClaim.holds_of_wide 9 Tryz.f9 rfl rfl rfl rfl rfl rfl rfl ⟨rfl,rfl,rfl,rfl,rfl⟩ rfl rfl rfl rfl rfl (by kernel_rfl) Tryz.func9 closed
    (of_decide_eq_true (by kernel_rfl)) (by unfold Func.isWrapper;first| (rw[if_pos (by decide +kernel)];kernel_rfl)| (rw[if_neg (by decide +kernel)];exact⟨rfl,rfl⟩))
    (λos started H enc _=>lifted os started H enc)
theorem g0:Rows.mustSpawnsRow.wfByText (OpenSpec.ofChange Rows.mustSpawnsSpec)=true:=by kernel_rfl
theorem g2:false=Rows.mustSpawnsRow.goesBy Tryz.prog:=by kernel_rfl
theorem card:Rows.MustSpawnsCardSaid:=
  Claim7.holds_tied_plain_at .later [] [.data] true (true,"8a42790257e1b6008a5a8b49b99a48ba9345b5ac028b326e59bb36f246f00561") false
    proved (λ_ h=>by cases h) g0 (λ_ h=>by cases h) mustSpawns_row_tie rfl ⟨rfl,rfl⟩ rb6 rfl
    (λf fn hf qI=>by obtain rfl:f=9:=Option.some.inj ((show Tryz.prog.funcNamed "interleave/interleavelaw27.MustSpawns" =some 9 by kernel_rfl).symm.trans hf) |>.symm;obtain rfl:fn=Tryz.f9:=(Option.some.inj (Tryz.func9.symm.trans qI)).symm;exact⟨rb7,λj t ht=>by rw[Tryz.params9]at ht;have hm:t∈[24]:=(by simpa using Array.mem_of_getElem? ht);have Hy:([24].all λu=> !Tryz.prog.wantsStandIn u)=true:=(by kernel_rfl);exact(show Tryz.prog.wantsStandIn t=false by simpa using List.all_eq_true.1 Hy t hm)⟩)
    g2
#print axioms card
end mustSpawns
end Go.Proofs.YtdojkofgkcmagaaGreatDoor
