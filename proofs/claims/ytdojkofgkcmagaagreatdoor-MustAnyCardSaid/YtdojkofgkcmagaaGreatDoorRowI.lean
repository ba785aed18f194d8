/- MustAny: for every input the law returns true, and its arguments read behind the call as before. The listed package variable starts as the program's text lays it. -/
import Derived.Test.YtdojkofgkcmagaaGreatDoorPlainD
import Derived.Test.YtdojkofgkcmagaaGreatDoorCards
import Derived.Test.YtdojkofgkcmagaaGreatDoorTie
import Derived.Shelf.Slices.SearchI
set_option linter.unusedSimpArgs false
set_option linter.unusedVariables false
namespace Go.Proofs.YtdojkofgkcmagaaGreatDoor
open Go.ChangeShapes Go.WideShapes Go.ChangeAt Go.RowKit Go.Abs
namespace mustAny
theorem door_met (os:Os) (args:Array Value):laidMetH Tryz.prog nS ((World.doorLaid Tryz.prog 400 os).forCall (λ_ _=>0) ⟨#[],args,[]⟩).memory:=
  laidMetH_of_parts3 (fuel:=8) (laidMet_of_run' 8 (by kernel_rfl) (by kernel_rfl)) (by kernel_rfl) (by kernel_rfl)
set_option maxRecDepth 100000 in
theorem lifted (os:Os) (started:os.Started) (H:Type) (enc:TypeId×Value->H):
    ReturnsInHanded {} Tryz.checked os 14 .any (λw args=>(Rows.mustAnySpec.pre enc Tryz.prog Tryz.f14 [] false w args/\laidMetH Tryz.prog nS w)/\sizedMet enc Tryz.prog Tryz.f14 (OpenSpec.ofChange Rows.mustAnySpec) false w args)
      (Rows.mustAnySpec.post enc Tryz.prog Tryz.f14 false true false false):=by
  refine returnsInHanded_of_change_and (C:=Tryz.checked) (X:=λw _=>laidMetH Tryz.prog nS w) (λ_ _ _ hh h=>h.of_heap hh) own0 started (by kernel_rfl) Tryz.func14
    (ChangeSpec.witness_shaped (enc:=enc) (C:=Tryz.checked) (os:=os) (X:=λw _=>laidMetH Tryz.prog nS w) false (World.doorLaid Tryz.prog 400 os) #[.agg #[.slice none 0 0,.slice none 0 0,.slice none 0 0,.slice none 0 0,.slice none 0 0,.slice none 0 0,.int .i64 0,.slice none 0 0,.int .i64 0,.slice none 0 0,.slice none 0 0,.slice none 0 0,.slice none 0 0,.slice none 0 0,.slice none 0 0],.int .i64 0,.int .i64 0] 8 rfl (World.shaped_of_RefB (by kernel_rfl) (by kernel_rfl)) (by kernel_rfl) (by kernel_rfl) (by kernel_rfl) (door_met os _)) ?_
  intro W base args ds gs before CB hW _ qU hL _;refine iX (P:=Tryz.prog) (Xs:=[λEg=>∃x:AF,Eg=A5 x/\okWindow x,λEg=>∃x:Int,Eg=[si x]/\JQ x,λEg=>∃x:Int,Eg=[si x]/\JQ x]) rfl (by kernel_rfl) Tryz.underlying4 laid ?_ ?_ ?_ ?_ CB hW qU (sV hL)
  . rw[Tryz.params14];intro t ht;have:t=43∨t=3:=(by simpa using ht);rcases this with rfl|rfl<;>exact⟨by kernel_rfl,of_decide_eq_true (by kernel_rfl)⟩
  . rw[Tryz.params14];exact⟨op43,⟨op3,⟨op3,trivial⟩⟩⟩
  . rw[Tryz.params14];rintro Eg ⟨a0,r0,rfl,⟨x0,rfl,h0⟩,⟨a1,r1,rfl,⟨x1,rfl,h1⟩,⟨a2,r2,rfl,⟨x2,rfl,h2⟩,rfl⟩⟩⟩;rw[arg43,arg3,arg3];exact lM (MAny_law h0)
  . rw[Tryz.params14];intro ds hl;obtain⟨d0,d1,d2,rfl⟩:∃d0 d1 d2,ds=[d0,d1,d2]:=by
      match ds,hl with
      |[d0,d1,d2],_=>exact⟨d0,d1,d2,rfl⟩
    rfl
theorem f4:(Rows.mustAnyRow.lifted==Tryz.prog.liftsFinal)=true:=by rw[rb4];rfl
theorem f5:(Rows.mustAnyRow.plainKeys==Tryz.prog.plainKeys)=true:=by rw[rb5];rfl
theorem f6:(Rows.mustAnyRow.recurses==Tryz.prog.recurses 14)=true:=by kernel_rfl
theorem f7:(Rows.mustAnyRow.named==Tryz.prog.varsNamed 14)=true:=by kernel_rfl
theorem f8:(Rows.mustAnyRow.unfollowed==Tryz.prog.unfollowed 14)=true:=by kernel_rfl
theorem f9:(Rows.mustAnyRow.inPlace==Tryz.prog.inPlace 14)=true:=by kernel_rfl
theorem closed:joinedFacts Tryz.prog 14 Tryz.f14 Rows.mustAnySpec Rows.mustAnyRow=true:=by
  unfold joinedFacts;simp only[rb0,rb1,rb2,rb3,f4,f5,f6,f7,f8,f9,Bool.and_true,Bool.true_and]
  kernel_rfl
theorem proved:Rows.MustAnySaid:=
  OpenClaim.holds_of_wide 14 Tryz.f14 rfl rfl rfl rfl rfl rfl rfl ⟨rfl,rfl,rfl,rfl,rfl⟩ rfl rfl rfl rfl rfl (by kernel_rfl) Tryz.func14 closed
    (of_decide_eq_true (by kernel_rfl)) (by unfold Func.isWrapper;first| (rw[if_pos (by decide +kernel)];kernel_rfl)| (rw[if_neg (by decide +kernel)];exact⟨rfl,rfl⟩))
    (λos started H enc _=>lifted os started H enc)
theorem g0:Rows.mustAnyRow.wfByText (OpenSpec.ofChange Rows.mustAnySpec)=true:=by kernel_rfl
theorem g2:false=Rows.mustAnyRow.goesBy Tryz.prog:=by kernel_rfl
theorem card:Rows.MustAnyCardSaid:=
  Claim7.holds_tied_plain_at .later [] [.data] true (true,"8a42790257e1b6008a5a8b49b99a48ba9345b5ac028b326e59bb36f246f00561") false
    proved (λ_ h=>by cases h) g0 (λ_ h=>by cases h) mustAny_row_tie rfl ⟨rfl,rfl⟩ rb6 rfl
    (λf fn hf qI=>by obtain rfl:f=14:=Option.some.inj ((show Tryz.prog.funcNamed "interleave/interleavelaw27.MustAny" =some 14 by kernel_rfl).symm.trans hf) |>.symm;obtain rfl:fn=Tryz.f14:=(Option.some.inj (Tryz.func14.symm.trans qI)).symm;exact⟨rb7,λj t ht=>by rw[Tryz.params14]at ht;have hm:t∈[43,3,3]:=(by simpa using Array.mem_of_getElem? ht);have II:([43,3,3].all λu=> !Tryz.prog.wantsStandIn u)=true:=(by kernel_rfl);exact(show Tryz.prog.wantsStandIn t=false by simpa using List.all_eq_true.1 II t hm)⟩)
    g2
#print axioms card
end mustAny
end Go.Proofs.YtdojkofgkcmagaaGreatDoor
