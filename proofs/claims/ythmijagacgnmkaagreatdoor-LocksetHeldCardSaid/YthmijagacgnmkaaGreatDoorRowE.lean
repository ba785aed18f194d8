/- LocksetHeld: for every input the law returns true, and its arguments read behind the call as before. The listed package variable starts as the program's text lays it. -/
import Derived.Test.YthmijagacgnmkaaGreatDoorPlainD
import Derived.Test.YthmijagacgnmkaaGreatDoorCards
import Derived.Test.YthmijagacgnmkaaGreatDoorTie
set_option linter.unusedSimpArgs false
set_option linter.unusedVariables false
namespace Go.Proofs.YthmijagacgnmkaaGreatDoor
open Go.ChangeShapes Go.WideShapes Go.ChangeAt Go.RowKit Go.Abs
namespace locksetHeld
theorem zN (os:Os) (args:Array Value):laidMetH Tryz.prog gQ ((World.doorLaid Tryz.prog 400 os).forCall (λ_ _=>0) ⟨#[],args,[]⟩).memory:=
  laidMetH_of_parts3 (fuel:=8) (laidMet_of_run' 8 (by kernel_rfl) (by kernel_rfl)) (by kernel_rfl) (by kernel_rfl)
set_option maxRecDepth 100000 in
theorem lifted (os:Os) (started:os.Started) (H:Type) (enc:TypeId×Value->H):
    ReturnsInHanded {} Tryz.checked os 5 .any (λw args=>(Rows.locksetHeldSpec.pre enc Tryz.prog Tryz.f5 [] false w args/\laidMetH Tryz.prog gQ w)/\sizedMet enc Tryz.prog Tryz.f5 (OpenSpec.ofChange Rows.locksetHeldSpec) false w args)
      (Rows.locksetHeldSpec.post enc Tryz.prog Tryz.f5 false true false false):=by
  refine returnsInHanded_of_change_and (C:=Tryz.checked) (X:=λw _=>laidMetH Tryz.prog gQ w) (λ_ _ _ hh h=>h.of_heap hh) own0 started (by kernel_rfl) Tryz.func5
    (ChangeSpec.witness_shaped (enc:=enc) (C:=Tryz.checked) (os:=os) (X:=λw _=>laidMetH Tryz.prog gQ w) false (World.doorLaid Tryz.prog 400 os) #[.agg #[.slice none 0 0,.slice none 0 0,.slice none 0 0]] 8 rfl (World.shaped_of_RefB (by kernel_rfl) (by kernel_rfl)) (by kernel_rfl) (by kernel_rfl) (by kernel_rfl) (zN os _)) ?_
  intro W base args ds gs before Ba hW _ hwt hL _;refine cH (P:=Tryz.prog) (Xs:=[λF9=>∃x:KH,F9=SV x/\qM x]) rfl (by kernel_rfl) Tryz.underlying4 laid ?_ ?_ ?_ ?_ Ba hW hwt (mJ hL)
  . rw[Tryz.params5];intro t ht;have:t=24:=(by simpa using ht);rcases this with rfl<;>exact⟨by kernel_rfl,of_decide_eq_true (by kernel_rfl)⟩
  . rw[Tryz.params5];exact⟨op24,trivial⟩
  . rw[Tryz.params5];rintro F9 ⟨a0,r0,rfl,⟨x0,rfl,h0⟩,rfl⟩;rw[arg24];exact Z4 (LHeld_law h0)
  . rw[Tryz.params5];intro ds hl;obtain⟨d0,rfl⟩:∃d0,ds=[d0]:=by
      match ds,hl with
      |[d0],_=>exact⟨d0,rfl⟩
    rfl
theorem f4:(Rows.locksetHeldRow.lifted==Tryz.prog.liftsFinal)=true:=by rw[rb4];rfl
theorem f5:(Rows.locksetHeldRow.plainKeys==Tryz.prog.plainKeys)=true:=by rw[rb5];rfl
theorem f6:(Rows.locksetHeldRow.recurses==Tryz.prog.recurses 5)=true:=by kernel_rfl
theorem f7:(Rows.locksetHeldRow.named==Tryz.prog.varsNamed 5)=true:=by kernel_rfl
theorem f8:(Rows.locksetHeldRow.unfollowed==Tryz.prog.unfollowed 5)=true:=by kernel_rfl
theorem f9:(Rows.locksetHeldRow.inPlace==Tryz.prog.inPlace 5)=true:=by kernel_rfl
theorem closed:joinedFacts Tryz.prog 5 Tryz.f5 Rows.locksetHeldSpec Rows.locksetHeldRow=true:=by
  unfold joinedFacts;simp only[rb0,rb1,rb2,rb3,f4,f5,f6,f7,f8,f9,Bool.and_true,Bool.true_and]
  kernel_rfl
theorem proved:Rows.LocksetHeldSaid:=
  OpenClaim.holds_of_wide 5 Tryz.f5 rfl rfl rfl rfl rfl rfl rfl ⟨rfl,rfl,rfl,rfl,rfl⟩ rfl rfl rfl rfl rfl (by kernel_rfl) Tryz.func5 closed
    (of_decide_eq_true (by kernel_rfl)) (by unfold Func.isWrapper;first| (rw[if_pos (by decide +kernel)];kernel_rfl)| (rw[if_neg (by decide +kernel)];exact⟨rfl,rfl⟩))
    (λos started H enc _=>lifted os started H enc)
theorem g0:Rows.locksetHeldRow.wfByText (OpenSpec.ofChange Rows.locksetHeldSpec)=true:=by kernel_rfl
theorem g2:false=Rows.locksetHeldRow.goesBy Tryz.prog:=by kernel_rfl
theorem card:Rows.LocksetHeldCardSaid:=
  Claim7.holds_tied_plain_at .later [] [.data] true (true,"d451a204984a6844bee374a30dabfb0cecc037902d4d03ac54b8394056717808") false
    proved (λ_ h=>by cases h) g0 (λ_ h=>by cases h) locksetHeld_row_tie rfl ⟨rfl,rfl⟩ rb6 rfl
    (λf fn hf hfn=>by obtain rfl:f=5:=Option.some.inj ((show Tryz.prog.funcNamed "interleave/interleavelaw28.LocksetHeld" =some 5 by kernel_rfl).symm.trans hf) |>.symm;obtain rfl:fn=Tryz.f5:=(Option.some.inj (Tryz.func5.symm.trans hfn)).symm;exact⟨rb7,λj t ht=>by rw[Tryz.params5]at ht;have hm:t∈[24]:=(by simpa using Array.mem_of_getElem? ht);have II:([24].all λu=> !Tryz.prog.wantsStandIn u)=true:=(by kernel_rfl);exact(show Tryz.prog.wantsStandIn t=false by simpa using List.all_eq_true.1 II t hm)⟩)
    g2
#print axioms card
end locksetHeld
end Go.Proofs.YthmijagacgnmkaaGreatDoor
