/- What the typed programs give, in plain Lean. -/
import Derived.Test.YtkpdblcoclbgbaaGreatDoorCoreD
import Derived.Test.YtkpdblcoclbgbaaGreatDoorBaseA
import Derived.Test.YtkpdblcoclbgbaaGreatDoorPlainB
import Derived.Test.YtkpdblcoclbgbaaGreatDoorRows
import Derived.Test.YtkpdblcoclbgbaaGreatDoorTie
import Derived.ProofKit
import Derived.LaidMore
import Derived.OpenShut
import Derived.Test.YtkpdblcoclbgbaaGreatDoorWalkB1
import Derived.Test.YtkpdblcoclbgbaaGreatDoorWalkD1
import Derived.Shelf.Slices.SearchI
set_option linter.unusedSimpArgs false
set_option linter.unusedVariables false
namespace Go.Abs
open Go.Proofs Go.RowKit
set_option maxRecDepth 100000
set_option maxHeartbeats 4000000
theorem Vb {α:Type} {e:α->List AV} {ok:α->Prop}:∀(rows:List (List AV)),(∀row∈rows,∃x:α,row=e x/\ok x)->∃l:List α,rows=l.map e/\∀x∈l,ok x
 |[],_=>⟨[],rfl,λ_ h=>by simp at h⟩
 |r::rs,h=>by
  obtain⟨l,hl,ho⟩:=Vb rs (λrow hr=>h row (by simp[hr]))
  obtain⟨x,hx,hxo⟩:=h r (by simp)
  refine⟨x::l,by rw[hx,hl];rfl,λy hy=> ?_⟩
  rcases List.mem_cons.1 hy with rfl|hy
  . exact hxo
  . exact ho y hy
def JB (x:Int):Prop:=(Lit.int .u8 x).wf=true
structure Kc (x:List Int):Prop where
 len:x.length*1≤reachBytes
 all:∀y∈x,JB y
theorem op5:Jp Tryz.prog 5 (λavs=>∃x:Int,avs=[.sc (.int .u8 x)]/\JB x):=(UO Tryz.underlying5).mono λ_ ⟨n,h,hw⟩=>⟨n,h,hw⟩
theorem arg5 (a:AV):OM Tryz.prog 5 [a]=a:=by unfold OM;rw[Tryz.underlying5];rfl
theorem uK:Jp Tryz.prog 22 (λavs=>∃x:List Int,avs=[.sl false 1 (x.map UN)]/\Kc x):=by
 refine(VR (k:=1) Tryz.underlying22 (by kernel_rfl) (by omega) op5).mono ?_
 rintro avs ⟨rows,rfl,hr,hb⟩
 obtain⟨l,rfl,hl⟩:=Vb (e:=UN) (ok:=JB) rows λrow h=>(hr row h).1
 have hby:Tryz.prog.bytesOf 5=1:=by kernel_rfl
 rw[hby,List.length_map]at hb
 exact⟨l,rfl,hb,hl⟩
theorem kR (a:AV):OM Tryz.prog 22 [a]=a:=by unfold OM;rw[Tryz.underlying22];rfl
structure okTry (x:aE):Prop where
 f0:JB x.Thread
 f1:JB x.Kind
 f2:JB x.Obj
 f3:JB x.Site
 f4:JB x.Value
 f5:Kc x.Dy
 f6:Kc x.Db
theorem op46:Jp Tryz.prog 46 (λavs=>∃x:aE,avs=uT x/\okTry x):=by
 refine(jW (Xs:=[λavs=>∃x:Int,avs=[.sc (.int .u8 x)]/\JB x,λavs=>∃x:Int,avs=[.sc (.int .u8 x)]/\JB x,λavs=>∃x:Int,avs=[.sc (.int .u8 x)]/\JB x,λavs=>∃x:Int,avs=[.sc (.int .u8 x)]/\JB x,λavs=>∃x:Int,avs=[.sc (.int .u8 x)]/\JB x,λavs=>∃x:List Int,avs=[.sl false 1 (x.map UN)]/\Kc x,λavs=>∃x:List Int,avs=[.sl false 1 (x.map UN)]/\Kc x]) Tryz.underlying46 ⟨by kernel_rfl,op5,⟨by kernel_rfl,op5,⟨by kernel_rfl,op5,⟨by kernel_rfl,op5,⟨by kernel_rfl,op5,⟨by kernel_rfl,uK,⟨by kernel_rfl,uK,trivial⟩⟩⟩⟩⟩⟩⟩ (by kernel_rfl)).mono ?_
 rintro avs ⟨a0,r0,rfl,⟨x0,rfl,h0⟩,⟨a1,r1,rfl,⟨x1,rfl,h1⟩,⟨a2,r2,rfl,⟨x2,rfl,h2⟩,⟨a3,r3,rfl,⟨x3,rfl,h3⟩,⟨a4,r4,rfl,⟨x4,rfl,h4⟩,⟨a5,r5,rfl,⟨x5,rfl,h5⟩,⟨a6,r6,rfl,⟨x6,rfl,h6⟩,rfl⟩⟩⟩⟩⟩⟩⟩
 exact⟨⟨x0,x1,x2,x3,x4,x5,x6⟩,rfl,⟨h0,h1,h2,h3,h4,h5,h6⟩⟩
theorem arg46 (avs:List AV):OM Tryz.prog 46 avs= .agg avs:=by unfold OM;rw[Tryz.underlying46];rfl
def s9 (x:Int):Prop:=(Lit.int .u16 x).wf=true
theorem op47:Jp Tryz.prog 47 (λavs=>∃x:Int,avs=[.sc (.int .u16 x)]/\s9 x):=(UO Tryz.underlying47).mono λ_ ⟨n,h,hw⟩=>⟨n,h,hw⟩
theorem arg47 (a:AV):OM Tryz.prog 47 [a]=a:=by unfold OM;rw[Tryz.underlying47];rfl
theorem laid:laidOutB Tryz.prog=true:=by kernel_rfl
theorem own0:ownKnob Tryz.prog.godebug=none:=by kernel_rfl
abbrev VM:List (String×DataW Unit):=[("interleave/token.keywords",Go.Proofs.YtkpdblcoclbgbaaGreatDoor.Rows.laid_interleave_token_keywords)]
theorem qZ:Tryz.prog.globalNamed "interleave/token.keywords" =some 0:=by kernel_rfl
theorem gType:(Tryz.prog.globals[0]?).map (·.type)=some 204:=by kernel_rfl
theorem ZD:(Go.Proofs.YtkpdblcoclbgbaaGreatDoor.Rows.laid_interleave_token_keywords:DataW Unit)= .agg (Ho.map λs=>.lit (.string s.data.toList)):=rfl
theorem Wp {W:World} (h:laidMetH Tryz.prog VM W):GI W (Old W):=by
 rw[MakeChecks.laidMetH_plain _ _ _ (by kernel_rfl)]at h
 obtain⟨ps,⟨g0,t0,cs0,f0,p0,q0,hg0,ht0,hv0,hd0,_,_⟩,_,_⟩:=h
 obtain rfl:=Option.some.inj (qZ.symm.trans hg0)
 obtain rfl:=Option.some.inj (gType.symm.trans ht0)
 obtain⟨xs,m,rfl,hx,hlen,hn,hel⟩:=DataW.trod_array Tryz.underlying204 hd0
 have ce:Tryz.prog.cellsOf 9=1:=by kernel_rfl
 rw[ZD]at hx
 simp only[Prod.mk.injEq,DataW.agg.injEq]at hx
 have hcell:∀(j:Nat) s,Ho[j]? =some s->W.cell? ⟨0,j,none⟩=some (.string s):=by
  intro j s hj
  have hjn:j<22:=by
   have:=(List.getElem?_eq_some_iff.1 hj).1
   exact this
  have hxj:(xs.map (·.1))[j]? =some (.lit (.string s.data.toList)):=by rw[← hx.1,List.getElem?_map,hj];rfl
  rw[List.getElem?_map]at hxj
  cases hxs:xs[j]? with
  |none=>rw[hxs]at hxj;cases hxj
  |some y=>
   have ht:=hel j hjn
   rw[hxs,ce]at ht
   obtain⟨s',hs',hy,_⟩:=DataW.trod_string Tryz.underlying9 ht
   rw[hxs]at hxj
   simp only[Option.map_some,Option.some.injEq]at hxj
   rw[hy]at hxj
   simp only[DataW.lit.injEq,Lit.string.injEq]at hxj
   have hss:s'=s:=ByteArray.ext (Array.toList_inj.1 hxj)
   subst hss
   rw[World.var?_cell qZ hv0 j]
   have:(cs0.toList.drop (j*1)).take 1=[.string s']:=hs'
   rw[Nat.mul_one]at this
   have h0:cs0.toList[j]? =some (.string s'):=by
    have h1:((cs0.toList.drop j).take 1)[0]? =some (.string s'):=by rw[this];rfl
    simpa using h1
   simpa using h0
 intro x hxm
 have:x=(0,Ho.map Value.string):=by simpa[Gam]using hxm
 subst this
 have h0:=hcell 0 _ rfl
 obtain⟨_,hlt⟩:=Xe h0
 refine⟨hlt,?_⟩
 unfold World.cell? at h0
 cases hb:W.heap[0]? with
 |none=>simp[hb]at h0
 |some blk=>
  cases blk with
  |cells arr E fz=>
   refine⟨arr,E,fz,rfl,λj v hj=> ?_⟩
   rw[List.getElem?_map]at hj
   cases hs:Ho[j]? with
   |none=>rw[hs]at hj;cases hj
   |some s=>
    rw[hs]at hj
    simp only[Option.map_some,Option.some.injEq]at hj
    subst hj
    have:=hcell j s hs
    unfold World.cell? at this
    simpa[hb]using this
  |_=>simp[hb]at h0
end Go.Abs
namespace Go.Abs
theorem fB {o:Option Bool} (h:B2 o λb=>b=true):o=some true:=by
 obtain⟨b,h,rfl⟩:=h;exact h
theorem rC {x:Int} (h:JB x):0≤x/\x<256:=by
 unfold JB Lit.wf at h
 simp only[Bool.and_eq_true,decide_eq_true_eq]at h
 have h1:=h.1;have h2:=h.2
 have e1:IntKind.u8.min=0:=rfl
 have e2:IntKind.u8.max=255:=rfl
 omega
theorem u16_of {x:Int} (h:s9 x):0≤x/\x<65536:=by
 unfold s9 Lit.wf at h
 simp only[Bool.and_eq_true,decide_eq_true_eq]at h
 have h1:=h.1;have h2:=h.2
 have e1:IntKind.u16.min=0:=rfl
 have e2:IntKind.u16.max=65535:=rfl
 omega
theorem Prefixes_law {p s:List Int} {x:aE} {a n:Int} (hp:Kc p) (ha:JB a) (hn:s9 n):Et p s x a n=some true:=fB (Prefixes_tot (λx hx=>rC (hp.all x hx)) (rC ha) (u16_of hn))
end Go.Abs
