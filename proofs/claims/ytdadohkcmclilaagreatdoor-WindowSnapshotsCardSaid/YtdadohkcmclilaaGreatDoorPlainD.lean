/- What the typed programs give, in plain Lean. -/
import Derived.Test.YtdadohkcmclilaaGreatDoorPlainC
import Derived.Test.YtdadohkcmclilaaGreatDoorRows
import Derived.Test.YtdadohkcmclilaaGreatDoorTie
import Derived.ProofKit
import Derived.LaidMore
import Derived.OpenShut
import Derived.Shelf.Slices.SearchI
set_option linter.unusedSimpArgs false
set_option linter.unusedVariables false
namespace Go.Abs
set_option maxHeartbeats 4000000
theorem pF3 {x y} {P:Ad×AH×Bool->Prop}:Kl (some (x,y,false)) λr:Ad×AH×Bool=>r.2.2=true->P r:=pR λh=>by cases h
theorem s7 {E:Nat} {c:BF} (hc:CK c) (hV:∀t∈c.AA,VS t) {s:Ad} (hs:SI E s) (hE:E≤10000) {pre:List AH} {S:AB} (hl:LK c pre S s) (ch:BK):
 Kl (BE c s ch) λr=>r.2.2=true->∃x x',s.AA[ch.Thread.toNat]? =some x/\r.1.AA[ch.Thread.toNat]? =some x'/\x'.AF=x.AF+1:=by
 obtain⟨hr,hs⟩:=hs
 unfold BE
 refine pB (pT (To hc hs (by omega) ch.Thread)) λv hv=>pI (λ_=>pF3) λh=> ?_
 have hv:=hv (by simpa using h)
 obtain⟨hf,ht,_,hh,hi⟩:=hv
 have hw:=EC hf.v.w
 have w1:=hw.c;have w2:=hw.f;have w3:=hw.t;have c1:=hf.c';have c2:=hf.u;have c3:=hf.n;have c4:=hf.v.n
 refine pS λap _=>pI (λ_=>pF3) λh2=>pE (Z0 hs (by omega) (Tn.of hw hf.f (hr.mono (by omega))) (by omega) (by omega) (by omega)) ?_
 obtain⟨x,x1,x2,x3⟩:=Fm (l:=s.AA) (i:=ch.Thread) (by omega)
 obtain⟨y,y1,y2,y3⟩:=Fm (l:=c.AA) (i:=ch.Thread) (by omega)
 obtain⟨p1,p2,p3⟩:=hf.t _ x y x2 y2
 obtain⟨z,z1,z2,z3⟩:=Fm (l:=y.A1) (i:=x.PC) (by omega)
 obtain⟨q,q1,q2,q3⟩:=Fm (l:=s.Sync.AA) (i:=ch.Thread) (by have:=(FA hf.f).2.2;omega)
 have hpi:=hi x y z q x2 y2 z2 q2
 have hx:=hs x x3
 have hVy:=hV y y3
 have hVt:=hf.v.t _ y y2
 have hil:=hc.i y y3
 have he:=hx.e
 have nx:∀n:Int,0≤n->n<y.A1.length->Lnd y.A1 (y.A1.length+1) n:=λn n0 n1=>by
  obtain⟨m,rfl⟩:∃m:Nat,n=m:=⟨n.toNat,by omega⟩
  exact(hVy m _ (AAT (by omega))).1
 have nx1:v.1.Kind≠1->v.1.Kind≠2->Lnd y.A1 (y.A1.length+1) (Ap (x.PC+1)):=λk1 k2=>by
  have h28:z.Op≠28:=by
   rcases hpi.s with⟨k,_⟩|⟨⟨q4,_⟩|⟨_,k,_⟩,_⟩
   . exact absurd k k1
   . obtain⟨z',b1,b2⟩:=hl.w _ x y q x2 y2 q2 (.inr q4)
     rw[z1]at b1
     obtain rfl:=AAR b1
     omega
   . exactλh=>k2 (k.2 h)
  have:=(hVy _ z z2).2.1
  have:x.PC.toNat+1≠y.A1.length:=λh=>h28 (this.2 h)
  rw[DR (by omega) (by omega)]
  exact nx _ (by omega) (by omega)
 refine pE x1 (pE y1 (pE z1 ?_))
 let G:Ad×AH×Bool->Prop:=λr=>r.2.2=true->∃x x',s.AA[ch.Thread.toNat]? =some x/\r.1.AA[ch.Thread.toNat]? =some x'/\x'.AF=x.AF+1
 have j6:∀e C F t,t.AF=x.AF+1->Kl (BE.J6 ch e C F ap s t) G:=by
  intro e C F t h1;unfold BE.J6
  exact pS λ_ _=>pR λ_=>⟨x,t,x2,by simp only;rw[AAS (by omega)],h1⟩
 have j5:∀e n C F t b,(t.AF=x.AF/\(t.Br.length:Int)=y.Br/\(t.Bn.length:Int)=y.Br)->(b=true->Lnd y.A1 (y.A1.length+1) n)->Kl (BE.J5 c ch e n C F t ap s b) G:=by
  intro e n C F t b h1 hb;unfold BE.J5
  have e1:Ap (t.AF+1)=x.AF+1:=by rw[h1.1];exact DR (by omega) (by omega)
  refine pI (λh=>pE y1 (pB (eL hVy hil (λx hx=>(hVt.i x hx).g) hVt.r.2 h1.2.1 h1.2.2 (hb h)) λu hu=>j6 _ _ _ _ (hu.trans e1))) λ_=>j6 _ _ _ _ e1
 have j3:∀e n C F b,(e.Kind≠16->e.Kind≠2->Lnd y.A1 (y.A1.length+1) n)->Kl (BE.J3 c ch e n C F ap s x z b) G:=by
  intro e n C F b hn;unfold BE.J3 BE.J4
  have k:∀t,(t.AF=x.AF/\(t.Br.length:Int)=y.Br/\(t.Bn.length:Int)=y.Br)->Kl (if(e.Kind != 16)=true then BE.J5 c ch e n C F t ap s (e.Kind != 2)else BE.J5 c ch e n C F t ap s false) G:=λt ht=>pI (λh16=>j5 _ _ _ _ _ _ ht λh2=>hn (by simpa using h16) (by simpa using h2)) λ_=>j5 _ _ _ _ _ _ ht λh=>by cases h
  exact pI (λ_=>pS λ_ _=>pS λ_ _=>k _ ⟨rfl,by simpa using p2,by simpa using p3⟩) λ_=>k _ ⟨rfl,p2,p3⟩
 have j2:∀C F e n,(e.Kind≠16->e.Kind≠2->Lnd y.A1 (y.A1.length+1) n)->Kl (BE.J2 c ch ap s x z C F e n) G:=by
  intro C F e n hn;unfold BE.J2
  exact pI (λ_=>j3 _ _ _ _ _ hn) λ_=>j3 _ _ _ _ _ hn
 have j1:∀b,(b=false->v.1.Kind≠1)->Kl (BE.J1 c ch v ap s x z b) G:=by
  intro b hb;unfold BE.J1
  refine pI (λ_=>j2 _ _ _ _ λ_ _=>nx _ p1.1 p1.2) λh0=> ?_
  have n1:=nx1 (hb h0)
  refine pI (λ_=>pS λ_ _=>j2 _ _ _ _ λ_ k=>n1 k) λ_=>pI (λ_=>pS λ_ _=>j2 _ _ _ _ λ_ k=>n1 k) λ_=>pI (λ_=>pS λ_ _=>pS λ_ _=>j2 _ _ _ _ λ_ k=>n1 k) λ_=>pI (λ_=>pS λ_ _=>pS λ_ _=>j2 _ _ _ _ λ_ k=>n1 k) λ_=>pI (λh5=>pS λ_ _=>pI (λ_=>j2 _ _ _ _ λ_ _=> ?_) λ_=>j2 _ _ _ _ λ_ k=>n1 k) λ_=>j2 _ _ _ _ λ_ k=>n1 k
  have:=(hVy _ z z2).2.2.1 (hpi.j (eq_of_beq h5))
  exact nx _ this.1 this.2
 exact pI (λh=>j1 _ λh'=>by rw[h']at h;cases h) λh1=>pI (λh=>j1 _ λh'=>by rw[h']at h;cases h) λ_=>j1 _ λ_=>by simpa using h1
def chOf (e:AH):BK:=⟨e.Thread,if e.Kind=18/\0≤e.Value/\e.Value<4 then e.Value else -1⟩
def runE (c:BF):Ad->List AH->Ad->Prop
 |s,[],t=>s=t
 |s,e::r,t=>∃s',BE c s (chOf e)=some (s',e,true)/\runE c s' r t
structure GP (c:BF) (pre:List AH) (s:Ad):Prop where
 i:SI pre.length s
 l:LK c pre (pre.foldl (GL c.World) (Gg c.World)) s
 k:∀(u:Nat) x,s.AA[u]? =some x->ix (pre.foldl (GL c.World) (Gg c.World)).Count (u:Int)=x.AF
 n:s.AA.length=c.AA.length
theorem GP.step {c:BF} (hc:CK c) (hV:∀t∈c.AA,VS t) {pre:List AH} {s s':Ad} {ch:BK} {e:AH} (h:GP c pre s) (hp:pre.length≤400) (hs:BE c s ch=some (s',e,true)):GP c (pre++[e]) s':=by
 obtain⟨r,h1,h2⟩:=dC hc h.i (by omega) ch
 rw[hs]at h1
 obtain rfl:=AAR h1
 obtain⟨⟨q1,q2⟩,hsr⟩:=h2 rfl
 obtain⟨_,_,b3⟩:=sim (by omega) h.i h.l hsr
 obtain⟨x,x',x1,x2,x3⟩:=s7 hc hV h.i (by omega) h.l ch _ hs rfl
 obtain⟨y,y',y1,y2,_⟩:=hsr.th
 simp only at x2 y1 y2 q1 b3
 have hf:(pre++[e]).foldl (GL c.World) (Gg c.World)=GL c.World (pre.foldl (GL c.World) (Gg c.World)) e:=by rw[List.foldl_append];rfl
 have hx:=h.i.2 x (AAb x1)
 have ht:=hsr.p.t
 have hth:e.Thread=ch.Thread:=hsr.p.h
 have hn:=hsr.p.f.n;have hn2:=hsr.p.f.v.n
 refine⟨by rw[AA1];exact q1,by rw[hf];exact b3,λu a ha=> ?_,by rw[y2,List.length_set];exact h.n⟩
 rw[hf]
 show ix ((pre.foldl (GL c.World) (Gg c.World)).Count.set e.Thread.toNat (Ap (ix (pre.foldl (GL c.World) (Gg c.World)).Count e.Thread+1))) u=_
 have hcn:=h.l.n
 rw[hth]
 by_cases hu:(u:Int)=ch.Thread
 . have e1:ch.Thread.toNat=u:=by omega
   rw[e1]at x1 x2 ⊢
   rw[ha]at x2
   obtain rfl:=AAR x2
   have:=h.k u x x1
   rw[← hu,this,x3]
   have he:=hx.e
   rw[DR (by omega) (by omega)]
   unfold ix
   have D5:u<(pre.foldl (GL c.World) (Gg c.World)).Count.length:=by omega
   simp[D5]
 . have e1:ch.Thread.toNat≠u:=by omega
   rw[y2,AAV e1]at ha
   rw[← h.k u a ha]
   unfold ix
   rw[AAV (by omega)]
theorem GP.run {c:BF} (hc:CK c) (hV:∀t∈c.AA,VS t) {t:Ad}:∀{l pre s},GP c pre s->runE c s l t->pre.length+l.length≤400->GP c (pre++l) t
 |[],pre,s,h,hr,_=>by cases hr;rw[ABf];exact h
 |e::r,pre,s,h,⟨s',h1,h2⟩,hp=>by
  simp only[AA7]at hp
  have:=GP.run hc hV (h.step hc hV (by omega) h1) h2 (by simp;omega)
  rwa [AA6]at this
end Go.Abs
namespace Go.Abs
open Go.Proofs Go.RowKit
set_option maxRecDepth 100000
set_option maxHeartbeats 4000000
theorem Lj {α:Type} {e:α->List AV} {ok:α->Prop}:∀(rows:List (List AV)),(∀row∈rows,∃x:α,row=e x/\ok x)->∃l:List α,rows=l.map e/\∀x∈l,ok x
 |[],_=>⟨[],rfl,λ_ h=>by simp at h⟩
 |r::rs,h=>by
  obtain⟨l,hl,ho⟩:=Lj rs (λrow hr=>h row (by simp[hr]))
  obtain⟨x,hx,hxo⟩:=h r (by simp)
  refine⟨x::l,by rw[hx,hl];rfl,λy hy=> ?_⟩
  rcases AAp.1 hy with rfl|hy
  . exact hxo
  . exact ho y hy
def WR (x:Int):Prop:=(Lit.int .u8 x).wf=true
structure Yi (x:List Int):Prop where
 len:x.length*1≤reachBytes
 all:∀y∈x,WR y
theorem op5:Hf Tryz.prog 5 (λDt=>∃x:Int,Dt=[.sc (.int .u8 x)]/\WR x):=(Yj Tryz.underlying5).mono λ_ ⟨n,h,hw⟩=>⟨n,h,hw⟩
theorem arg5 (a:AV):XQ Tryz.prog 5 [a]=a:=by unfold XQ;rw[Tryz.underlying5];rfl
theorem op22:Hf Tryz.prog 22 (λDt=>∃x:List Int,Dt=[.sl false 1 (x.map YL)]/\Yi x):=by
 refine(Je (k:=1) Tryz.underlying22 (by kernel_rfl) (by omega) op5).mono ?_
 rintro Dt ⟨rows,rfl,hr,hb⟩
 obtain⟨l,rfl,hl⟩:=Lj (e:=YL) (ok:=WR) rows λrow h=>(hr row h).1
 have kT:Tryz.prog.bytesOf 5=1:=by kernel_rfl
 rw[kT,AAo]at hb
 exact⟨l,rfl,hb,hl⟩
theorem arg22 (a:AV):XQ Tryz.prog 22 [a]=a:=by unfold XQ;rw[Tryz.underlying22];rfl
theorem laid:laidOutB Tryz.prog=true:=by kernel_rfl
theorem own0:ownKnob Tryz.prog.godebug=none:=by kernel_rfl
abbrev bT:List (String×DataW Unit):=[("interleave/token.keywords",Go.Proofs.YtdadohkcmclilaaGreatDoor.Rows.laid_interleave_token_keywords)]
theorem gName:Tryz.prog.globalNamed "interleave/token.keywords" =some 0:=by kernel_rfl
theorem gType:(Tryz.prog.globals[0]?).map (·.type)=some 271:=by kernel_rfl
theorem pK:(Go.Proofs.YtdadohkcmclilaaGreatDoor.Rows.laid_interleave_token_keywords:DataW Unit)= .agg (Kg.map λs=>.lit (.string s.data.toList)):=rfl
theorem gD {W:World} (h:laidMetH Tryz.prog bT W):GI W (Old W):=by
 rw[MakeChecks.laidMetH_plain _ _ _ (by kernel_rfl)]at h
 obtain⟨ps,⟨g0,t0,cs0,f0,p0,q0,hg0,ht0,hv0,hd0,_,_⟩,_,_⟩:=h
 obtain rfl:=AAR (gName.symm.trans hg0)
 obtain rfl:=AAR (gType.symm.trans ht0)
 obtain⟨xs,m,rfl,hx,hlen,hn,hel⟩:=DataW.trod_array Tryz.underlying271 hd0
 have ce:Tryz.prog.cellsOf 9=1:=by kernel_rfl
 rw[pK]at hx
 simp only[AAc,DataW.agg.injEq]at hx
 have BR:∀(j:Nat) s,Kg[j]? =some s->W.cell? ⟨0,j,none⟩=some (.string s):=by
  intro j s hj
  have hjn:j<22:=by
   have:=(AAQ.1 hj).1
   exact this
  have hxj:(xs.map (·.1))[j]? =some (.lit (.string s.data.toList)):=by rw[← hx.1,AAZ,hj];rfl
  rw[AAZ]at hxj
  cases hxs:xs[j]? with
  |none=>rw[hxs]at hxj;cases hxj
  |some y=>
   have ht:=hel j hjn
   rw[hxs,ce]at ht
   obtain⟨s',Fl,hy,_⟩:=DataW.trod_string Tryz.underlying9 ht
   rw[hxs]at hxj
   simp only[AAl,AAN]at hxj
   rw[hy]at hxj
   simp only[DataW.lit.injEq,Lit.string.injEq]at hxj
   have hss:s'=s:=ByteArray.ext (Array.toList_inj.1 hxj)
   subst hss
   rw[World.var?_cell gName hv0 j]
   have:(cs0.toList.drop (j*1)).take 1=[.string s']:=Fl
   rw[Nat.mul_one]at this
   have h0:cs0.toList[j]? =some (.string s'):=by
    have h1:((cs0.toList.drop j).take 1)[0]? =some (.string s'):=by rw[this];rfl
    simpa using h1
   simpa using h0
 intro x hxm
 have:x=(0,Kg.map Value.string):=by simpa[Gam]using hxm
 subst this
 have h0:=BR 0 _ rfl
 obtain⟨_,D5⟩:=kA h0
 refine⟨D5,?_⟩
 unfold World.cell? at h0
 cases hb:W.heap[0]? with
 |none=>simp[hb]at h0
 |some LO=>
  cases LO with
  |cells arr E fz=>
   refine⟨arr,E,fz,rfl,λj v hj=> ?_⟩
   rw[AAZ]at hj
   cases hs:Kg[j]? with
   |none=>rw[hs]at hj;cases hj
   |some s=>
    rw[hs]at hj
    simp only[AAl,AAN]at hj
    subst hj
    have:=BR j s hs
    unfold World.cell? at this
    simpa[hb]using this
  |_=>simp[hb]at h0
end Go.Abs
namespace Go.Abs
theorem u8_of {x:Int} (h:WR x):0≤x/\x<256:=by
 unfold WR Lit.wf at h
 simp only[AAP,AAf]at h
 have h1:=h.1;have h2:=h.2
 have e1:IntKind.u8.min=0:=rfl
 have e2:IntKind.u8.max=255:=rfl
 omega
theorem WSnapshots_law {p s:List Int} {f:Int} (hp:Yi p) (hf:WR f):Bo p s f=some true:=WindowSnapshots_tot (λx hx=>u8_of (hp.all x hx)) (u8_of hf)
end Go.Abs
