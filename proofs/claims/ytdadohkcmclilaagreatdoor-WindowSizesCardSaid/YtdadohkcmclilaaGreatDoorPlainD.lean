/- What the typed programs give, in plain Lean. -/
import Derived.Test.YtdadohkcmclilaaGreatDoorPlainC
import Derived.Test.YtdadohkcmclilaaGreatDoorRows
import Derived.Test.YtdadohkcmclilaaGreatDoorTie
import Derived.ProofKit
import Derived.LaidMore
import Derived.OpenShut
import Derived.Shelf.Slices.SearchI
set_option linter.unusedSimpArgs false
set_option linter.unusedVariables false
namespace Go.Abs
set_option maxHeartbeats 4000000
theorem pS {a b:Type} {o:ABp a} {f:a->ABp b} {R:b->Prop} (k:∀x,o=some x->Kl (f x) R):Kl (o.bind f) R:=pB (Q:=λx=>o=some x) (λ_ e=>e) k
theorem vX {a:Type} {l:List a} {i:Int} {x:a} (h:gt l i=some x):(0≤i/\i<l.length)/\l[i.toNat]? =some x:=by
 unfold gt at h;split at h
 . have:=(AAQ.1 h).1;exact⟨by omega,h⟩
 . cases h
def Lnd (l:List Ab):Nat->Int->Prop
 |0,_=>False
 |n+1,a=>∃x,gt l a=some x/\(UF x.Op=false∨UF x.Op=true/\Lnd l n (if x.Op=5 then x.A else Ap (a+1)))
def OpN (x:Ab):Prop:=(x.Op=3->x.N=4∨x.N=5)/\(x.Op=4->6≤x.N/\x.N≤18)
def VSi (c:An) (k:Nat) (x:Ab):Prop:=Lnd c.A1 (c.A1.length+1) (k:Int)/\(x.Op=28↔k+1=c.A1.length)/\(x.Op=10->0≤x.B/\x.B<c.A1.length)/\OpN x
def VS (c:An):Prop:=∀(k:Nat) x,c.A1[k]? =some x->VSi c k x
theorem SC {n:Int} (h:1≤n/\n≤100):Cj n=some n:=by unfold Cj Cj.J1;rw[AAX (by simp;omega),AAX (by simp;omega)]
theorem mH {n:Int} (h:n=4∨n=5) (a:Int):Kl (Hq n a) λr=>r.2=true:=by unfold Hq;refine pI (λ_=>pR rfl) λb=>pI (λ_=>pS λ_ _=>pR rfl) λc=> ?_;simp at b c;omega
theorem eC {n:Int} (h:6≤n/\n≤18) (a b:Int):Kl (DW n a b) λr=>r.2=true:=by
 unfold DW DW.J1 DW.J2
 repeat' first|exact pR rfl|refine pS λ_ _=> ?_|refine pC λ_=> ?_|refine pI (λ_=> ?_) λ_=> ?_
 simp at *;omega
theorem zV {i:Ab} {s:AL} (l:∀y∈rg i,0≤y/\y<s.Br.length) (m:UF i.Op=true) (hn:OpN i):Kl (B4 i s) λr=>(r.2=true/\r.1.AF=s.AF)/\r.1.PC=(if i.Op=5 then i.A else Ap (s.PC+1))/\r.1.Br.length=s.Br.length/\r.1.Bn.length=s.Bn.length:=by
 have b:∀v ok t,ok=true->i.Op≠5->Kl (B4.J3 i s v ok t) λr=>(r.2=true/\r.1.AF=s.AF)/\r.1.PC=(if i.Op=5 then i.A else Ap (s.PC+1))/\r.1.Br.length=s.Br.length/\r.1.Bn.length=s.Bn.length:=by intro v ok t h g;unfold B4.J3;exact pC λ_=>pS λ_ _=>pS λ_ _=>pR ⟨⟨h,rfl⟩,by rw[AAX g],by simp,by simp⟩
 unfold B4;refine pE (GF i).1 (pLs (rg i).length (λ_ (_:Unit)=>True) (s0:=()) (F:=λn _ j=>B4.Aa i s (rg i) n j) (λ_ _=>rfl) (by have:=(GF i).2;omega) trivial λn j _ z _ k=> ?_);unfold B4.Aa B4.L1 B4.J1;refine pD (λu=>pE (CU (by omega)) ?_) λ_=> ?_
 . have:=l _ (AAi (show j<(rg i).length by omega));exact pD (λh=>by omega) λ_=>pI (λh=>by simp at h;omega) λ_=>k () (by omega) trivial
 . unfold B4.J2;refine pI (λh=>pR ⟨⟨rfl,rfl⟩,by rw[AAY (eq_of_beq h)],rfl,rfl⟩) λa=> ?_;have a:i.Op≠5:=(by simpa using a);refine pI (λw=>b _ _ _ rfl a) λo=>pI (λx=>pS λ_ _=>pS λ_ _=>b _ _ _ rfl a) λp=>pI (λd=> ?_) λq=> ?_
   . have h:=hn.1 (eq_of_beq d);exact pE (SC (by omega)) (pS λ_ _=>pB (mH h _) λf c=>pS λ_ _=>b _ _ _ c a)
   . have e:i.Op=4:=(by simp[UF]at m o p q;omega);have h:=hn.2 e;exact pE (SC (by omega)) (pS λ_ _=>pS λ_ _=>pB (eC h _ _) λf c=>pS λ_ _=>pS λ_ _=>pS λ_ _=>b _ _ _ c a)
theorem l9 {s:AL} (b:s.Bn.length≤100):Kl (Ch s) λr=>r=s:=by unfold Ch;refine pC λ_=>pLs s.Bn.length (λi o=>o=⟨s.PC,s.Br,s.Bn.take i,s.AF⟩) (F:=λn o i=>Ch.Aa s n o i) (λ_ _=>rfl) (by omega) rfl λn i o hi a k=> ?_;subst a;unfold Ch.Aa Ch.L1 Ch.J1;exact pD (λ_=>pE (CU (by omega)) (pC λ_=>pC λ_=>k _ (by omega) (by rw[AAk]))) λ_=>pR (by rw[AA3 (by omega)])
theorem eL {c:An} {s:AL} (G:VS c) (J:c.A1.length≤8000000) (z:∀x∈c.A1,∀y∈rg x,0≤y/\y<c.Br) (u:c.Br≤32) (E:(s.Br.length:Int)=c.Br) (L:(s.Bn.length:Int)=c.Br) (B:Lnd c.A1 (c.A1.length+1) s.PC):Kl (Bf c s) λr=>r.1.AF=s.AF:=by
 unfold Bf;refine pI (λh=>by simp at h;omega) λ_=> ?_;unfold Bf.J1;refine pI (λh=>by simp at h;omega) λ_=>pB (l9 (by omega)) λI o=> ?_;subst o;refine pLs (c.A1.length+1) (λi t=>(t.AF=I.AF/\(t.Br.length:Int)=c.Br)/\Lnd c.A1 (c.A1.length+1-i) t.PC) (F:=λn s j=>Bf.Aa c n s j) (λ_ _=>rfl) (by omega) ⟨⟨rfl,E⟩,B⟩ λn i t hi w k=> ?_;obtain⟨⟨l,m⟩,e⟩:=w;unfold Bf.Aa Bf.L1 Bf.J2 Bf.J3;refine pD (λC=> ?_) λM=> ?_
 . rw[show c.A1.length+1-i=(c.A1.length-i)+1 from by omega]at e;obtain⟨x,f,b⟩:=e;have K:=(vX f).1;have g:=(vX f).2;refine pD (λh=>by omega) λ_=>pI (λh=>by simp at h;omega) λ_=>pE f (pE (PO _) (pI (λ_=>pR l) λa=> ?_));have a:UF x.Op=true:=(by simpa using a);have b:=(b.resolve_left (by rw[a];simp)).2;refine pI (λh=> ?_) λp=> ?_
   . have:i=c.A1.length:=(by simp at h;omega);rw[show c.A1.length-i=0 from by omega]at b;exact b.elim
   . have D:=AAb g;have q:=G _ x g;refine pB (zV (λy H=>by rw[m];exact z x D y H) a q.2.2.2) λv d=>pI (λh=>by rw[d.1.1]at h;cases h) λ_=>k _ (by simp at p;omega) ⟨⟨d.1.2.trans l,by rw[d.2.2.1];exact m⟩,?_⟩;rw[d.2.1,show c.A1.length+1-(i+1)=c.A1.length-i from by omega];exact b
 . rw[show c.A1.length+1-i=0 from by omega]at e;exact e.elim
theorem pF3 {x y} {P:Ad×AH×Bool->Prop}:Kl (some (x,y,false)) λr:Ad×AH×Bool=>r.2.2=true->P r:=pR λh=>by cases h
theorem s7 {E:Nat} {c:BF} (hc:CK c) (hV:∀t∈c.AA,VS t) {s:Ad} (J:SI E s) (hE:E≤10000) {Z:List AH} {S:AB} (hl:LK c Z S s) (a:BK):
 Kl (BE c s a) λr=>r.2.2=true->∃x K,s.AA[a.Thread.toNat]? =some x/\r.1.AA[a.Thread.toNat]? =some K/\K.AF=x.AF+1:=by
 obtain⟨hr,J⟩:=J;unfold BE;refine pB (pT (To hc J (by omega) a.Thread)) λv U=>pI (λ_=>pF3) λh=> ?_;have U:=U (by simpa using h);obtain⟨o,T,_,hh,hi⟩:=U;have L:=EC o.v.w;have w1:=L.c;have w2:=L.f;have w3:=L.t;have c1:=o.c';have c2:=o.u;have c3:=o.n;have c4:=o.v.n;refine pS λap _=>pI (λ_=>pF3) λh2=>pE (Z0 J (by omega) (Tn.of L o.f (hr.mono (by omega))) (by omega) (by omega) (by omega)) ?_;obtain⟨x,x1,M,x3⟩:=Fm (l:=s.AA) (i:=a.Thread) (by omega);obtain⟨y,y1,y2,y3⟩:=Fm (l:=c.AA) (i:=a.Thread) (by omega);obtain⟨p1,p2,p3⟩:=o.t _ x y M y2;obtain⟨z,z1,z2,z3⟩:=Fm (l:=y.A1) (i:=x.PC) (by omega);obtain⟨q,q1,q2,q3⟩:=Fm (l:=s.Sync.AA) (i:=a.Thread) (by have:=(FA o.f).2.2;omega);have I:=hi x y z q M y2 z2 q2;have V:=J x x3;have d:=hV y y3;have H:=o.v.t _ y y2;have R:=hc.i y y3;have he:=V.e;have W:∀n:Int,0≤n->n<y.A1.length->Lnd y.A1 (y.A1.length+1) n:=λn n0 D=>by obtain⟨m,rfl⟩:∃m:Nat,n=m:=⟨n.toNat,by omega⟩;exact(d m _ (AAT (by omega))).1
 have X:v.1.Kind≠1->v.1.Kind≠2->Lnd y.A1 (y.A1.length+1) (Ap (x.PC+1)):=λk1 k2=>by
  have P:z.Op≠28:=by
   rcases I.s with⟨k,_⟩|⟨⟨q4,_⟩|⟨_,k,_⟩,_⟩
   . exact absurd k k1
   . obtain⟨z',b1,b2⟩:=hl.w _ x y q M y2 q2 (.inr q4);rw[z1]at b1;obtain rfl:=AAR b1;omega
   . exactλh=>k2 (k.2 h)
  have:=(d _ z z2).2.1;have:x.PC.toNat+1≠y.A1.length:=λh=>P (this.2 h);rw[DR (by omega) (by omega)];exact W _ (by omega) (by omega)
 refine pE x1 (pE y1 (pE z1 ?_))
 let G:Ad×AH×Bool->Prop:=λr=>r.2.2=true->∃x K,s.AA[a.Thread.toNat]? =some x/\r.1.AA[a.Thread.toNat]? =some K/\K.AF=x.AF+1
 have j6:∀e C F t,t.AF=x.AF+1->Kl (BE.J6 a e C F ap s t) G:=by intro e C F t B;unfold BE.J6;exact pS λ_ _=>pR λ_=>⟨x,t,M,by simp only;rw[AAS (by omega)],B⟩
 have j5:∀e n C F t b,(t.AF=x.AF/\(t.Br.length:Int)=y.Br/\(t.Bn.length:Int)=y.Br)->(b=true->Lnd y.A1 (y.A1.length+1) n)->Kl (BE.J5 c a e n C F t ap s b) G:=by
  intro e n C F t b B Q;unfold BE.J5;have e1:Ap (t.AF+1)=x.AF+1:=by rw[B.1];exact DR (by omega) (by omega)
  refine pI (λh=>pE y1 (pB (eL d R (λx V=>(H.i x V).g) H.r.2 B.2.1 B.2.2 (Q h)) λu hu=>j6 _ _ _ _ (hu.trans e1))) λ_=>j6 _ _ _ _ e1
 have j3:∀e n C F b,(e.Kind≠16->e.Kind≠2->Lnd y.A1 (y.A1.length+1) n)->Kl (BE.J3 c a e n C F ap s x z b) G:=by
  intro e n C F b hn;unfold BE.J3 BE.J4;have k:∀t,(t.AF=x.AF/\(t.Br.length:Int)=y.Br/\(t.Bn.length:Int)=y.Br)->Kl (if(e.Kind != 16)=true then BE.J5 c a e n C F t ap s (e.Kind != 2)else BE.J5 c a e n C F t ap s false) G:=λt T=>pI (λO=>j5 _ _ _ _ _ _ T λh2=>hn (by simpa using O) (by simpa using h2)) λ_=>j5 _ _ _ _ _ _ T λh=>by cases h
  exact pI (λ_=>pS λ_ _=>pS λ_ _=>k _ ⟨rfl,by simpa using p2,by simpa using p3⟩) λ_=>k _ ⟨rfl,p2,p3⟩
 have p:∀C F e n,(e.Kind≠16->e.Kind≠2->Lnd y.A1 (y.A1.length+1) n)->Kl (BE.J2 c a ap s x z C F e n) G:=by intro C F e n hn;unfold BE.J2;exact pI (λ_=>j3 _ _ _ _ _ hn) λ_=>j3 _ _ _ _ _ hn
 have j1:∀b,(b=false->v.1.Kind≠1)->Kl (BE.J1 c a v ap s x z b) G:=by
  intro b Q;unfold BE.J1;refine pI (λ_=>p _ _ _ _ λ_ _=>W _ p1.1 p1.2) λh0=> ?_;have D:=X (Q h0);refine pI (λ_=>pS λ_ _=>p _ _ _ _ λ_ k=>D k) λ_=>pI (λ_=>pS λ_ _=>p _ _ _ _ λ_ k=>D k) λ_=>pI (λ_=>pS λ_ _=>pS λ_ _=>p _ _ _ _ λ_ k=>D k) λ_=>pI (λ_=>pS λ_ _=>pS λ_ _=>p _ _ _ _ λ_ k=>D k) λ_=>pI (λh5=>pS λ_ _=>pI (λ_=>p _ _ _ _ λ_ _=> ?_) λ_=>p _ _ _ _ λ_ k=>D k) λ_=>p _ _ _ _ λ_ k=>D k
  have:=(d _ z z2).2.2.1 (I.j (eq_of_beq h5));exact W _ this.1 this.2
 exact pI (λh=>j1 _ λN=>by rw[N]at h;cases h) λB=>pI (λh=>j1 _ λN=>by rw[N]at h;cases h) λ_=>j1 _ λ_=>by simpa using B
def chOf (e:AH):BK:=⟨e.Thread,if e.Kind=18/\0≤e.Value/\e.Value<4 then e.Value else -1⟩
def runE (c:BF):Ad->List AH->Ad->Prop
 |s,[],t=>s=t
 |s,e::r,t=>∃s',BE c s (chOf e)=some (s',e,true)/\runE c s' r t
structure GP (c:BF) (pre:List AH) (s:Ad):Prop where
 i:SI pre.length s
 l:LK c pre (pre.foldl (GL c.World) (Gg c.World)) s
 k:∀(u:Nat) x,s.AA[u]? =some x->ix (pre.foldl (GL c.World) (Gg c.World)).Count (u:Int)=x.AF
 n:s.AA.length=c.AA.length
theorem GP.step {c:BF} (C:CK c) (J:∀t∈c.AA,VS t) {b:List AH} {s G:Ad} {g:BK} {e:AH} (h:GP c b s) (Q:b.length≤400) (E:BE c s g=some (G,e,true)):GP c (b++[e]) G:=by
 obtain⟨r,B,I⟩:=dC C h.i (by omega) g;rw[E]at B;obtain rfl:=AAR B;obtain⟨⟨F,S⟩,d⟩:=I rfl;obtain⟨_,_,z⟩:=sim (by omega) h.i h.l d;obtain⟨x,T,w,j,O⟩:=s7 C J h.i (by omega) h.l g _ E rfl;obtain⟨y,U,y1,y2,_⟩:=d.th;simp only at j y1 y2 F z;have D:(b++[e]).foldl (GL c.World) (Gg c.World)=GL c.World (b.foldl (GL c.World) (Gg c.World)) e:=by rw[List.foldl_append];rfl
 have N:=h.i.2 x (AAb w);have R:=d.p.t;have q:e.Thread=g.Thread:=d.p.h;have hn:=d.p.f.n;have L:=d.p.f.v.n;refine⟨by rw[AA1];exact F,by rw[D];exact z,λu a o=> ?_,by rw[y2,List.length_set];exact h.n⟩;rw[D];show ix ((b.foldl (GL c.World) (Gg c.World)).Count.set e.Thread.toNat (Ap (ix (b.foldl (GL c.World) (Gg c.World)).Count e.Thread+1))) u=_;have K:=h.l.n;rw[q];by_cases M:(u:Int)=g.Thread
 . have m:g.Thread.toNat=u:=(by omega);rw[m]at w j ⊢;rw[o]at j;obtain rfl:=AAR j
   have:=h.k u x w;rw[← M,this,O];have P:=N.e;rw[DR (by omega) (by omega)];unfold ix;have H:u<(b.foldl (GL c.World) (Gg c.World)).Count.length:=(by omega);simp[H]
 . have m:g.Thread.toNat≠u:=(by omega);rw[y2,AAV m]at o;rw[← h.k u a o];unfold ix;rw[AAV (by omega)]
theorem GP.run {c:BF} (b:CK c) (a:∀t∈c.AA,VS t) {t:Ad}:∀{l pre s},GP c pre s->runE c s l t->pre.length+l.length≤400->GP c (pre++l) t
 |[],pre,s,h,hr,_=>by cases hr;rw[ABf];exact h
 |e::r,pre,s,h,⟨s',h1,h2⟩,hp=>by
  simp only[AA7]at hp
  have:=GP.run b a (h.step b a (by omega) h1) h2 (by simp;omega);rwa [AA6]at this
end Go.Abs
namespace Go.Abs
open Go.Proofs Go.RowKit
set_option maxRecDepth 100000
set_option maxHeartbeats 4000000
theorem Lj {b:Type} {e:b->List AV} {ok:b->Prop}:∀(rows:List (List AV)),(∀a∈rows,∃x:b,a=e x/\ok x)->∃l:List b,rows=l.map e/\∀x∈l,ok x
 |[],_=>⟨[],rfl,λ_ h=>by simp at h⟩
 |r::rs,h=>by
  obtain⟨l,f,g⟩:=Lj rs (λa i=>h a (by simp[i]));obtain⟨x,j,c⟩:=h r (by simp);refine⟨x::l,by rw[j,f];rfl,λy d=> ?_⟩;rcases AAp.1 d with rfl|d
  . exact c
  . exact g y d
def WR (x:Int):Prop:=(Lit.int .u8 x).wf=true
structure Yi (x:List Int):Prop where
 len:x.length*1≤reachBytes
 all:∀y∈x,WR y
theorem op5:Hf Tryz.prog 5 (λa=>∃x:Int,a=[.sc (.int .u8 x)]/\WR x):=(Yj Tryz.underlying5).mono λ_ ⟨n,h,b⟩=>⟨n,h,b⟩
theorem arg5 (a:AV):XQ Tryz.prog 5 [a]=a:=by unfold XQ;rw[Tryz.underlying5];rfl
theorem op22:Hf Tryz.prog 22 (λb=>∃x:List Int,b=[.sl false 1 (x.map YL)]/\Yi x):=by
 refine(Je (k:=1) Tryz.underlying22 (by kernel_rfl) (by omega) op5).mono ?_;rintro b ⟨rows,rfl,f,c⟩;obtain⟨l,rfl,d⟩:=Lj (e:=YL) (ok:=WR) rows λa h=>(f a h).1;have g:Tryz.prog.bytesOf 5=1:=by kernel_rfl
 rw[g,AAo]at c;exact⟨l,rfl,c,d⟩
theorem arg22 (a:AV):XQ Tryz.prog 22 [a]=a:=by unfold XQ;rw[Tryz.underlying22];rfl
theorem laid:laidOutB Tryz.prog=true:=by kernel_rfl
theorem own0:ownKnob Tryz.prog.godebug=none:=by kernel_rfl
abbrev bT:List (String×DataW Unit):=[("interleave/token.keywords",Go.Proofs.YtdadohkcmclilaaGreatDoor.Rows.laid_interleave_token_keywords)]
theorem gName:Tryz.prog.globalNamed "interleave/token.keywords" =some 0:=by kernel_rfl
theorem gType:(Tryz.prog.globals[0]?).map (·.type)=some 271:=by kernel_rfl
theorem pK:(Go.Proofs.YtdadohkcmclilaaGreatDoor.Rows.laid_interleave_token_keywords:DataW Unit)= .agg (Kg.map λs=>.lit (.string s.data.toList)):=rfl
theorem gD {W:World} (h:laidMetH Tryz.prog bT W):GI W (Old W):=by
 rw[MakeChecks.laidMetH_plain _ _ _ (by kernel_rfl)]at h;obtain⟨I,⟨G,K,c,F,H,J,i,n,o,f,_,_⟩,_,_⟩:=h;obtain rfl:=AAR (gName.symm.trans i);obtain rfl:=AAR (gType.symm.trans n);obtain⟨w,m,rfl,p,t,hn,g⟩:=DataW.trod_array Tryz.underlying271 f;have ce:Tryz.prog.cellsOf 9=1:=by kernel_rfl
 rw[pK]at p;simp only[AAc,DataW.agg.injEq]at p;have r:∀(j:Nat) s,Kg[j]? =some s->W.cell? ⟨0,j,none⟩=some (.string s):=by
  intro j s b;have k:j<22:=by have:=(AAQ.1 b).1;exact this
  have a:(w.map (·.1))[j]? =some (.lit (.string s.data.toList)):=by rw[← p.1,AAZ,b];rfl
  rw[AAZ]at a;cases hxs:w[j]? with
  |none=>rw[hxs]at a;cases a
  |some y=>have u:=g j k;rw[hxs,ce]at u;obtain⟨e,B,D,_⟩:=DataW.trod_string Tryz.underlying9 u;rw[hxs]at a;simp only[AAl,AAN]at a;rw[D]at a;simp only[DataW.lit.injEq,Lit.string.injEq]at a;have l:e=s:=ByteArray.ext (Array.toList_inj.1 a);subst l;rw[World.var?_cell gName o j];have:(c.toList.drop (j*1)).take 1=[.string e]:=B;rw[Nat.mul_one]at this;have d:c.toList[j]? =some (.string e):=(by have C:((c.toList.drop j).take 1)[0]? =some (.string e):=(by rw[this];rfl);simpa using C);simpa using d
 intro x q;have:x=(0,Kg.map Value.string):=by simpa[Gam]using q
 subst this;have d:=r 0 _ rfl;obtain⟨_,z⟩:=kA d;refine⟨z,?_⟩;unfold World.cell? at d;cases hb:W.heap[0]? with
 |none=>simp[hb]at d
 |some LO=>
  cases LO with
  |cells arr E fz=>
   refine⟨arr,E,fz,rfl,λj v b=> ?_⟩;rw[AAZ]at b;cases hs:Kg[j]? with
   |none=>rw[hs]at b;cases b
   |some s=>
    rw[hs]at b;simp only[AAl,AAN]at b;subst b
    have:=r j s hs;unfold World.cell? at this;simpa[hb]using this
  |_=>simp[hb]at d
end Go.Abs
namespace Go.Abs
theorem u8_of {x:Int} (h:WR x):0≤x/\x<256:=by unfold WR Lit.wf at h;simp only[AAP,AAf]at h;have c:=h.1;have d:=h.2;have a:IntKind.u8.min=0:=rfl;have b:IntKind.u8.max=255:=rfl;omega
theorem WSizes_law {p s:List Int} {f:Int} (b:Yi p) (a:WR f):Dd p s f=some true:=WindowSizes_tot (λx c=>u8_of (b.all x c)) (u8_of a)
end Go.Abs
