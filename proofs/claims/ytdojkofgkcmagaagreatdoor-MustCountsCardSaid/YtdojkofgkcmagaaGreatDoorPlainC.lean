/- What the typed programs give, in plain Lean. -/
import Derived.Test.YtdojkofgkcmagaaGreatDoorWalkR
import Derived.Test.YtdojkofgkcmagaaGreatDoorPlainB
import Derived.KernelRfl
import Derived.Shelf.Slices.SearchI
set_option linter.all false
namespace Go.Abs
set_option maxHeartbeats 4000000
variable{p:Aa}{wv:Bi}{e:BU}{E u k:Nat}
section
variable{T:lr}
theorem eA(l:m9)(s:ABn)(a:l.length<1000000):CX (DZ l s) λr=> -1<=r/\r<l.length:=by unfold DZ;refine tL l.length ah λn i hi k=>?_;unfold DZ.AU DZ.L1 DZ.J1;exact tD (λ_=>tG ah λx _=>tI (λ_=>tR ah) λ_=>k ah) λ_=>tR ah
theorem Si(l:List DB)(s:ABn)(a:l.length<1000000):CX (DO l s) λr=> -1<=r/\r<l.length:=by unfold DO;refine tL l.length ah λn i hi k=>?_;unfold DO.AU DO.L1 DO.J1;exact tD (λ_=>tG ah λx _=>tI (λ_=>tR ah) λ_=>k ah) λ_=>tR ah
theorem AAG(h:MP p):TT (I0 p.ek):=by have hd:=h.dl;have key:CX (HG.bind I0) λ_=>True:=⟨(0,0),by decide +kernel,trivial⟩;rw[h.d]at key;exact key
theorem pV(h:MP p):TT (DF p):=by
 have hd:=h.dl;have g:=h.t;have j1:∀{F:ky}{i:Int}{x:DB}(b:Bool),TT (F (A9 (i+1)))->TT (DF.J1 F i x b):=by intro F i x b k;unfold DF.J1;exact tI (λ_=>tR trivial) λ_=>k
 have a:∀{F:ky}{i:Int}{x:DB}(b:Bool),TT (F (A9 (i+1)))->TT (DF.J3 F i x b):=by intro F i x b k;unfold DF.J3;exact tI (λ_=>tR trivial) λ_=>k
 unfold DF;refine tL p.AB.length ah λn i hi k=>?_;unfold DF.AU DF.L1 DF.J2;refine tD (λ_=>tG ah λx d=>tB (eA _ _ ah) λ_ _=>tI (λ_=>j1 _ (k ah)) λ_=>tC ah (tB (Si _ _ an) λ_ _=>j1 _ (k ah))) λ_=>?_;refine tL p.AB.length ah λn i hi k=>?_;unfold DF.B9 DF.L2;refine tD (λ_=>tG ah λx d=>tI (λ_=>tR trivial) λ_=>tL x.Hp.length aA λm j e c=>?_) λ_=>tR trivial;have f:=h.l x d;unfold DF.Fw DF.L3 DF.J4;refine tD (λ_=>tG ah λy o=>tB (eA _ _ ah) λ_ _=>tI (λ_=>a _ (c ah)) λ_=>tB (Si _ _ ah) λ_ _=>tI (λ_=>a _ (c ah)) λ_=>tC ah (tB (XQ _ _ an) λ_ _=>a _ (c ah))) λ_=>k ah
theorem Count_tot(d:Nat):∀(n:Nat)(l:kh),d+1<=n->eJ T d l->TT (Ie n l):=by induction d with|zero=>intro n l hn ⟨_,h⟩;obtain⟨n,rfl⟩:∃k,n=k+1:=⟨n-1,ah⟩;have:l=[]:=ABV.2 λx a=>(h x a).elim;subst this;show TT (EG (Ie n) []);exact tR trivial|succ d ih=>intro n l hn ⟨h1,h2⟩;obtain⟨n,rfl⟩:∃k,n=k+1:=⟨n-1,ah⟩;show TT (EG (Ie n) l);unfold EG;refine aX l.length (λ_ _=>True) (F:=λn s i=>EG.AU _ l n s i) ah trivial λm i s hi _ k=>?_;unfold EG.AU EG.L1 EG.J1;exact tD (λ_=>tG ah λx a=>NI (ih n _ ah (h2 x a).body) λ_=>NI (ih n _ ah (h2 x a).els) λ_=>k _ ah trivial) λ_=>tR trivial
theorem inside_tot(h:wv.HQ.length<=100)(a b:Int)(s:ABn):CX (CL wv a b s) λr=>r.2=wv:=by
 have j1:∀{F:Int->ABm (Bool×Bi)} {i:Int} (b:Bool),CX (F (A9 (i+1))) (λr=>r.2=wv)->CX (CL.J1 F i wv b) λr=>r.2=wv:=by intro F i b k;unfold CL.J1;exact tI (λ_=>tR rfl) λ_=>k
 unfold CL;refine tL wv.HQ.length ah λn i hi k=>?_;unfold CL.AU CL.L1 CL.J2;refine tD (λ_=>tG ah λx c=>?_) λ_=>tR rfl;grind
theorem KindOf_tot(h:MP p)(t:Int)(s:ABn):TT (GJ p t s):=by
 have hd:=h.dl;have d:=h.t;have j1:∀b,TT (GJ.J1 p s b):=by
  intro b;unfold GJ.J1;refine tI (λ_=>tR trivial) λ_=>tB (eA _ _ ah) λv e=>tD (λ_=>tB (Si _ _ ah) λ_ _=>tI (λ_=>tR trivial) λ_=>tR trivial) λ_=>tG ah λx _=>?_;have c:∀b,TT (GJ.J2 p v b):=by intro b;unfold GJ.J2;exact tI (λ_=>tG ah λ_ _=>tR trivial) λ_=>tR trivial
  repeat' first|exact tR trivial|exact c _|refine tI (λ_=>?_) λ_=>?_
 unfold GJ;exact tD (λ_=>tD (λ_=>tG ah λx a=>tB (XQ _ _ (by have:=h.l x a;omega)) λ_ _=>j1 _) λ_=>j1 _) λ_=>j1 _
theorem RQ(h:MP p)(t:Int)(s:ABn)(a b:Int):TT (Dr p t s a b):=by unfold Dr Dr.J1;refine NI (KindOf_tot h t s) λ_=>?_;repeat' first|exact tR trivial|refine tI (λ_=>?_) λ_=>?_
theorem Nodes_tot(d:Nat):∀(n:Nat)(e:BU),d<=n->dE d e->TT (Lq n e):=by induction d with|zero=>exactλn e _ h=>h.elim|succ d ih=>intro n e hn ⟨h1,h2⟩;obtain⟨n,rfl⟩:∃k,n=k+1:=⟨n-1,ah⟩;show TT (HD (Lq n) e);unfold HD;refine aX e.L.length (λ_ _=>True) (F:=λn (s:Int×Int) i=>HD.AU _ e n s.1 s.2 i) ah (s0:=(1,0)) trivial λm i s hi _ k=>?_;unfold HD.AU HD.L1 HD.J1;exact tD (λ_=>tG ah λx a=>NI (ih n x ah (h2 x a)) λv=>k (_,_) ah trivial) λ_=>tR trivial
theorem names_tot(h:MP p)(t:Int)(d:Nat):∀(n:Nat)(e:BU),d<=n->dE d e->TT (Kh n p t e):=by
 induction d with
 |zero=>exactλn e _ h=>h.elim
 |succ d ih=>
  intro n e hn ⟨h1,h2⟩;obtain⟨n,rfl⟩:∃k,n=k+1:=⟨n-1,ah⟩;show TT (Fi (Kh n) p t e);have j1:∀r,TT (Fi.J1 (Kh n) e p t r):=by intro r;unfold Fi.J1;refine aX e.L.length (λ_ _=>True) (F:=λm s i=>Fi.AU _ e p t m s i) ah trivial λm i s hi _ k=>?_;unfold Fi.AU Fi.L1 Fi.J2 Fi.J3;exact tD (λ_=>tI (λ_=>tG ah λx a=>NI (ih n x ah (h2 x a)) λv=>k _ ah trivial) λ_=>tR trivial) λ_=>tI bn λ_=>tR trivial
  unfold Fi;exact tI (λ_=>NI (RQ h _ _ _ _) λ_=>j1 _) λ_=>tI (λ_=>NI (RQ h _ _ _ _) λ_=>j1 _) λ_=>j1 _
theorem Expr_tot(h:MP p)(t:Int)(a:dE 2 e):TT (GN p t e):=by
 have j1:∀b,TT (GN.J1 e p t b):=by intro b;unfold GN.J1;exact tI (λ_=>tR trivial) λ_=>NI (names_tot h t 2 _ e (UR ah) a) λ_=>tR trivial
 unfold GN;exact NI (SE_tot a) λ_=>tI (λ_=>tR trivial) λ_=>NI (Nodes_tot 2 _ e (UR ah) a) λ_=>tI (λ_=>j1 _) λ_=>j1 _
theorem XT(a b:Int):TT (Fp a b):=by unfold Fp;exact tI (λ_=>tR trivial) λ_=>tR trivial
theorem M5(b:Bool):TT (CV b):=by unfold CV;exact tI (λ_=>tR trivial) λ_=>tR trivial
structure WK (p:Aa) (A K:Nat) (wv:Bi):Prop where
 p:wv.p=p
 a:wv.HQ.length=A
 s:wv.NN.length<=K
 t:wv.bP.length<=K
theorem WK.mono{A:Nat}(h:WK p A E wv)(b:E<=u):WK p A u wv:=⟨h.p,h.a,by have:=h.s;omega,by have:=h.t;omega⟩
theorem one_tot(h:MP p){A:Nat}(f:WK p A E wv)(H:A<=100)(J:E<=900000){s:AX}(o:Kx T (k+1) s):CX (CJ wv s) λr=>WK p A (E+1) r.2:=by
 have hd:=h.dl;have n:=h.t;have m:=f.a;have F:=f.s;have G:=f.t;obtain rfl:=f.p;have W:WK wv.p A (E+1) wv:=f.mono ah;have I:=λa b s=>inside_tot (wv:=wv) ah a b s;have K:=Expr_tot h wv.CA o.e;have j:∀(b:Bool) e,CX (CJ.gN s (b,wv) wv e) λr=>WK wv.p A (E+1) r.2:=by intro b e;unfold CJ.gN;exact tC (Cd aA) (NI K λ_=>NI (XT _ _) λ_=>tR ⟨rfl,m,W.s,an⟩)
 have g:∀(b c:Bool) e,CX (CJ.P9 e s (b,wv) wv c) λr=>WK wv.p A (E+1) r.2:=by intro b c e;unfold CJ.P9;exact tI (λ_=>j _ _) λ_=>j _ _
 have q:∀(b:Bool) e,CX (CJ.OE s (b,wv) wv e) λr=>WK wv.p A (E+1) r.2:=by intro b e;unfold CJ.OE;exact tI (λ_=>tB (XQ _ _ aA) λ_ _=>g _ _ _) λ_=>g _ _ _
 have D:∀(b c:Bool),CX (CJ.J8 s (b,wv) c) λr=>WK wv.p A (E+1) r.2:=by intro b c;unfold CJ.J8;exact tI (λ_=>tR W) λ_=>tB (XQ _ _ aA) λ_ _=>tI (λ_=>tR W) λ_=>tC (Cd aA) (tR ⟨rfl,m,an,W.t⟩)
 have z:s.Op∈[(9:Int),10,11]->CX (DZ wv.p.ek s.dq) λr=>0<=r/\r<9:=by
  intro B;rw[o.2.2.2.1 B];have key:HG.bind (λl=>DZ l cN)=some 7:=by decide +kernel
  rw[h.d]at key;exact⟨7,key,ah⟩
 have C:∀(b c d t:Bool),(t=true->s.Op∈[(9:Int),10,11])->CX (CJ.J6 s (b,wv) (c,wv) (d,wv) wv t) λr=>WK wv.p A (E+1) r.2:=by
  intro b c d t v;unfold CJ.J6 CJ.J7 CJ.J9;refine tI (λn=>NI (RQ h _ _ _ _) λ_=>tI (λ_=>tR W) λ_=>tB (z (v n)) λ_ _=>tG ah λx _=>tB (I _ _ _) ?_) λ_=>?_
  . rintro⟨e,_⟩ rfl;repeat' first|exact tR W|refine NI (M5 _) λ_=>?_|refine tI (λ_=>?_) λ_=>?_
  . repeat' first|exact tR W|refine NI (RQ h _ _ _ _) λ_=>?_|refine NI (M5 _) λ_=>?_|refine NI (XT _ _) λ_=>?_|exact D _ _|exact q _ _|refine tB (Si _ _ ah) λ_ _=>?_|refine tI (λ_=>?_) λ_=>?_
 have u:∀(b c d t:Bool),CX (CJ.J3 s (b,wv) (c,wv) (d,wv) wv t) λr=>WK wv.p A (E+1) r.2:=by intro b c d t;unfold CJ.J3 CJ.J4 CJ.J5;refine tI (λn=>NI (RQ h _ _ _ _) λ_=>tI (λ_=>NI (M5 _) λ_=>NI (XT _ _) λ_=>tR W) λ_=>tB (I _ _ _) ?_) λ_=>?_;rintro⟨e,_⟩ rfl;exact NI (M5 _) λ_=>NI (XT _ _) λ_=>tR W;(. repeat' first|exact tR W|refine NI (M5 _) λ_=>?_|exact C _ _ _ _ (λh=>am)|refine tI (λ_=>?_) λ_=>?_)
 have j1:∀(b c d t:Bool),CX (CJ.J1 s (b,wv) (c,wv) (d,wv) wv t) λr=>WK wv.p A (E+1) r.2:=by intro b c d t;unfold CJ.J1 CJ.J2;refine tI (λn=>NI K λ_=>tR W) λ_=>tI (λ_=>NI (RQ h _ _ _ _) λ_=>tI (λ_=>NI (M5 _) λ_=>NI (XT _ _) λ_=>tR W) λ_=>tB (I _ _ _) ?_) λ_=>tI (λ_=>u _ _ _ _) λ_=>u _ _ _ _;rintro⟨e,_⟩ rfl;exact NI (M5 _) λ_=>NI (XT _ _) λ_=>tR W
 unfold CJ;refine tB (I _ _ _) ?_;rintro⟨b,w⟩ e;obtain rfl:wv=w:=e.symm;refine tB (I _ _ _) ?_;rintro⟨c,w⟩ e;obtain rfl:wv=w:=e.symm;refine tB (I _ _ _) ?_;rintro⟨d,w⟩ e;obtain rfl:wv=w:=e.symm;refine tI (λ_=>?_) λ_=>tI (λ_=>j1 _ _ _ _) λ_=>j1 _ _ _ _;refine tI (λ_=>NI (RQ h _ _ _ _) λ_=>NI K λ_=>NI (XT _ _) λ_=>tR W) λhi=>NI (RQ h _ _ _ _) λ_=>?_;rcases o.i with e|⟨a,e,m⟩
 simp_all;rw[e];exact tE (y:=a) rfl (NI (Expr_tot h wv.CA m) λ_=>NI K λ_=>NI (XT _ _) λ_=>NI (XT _ _) λ_=>tR W)
def K5:Nat->Nat|0=>0|d+1=>1+20*K5 d
theorem all_tot(h:MP p)(d:Nat):∀(n A K:Nat)(wv:Bi)(l:kh),d+1<=n->A+d<=50->K+10*K5 d<=900000->WK p A K wv->eJ T d l->CX (Gq n wv l) λr=>WK p A (K+10*K5 d) r.2.2:=by
 induction d with
 |zero=>intro n A K wv l hn B C b ⟨_,h⟩;obtain⟨n,rfl⟩:∃k,n=k+1:=⟨n-1,ah⟩;have:l=[]:=ABV.2 λx j=>(h x j).elim;subst this;show CX (C3 (Gq n) wv []) _;exact tR b
 |succ d ih=>
  intro n A K wv l hn B C b ⟨h1,h2⟩;obtain⟨n,rfl⟩:∃k,n=k+1:=⟨n-1,ah⟩;show CX (C3 (Gq n) wv l) _;unfold C3;have H:K5 (d+1)=1+20*K5 d:=rfl;refine aX l.length (λi wv=>WK p A (K+i*K5 (d+1)) wv) (F:=λn s i=>C3.AU _ l n s i) ah am λm i s hi u k=>?_;have J:i*K5 (d+1)<=10*K5 (d+1):=ABC _ ah;have o:∀{w},WK p A (K+i*K5 (d+1)) w->WK p A (K+10*K5 (d+1)) w:=λh=>h.mono ah;unfold C3.AU C3.L1 C3.J3;refine tD (λE=>tG ah λx j=>tB (one_tot h u ah ah (h2 x j)) λv f=>?_) λ_=>tR (o u);have G:(i+1)*K5 (d+1)<=10*K5 (d+1):=ABC _ ah;have I:(i+1)*K5 (d+1)=i*K5 (d+1)+K5 (d+1):=Nat.succ_mul _ _;have y:∀(w:Bi)(e c:Int),WK p (A+1) (K+(i+1)*K5 (d+1)) w->CX (C3.J2 (C3.AU (Gq n) l m) i w e c) λr=>WK p A (K+10*K5 (d+1)) r.2.2:=by intro w e c b;have D:=b.a;unfold C3.J2;rw[CY (n:=(w.HQ.length:Int)-1) ah ah];have z:WK p A (K+(i+1)*K5 (d+1)) (Bi.mk w.p w.CA (w.HQ.take ((w.HQ.length:Int)-1).toNat) w.NN w.bP):=⟨b.p,an,b.s,b.t⟩;exact tC ah (tI (λ_=>tR (z.mono ah)) λ_=>k _ ah z)
  have j1:∀e,CX (C3.J1 (C3.AU (Gq n) l m) (Gq n) i v x e) λr=>WK p A (K+10*K5 (d+1)) r.2.2:=by intro e;have D:=f.a;unfold C3.J1;refine tI (λ_=>tR (f.mono ah)) λ_=>tC (Cd ah) (tG an λ_ _=>?_);refine tB (ih n (A+1) (K+i*K5 (d+1)+1) _ _ ah ah ah ⟨f.p,an,f.s,f.t⟩ (h2 x j).body) λL g=>?_;refine tI (λ_=>?_) λ_=>y _ _ _ (g.mono ah);exact tB (ih n (A+1) _ _ _ ah ah ah g (h2 x j).els) λM q=>y _ _ _ (q.mono ah)
  grind
theorem zU(h:MP p):TT (Bz p):=by have hd:=h.dl;have j:=h.t;have g:K5 4=8421:=rfl;unfold Bz;refine NI (rG h) λ_=>tI (λ_=>tR trivial) λ_=>NI (AAG h) λ_=>tI (λ_=>tR trivial) λ_=>tI (λ_=>tR trivial) λ_=>NI (pV h) λ_=>tI (λ_=>tR trivial) λ_=>?_;refine aX p.AB.length (λ_ _=>True) (F:=λn s i=>Bz.AU p n s i) ah trivial λm i s hi _ k=>?_;unfold Bz.AU Bz.L1 Bz.J1;refine tD (λ_=>tG ah λx d=>NI (Count_tot 4 _ _ (UR ah) (h.b x d)) λ_=>k _ ah trivial) λ_=>tI (λ_=>tR trivial) λ_=>?_;refine aX p.AB.length (λi w=>WK p 0 (i*84210) w) (F:=λn s i=>Bz.B9 p n s i) ah ⟨rfl,rfl,ak,ak⟩ λm i s hi c k=>?_;unfold Bz.B9 Bz.L2 Bz.J2;refine tD (λf=>tG ah λx d=>?_) λ_=>tR trivial;refine tB (all_tot h 4 _ 0 (i*84210) _ _ (UR ah) ah ah ⟨c.p,c.a,c.s,c.t⟩ (h.b x d)) λv e=>tI (λ_=>tR trivial) λ_=>k _ ah (e.mono ah)
end
variable{W:iT}
section
variable{T:lr}
structure MK1 (N i:Nat) (m:AO) (p:Aa):Prop where
 t:FG m.t
 h:m.eb=[]
 d:HG=some p.ek
 n:p.AB.length=i
 b:∀t∈p.AB,eJ (λs=>s∈YL.take N) 4 t.dz
 nm:p.AB.map (·.dq)=YL.take i
 lo:∀t∈p.AB,t.Hp=uE
abbrev MPO(p:Aa):Prop:=MP p/\∃l,Bz p=some (0,l)
theorem Program_tot{l:iT}(R:l.length<=4000000000000000000)(S:∀x∈l,0<=x/\x<256):CX (Cx l) MPO:=by
 have hd:∃D,HG=some D:=⟨_,rfl⟩;obtain⟨D,r⟩:=hd;have I:YL.length=4:=rfl;unfold Cx;refine tE r (tB (KA (t:=⟨l,0⟩) ⟨R,ak,S⟩ ah) ?_);rintro⟨v,G⟩ ⟨U,u⟩;simp only at U u;have M:A9 (2+v)=2+v:=CY ah ah;refine aX (2+v).toNat (λi (s:AO×Aa)=>MK1 (2+v).toNat i s.1 s.2) (F:=λn s i=>Cx.AU (v,G) n s.1 s.2 i) ah (s0:=(_,_)) ⟨u,rfl,r,rfl,ak,rfl,ak⟩ λn i s hi f k=>?_;unfold Cx.AU Cx.L1;simp only[M];have V:¬(i:Int)<2+v->CX (Cx.J5 s.2) MPO:=by
  intro yI;have hi:i=(2+v).toNat:=ah;have L:MP s.2:=⟨f.d,by have:=f.n;omega,λt C=>by rw[f.lo t C];simp[uE],by rw[f.nm,hi];exact f.b,⟨i,ah,ah,f.nm⟩,f.lo⟩;unfold Cx.J5 Lc F8;obtain⟨q,B,_⟩:=zU L;refine tE B (tI (λ_=>tE r ?_) λh=>tR ⟨L,q.2,B.trans (congrArg some (Prod.ext aA rfl))⟩);simp only[AAK];have key:HG.bind (λD=>Bz ⟨D,[⟨⟨#[109,97,105,110]⟩,0,[⟨#[97]⟩,⟨#[98]⟩],[⟨1,0,⟨#[120]⟩,⟨#[]⟩,[],⟨1,1,⟨#[]⟩,[]⟩,[],[]⟩]⟩]⟩)=some (0,0):=by decide +kernel
  rw[r,AAK]at key;refine tR ⟨⟨r,ak,ak,?_,⟨1,ah,ah,rfl⟩,by simp[uE]⟩,0,key⟩;simp only[AAg,forall_eq];refine⟨ak,?_⟩;simp only[AAg,forall_eq];exact S9 (.inl ⟨rfl,rfl⟩) (uG bk) _
 have E:∀m t,(hi:i<(2+v).toNat)->FG m.t->m.eb=[]->(t.Hp=uE/\t.dq=YL[i]' ah)->eJ (λs=>s∈YL.take (2+v).toNat) 4 t.dz->CX (Cx.J3 (λm p i=>Cx.AU (v,G) n m p i) i s.2 m t) MPO:=by intro m t j o H y I;unfold Cx.J3 Cx.J4;have hn:=f.n;refine tC (Cd ah) (k (m,_) j ⟨o,H,f.d,an,?_,?_,?_⟩);simp only[AAc,AAg];rintro x (e|rfl);exact f.b x e;exact I;simp only[AA0,f.nm,AAf,AAy,y.2];simp_all;simp only[AAc,AAg];rintro x (e|rfl);exact f.lo x e;grind
 have j1:∀t,(hi:i<(2+v).toNat)->(t.Hp=uE/\t.dq=YL[i]' ah)->t.dz.length<=3->(∀x∈t.dz,Kx (λs=>s∈YL.take (2+v).toNat) 4 x)->CX (Cx.J1 (λm p i=>Cx.AU (v,G) n m p i) i s.1 s.2 t) MPO:=by intro t j o H y;have Q:s.1.eb=[]:=f.h;unfold Cx.J1;refine tB (KA f.t ah) λa P=>?_;rw[CY (n:=1+a.1) ah ah];have J:=BN;obtain⟨O,z⟩:∃n,BQ=n+1:=⟨BQ-1,ah⟩;rw[z];refine tB ((made_tot (T:=λs=>s∈YL.take (2+v).toNat) 2 0 O ah ah ah).2 (AO.mk a.2 i s.1.left s.1.Ik s.1.tx s.1.d9 s.1.ej s.1.eb) (1+a.1) ⟨P.2,am⟩ ah) λb J=>?_;obtain⟨⟨Z,g2⟩,w⟩:=J;have g:b.2.eb=[]:=w.h.trans Q;have g0:∀x∈t.dz++b.1,Kx (λs=>s∈YL.take (2+v).toNat) 4 x:=λx e=>(AAc.1 e).elim (y x) (g2 x);refine tC (Cd ah) (tI (λ_=>tB (KA w.t ah) λc K=>?_) λ_=>?_)<;>unfold Cx.J2;(refine tI (λ_=>tC (Cd an) (E _ _ j K.2 g o ⟨an,?_⟩)) λ_=>E _ _ j K.2 g o ⟨an,g0⟩;intro x e;rcases AAc.1 e with e|e);grind;rw[AAg.1 e];refine Zj bk bk bk ⟨ak,ak,ak,λ_=>?_,ak,ak⟩;exact List.mem_take_iff_getElem.2 ⟨1,ah,rfl⟩;exact tI bn λ_=>E _ _ j w.t g o ⟨an,g0⟩
 refine tD (λh=>tAt (l:=YL) ah (tI (λ_=>?_) λ_=>j1 _ ah ⟨rfl,rfl⟩ ak ak)) V;refine tLk (2+v).toNat 1 (λk (t:DB)=>(t.Hp=uE/\t.dq=YL[i]' ah)/\t.dz.length+1<=k/\∀x∈t.dz,Kx (λs=>s∈YL.take (2+v).toNat) 4 x) (F:=λn t k=>Cx.B9 _ _ _ _ _ n t k) ah ah ⟨⟨rfl,rfl⟩,ak,ak⟩ λm q t B C W=>?_;obtain⟨N,t2,X⟩:=C;unfold Cx.B9 Cx.L2;simp only[M];refine tD (λ_=>tAt (l:=YL) ah (tC (Cd ah) (W _ ah ⟨N,an,?_⟩))) λ_=>j1 _ ah N ah X;intro x e;rcases AAc.1 e with e|e
 grind;rw[AAg.1 e];refine Zj bk bk ak ⟨ak,ak,ak,λ_=>?_,ak,ak⟩;exact List.mem_take_iff_getElem.2 ⟨q,ah,rfl⟩
theorem Choices_tot(a:W.length<=1000):CX (GC W) λr=>r.length<=W.length:=by unfold GC;refine aX W.length (λi (s:nd)=>s.length<=i) (F:=λn s i=>GC.AU W n s i) ah ak λn i s hi b k=>?_;unfold GC.AU GC.L1 GC.J1;exact tD (λ_=>tG ah λx _=>tC (Cd ah) (k _ ah an)) λ_=>tR ah
theorem sites_tot(d:Nat):∀(n K:Nat)(o:ns)(t a:Int)(l:kh),d+1<=n->K+10*K5 d<=900000->o.length<=K->eJ T d l->CX (Ig n o t a l) λr=>r.1.length<=K+10*K5 d:=by induction d with|zero=>intro n K o t a l hn e c ⟨_,h⟩;obtain⟨n,rfl⟩:∃k,n=k+1:=⟨n-1,ah⟩;have:l=[]:=ABV.2 λx b=>(h x b).elim;subst this;show CX (EH (Ig n) o t a []) _;exact tR c|succ d ih=>intro n K o t a l hn e c ⟨h1,h2⟩;obtain⟨n,rfl⟩:∃k,n=k+1:=⟨n-1,ah⟩;show CX (EH (Ig n) o t a l) _;unfold EH;have p:K5 (d+1)=1+20*K5 d:=rfl;refine aX l.length (λi (s:List EF×Int)=>s.1.length<=K+i*K5 (d+1)) (F:=λm s i=>EH.AU _ l t m s.1 s.2 i) (s0:=(o,a)) ah am λm i s hi y k=>?_;have u:i*K5 (d+1)<=10*K5 (d+1):=ABC _ ah;unfold EH.AU EH.L1 EH.J1;refine tD (λg=>tG ah λx b=>tC (Cd ah) ?_) λ_=>tR aA;have j:(i+1)*K5 (d+1)<=10*K5 (d+1):=ABC _ ah;have q:(i+1)*K5 (d+1)=i*K5 (d+1)+K5 (d+1):=Nat.succ_mul _ _;refine tB (ih n (K+i*K5 (d+1)+1) _ _ _ _ ah ah an (h2 x b).body) λv f=>?_;refine tB (ih n _ _ _ _ _ ah ah f (h2 x b).els) λw c=>k (_,_) ah aA
structure MW (w:AG):Prop where
 q:CX (Ce w qS) λr=>0<=r/\r<w.dg.length
 c:w.dg.length<=100
 l:w.AK.length<=100
 d:w.Aj.length<=100
 f:w.AM.length<=100
 t:w.AB.length<=4
def P7:List Dy:=[⟨⟨#[120]⟩,0,0,false,0⟩,⟨⟨#[121]⟩,0,0,false,1⟩,⟨⟨#[118]⟩,0,0,true,0⟩,⟨⟨#[113]⟩,0,2,false,0⟩,⟨⟨#[113]⟩,1,2,false,0⟩]
theorem yT(h:MP p)(j:∃l,Bz p=some (0,l)):CX (C2 p) MW:=by
 obtain⟨l,j⟩:=j;have B:=h.t;have z:K5 4=8421:=rfl;unfold C2;refine tE j (tI bn λ_=>?_);have key:∀D T,HG=some D->C2.AU ⟨D,T⟩ BQ (AG.mk [] [] [] [] [] []) 0=C2.J4 ⟨D,T⟩ ⟨P7,[⟨⟨#[109]⟩,false⟩,⟨⟨#[110]⟩,false⟩,⟨⟨#[114]⟩,true⟩],[⟨⟨#[99]⟩,0⟩],[⟨#[102]⟩],[],[]⟩:=by
  intro D T m;unfold HG at m;obtain rfl:=AAO m
  kernel_rfl
 rw[show C2.AU p BQ (AG.mk [] [] [] [] [] []) 0=_ from key p.ek p.AB h.d];unfold C2.J4;rw[show Aa.mk p.ek p.AB=p from rfl];refine aX p.AB.length (λi w=>w.Bu.length<=i*84210/\w.AB.length=i/\w.dg=P7/\w.AK.length=3/\w.Aj.length=1/\w.AM.length=1) (F:=λn s i=>C2.Fw _ n s i) ah ⟨ak,rfl,rfl,rfl,rfl,rfl⟩ λn i w hi e k=>?_;obtain⟨q,E,g,r,u,y⟩:=e;unfold C2.Fw C2.L3 C2.J5;refine tD (λ_=>tG ah λx o=>tC (Cd ah) (tB (sites_tot 4 _ (i*84210) _ _ _ _ (UR ah) ah q (h.b x o)) λv C=>k _ ah ⟨aA,an,g,r,u,y⟩)) λ_=>tR ⟨?_,by rw[g];decide,ah,ah,ah,ah⟩;rw[g];have a:∀w:AG,w.dg=P7->Ce w qS=some 3:=by
  intro w e;obtain⟨c,l,d,f,t,s⟩:=w;simp only at e;subst e
  kernel_rfl
 exact⟨3,a w g,ah,bk⟩
end
variable{g r:BX}{n:Nat}{w:AG}{a:Type}
section
variable{T:lr}
structure GS (g:BX) (n:Nat) (r:BX):Prop where
 w:r.w=g.w
 l:r.dr=g.dr
 a:g.dt.length<=r.dt.length
 b:r.dt.length<=g.dt.length+n
structure GB (g:BX) (n:Nat):Prop where
 w:MW g.w
 l:g.dr.length<=2
 n:g.dt.length+n<=8000000
theorem GS.refl(g:BX)(n:Nat):GS g n g:=⟨rfl,rfl,ah,ah⟩
theorem GS.trans{h:BX}(a:GS g E h)(b:GS h n r)(c:E+n<=k):GS g k r:=⟨b.w.trans a.w,b.l.trans a.l,by have:=a.a;have:=b.a;omega,by have:=a.b;have:=b.b;omega⟩
theorem GB.next{h:BX}(a:GB g k)(s:GS g u h)(c:u+n<=k):GB h n:=⟨by rw[s.w];exact a.w,by rw[s.l];exact a.l,by have:=s.b;have:=a.n;omega⟩
theorem GB.less(a:GB g k)(b:n<=k):GB g n:=a.next (GS.refl g 0) ah
theorem bO(h:GB g 1)(i:An):CX (BV g i) λr=>GS g 1 r/\r.dt.length=g.dt.length+1:=by have:=h.n;unfold BV;exact tC (Cd ah) (tR ⟨⟨rfl,rfl,ak,ak⟩,ak⟩)
def M9(h:GB g 1)(i:An):CX ((BV g i).bind λv=>some v) (GS g 1):=tB (bO h i) λ_ h=>tR h.1
theorem qW(h:MW w)(s:ABn):TT (Ce w s):=by have a:=h.c;unfold Ce;refine tL w.dg.length ah λn i hi k=>?_;unfold Ce.AU Ce.L1 Ce.J1;exact tD (λ_=>tG ah λx _=>tI (λ_=>tR trivial) λ_=>k ah) λ_=>tR trivial
theorem lockAt_tot(h:MW w)(s:ABn):TT (Er w.AK s):=by have a:=h.l;unfold Er;refine tL w.AK.length ah λn i hi k=>?_;unfold Er.AU Er.L1 Er.J1;exact tD (λ_=>tG ah λx _=>tI (λ_=>tR trivial) λ_=>k ah) λ_=>tR trivial
theorem cond_tot(h:MW g.w)(s:ABn):CX (DE g s) λr=>r.2=g:=by have a:=h.d;unfold DE;refine tL g.w.Aj.length ah λn i hi k=>?_;unfold DE.AU DE.L1 DE.J1;exact tD (λ_=>tG ah λx _=>tI (λ_=>tR rfl) λ_=>k ah) λ_=>tR rfl
theorem cell_tot(h:MW w){s:ABn}(b:s=qS){f:Int->Dy->ABm a}{Q:a->Prop}(k:∀i c,CX (f i c) Q):CX ((Ce w s).bind λi=>(gt w.dg i).bind (f i)) Q:=by rw[b];exact tB h.q λi hi=>tG hi λc _=>k i c
theorem value_tot(d:Nat):∀(n:Nat)(g:BX)(e:BU)(r:Int),d<=n->bY d e->GB g (3^d)->CX (DU n g e r) (GS g (3^d)):=by
 induction d with
 |zero=>exactλn g e r _ h=>h.elim
 |succ d ih=>
  intro n g e r hn z f;obtain⟨n,rfl⟩:∃k,n=k+1:=⟨n-1,ah⟩;have C:3^(d+1)=3*3^d:=by rw[Nat.pow_succ];omega
  have B:0<3^d:=Nat.pow_pos ah;show CX (Hy (DU n) g e r) _;have up:∀{r},GS g 1 r->GS g (3^(d+1)) r:=λh=>h.trans (GS.refl _ 0) ah;unfold Hy;rcases z with⟨j,_⟩|⟨j,_⟩|⟨j,t,a,p,q⟩|⟨j,a,b,p,q,x⟩
  (simp only[j];exact tI (λ_=>tM (M9 (f.less ah) _) λ_=>up) λh=>by cases h);simp only[j];refine tI bn λ_=>tI (λ_=>tB (XQ _ _ (by have:=f.l;omega)) λ_ _=>tI (λ_=>tM (M9 (f.less ah) _) λ_=>up) λ_=>?_) λh=>(by cases h);exact NI (qW f.w _) λ_=>tM (M9 (f.less ah) _) λ_=>up;simp only[j,p];refine tI bn λ_=>tI bn λ_=>tI (λ_=>tE (y:=a) rfl ?_) λh=>(by cases h);refine tB (ih n g a r ah q (f.less ah)) λv m=>?_;have o:GB v 1:=f.next m ah;exact cell_tot o.w t λi c=>tM (M9 o _) λ_ h=>m.trans h ah;have D:e.Op≠1:=λh=>am;have E:e.Op≠2:=λh=>am;have F:e.Op≠3:=λh=>am;rw[AAP am,AAP am,AAP am,p];refine tI bn λ_=>tE (y:=a) rfl (tB (ih n g a r ah q (f.less ah)) λv m=>tE (y:=b) rfl (tB (ih n v b _ ah x (f.next m ah)) λu s=>?_));exact tM (M9 (f.next (m.trans s (AAl _)) ah) _) λ_ h=>(m.trans s (AAl _)).trans h ah
theorem kW(a:bY 2 e)(b:GB g 9)(r:Int):CX (DU BQ g e r) (GS g 9):=value_tot 2 _ g e r (UR ah) a b
theorem assign_tot(e:GB g 30){s:AX}(j:Kx T (k+1) s)(o:s.Op=1):CX (Hb g s) (GS g 30):=by
 have f:bY 2 s.du:=j.2.2.1.resolve_right λh=>h.1 (by simp[o]);unfold Hb;rcases j.2.1 with h|⟨_,p,a,h,n⟩
 rw[h];refine tI bn λ_=>tB (kW f (e.less ah) _) λv d=>?_;have b:GB v 1:=e.next d ah;refine tB (XQ _ _ (by have:=b.l;omega)) λ_ _=>tI (λ_=>tM (M9 b _) λ_ h=>d.trans h ah) λ_=>NI (qW b.w _) λ_=>tM (M9 b _) λ_ h=>d.trans h ah;rw[h];refine tI (λ_=>tE (y:=a) rfl ?_) λh=>(by cases h);refine tB (kW n (e.less ah) _) λv d=>tB (kW f (e.next d ah) _) λu m=>?_;have b:GB u 1:=e.next (d.trans m (AAl _)) ah;exact cell_tot b.w p λi c=>tM (M9 b _) λ_ h=>(d.trans m (AAl _)).trans h ah
def cg:Nat->Nat|0=>0|d+1=>40+20*cg d
def GS.dx(h:GS g n r)(a b:Int):GS g n ⟨r.w,r.dr,r.dt,a,b⟩:=⟨h.w,h.l,h.a,h.b⟩
theorem GS.set(h:GS g n r)(i:Nat)(x:An)(a b:Int):GS g n ⟨r.w,r.dr,r.dt.set i x,a,b⟩:=⟨h.w,h.l,by simpa using h.a,by simpa using h.b⟩
section
variable{R:ni}{g:BX}{s:AX}{n:Nat}
theorem around_tot(d:GB g (n+2))(i:∀g,GB g n->CX (R g s.dz) (GS g n))(a b c:Int):CX (Ea R g s a b c) (GS g (n+2)):=by unfold Ea;refine tB (bO (d.less ah) _) λv f=>tB (i v (d.next f.1 ah)) λu j=>?_;have e:GS g (n+1) ⟨u.w,u.dr,u.dt,g.dx,u.next⟩:=(f.1.trans j ah).dx _ _;exact tM (M9 (d.next e ah) _) λ_ h=>e.trans h ah
theorem branches_tot(b:GB g (2*n+11))(p:bY 2 s.du)(o:∀g,GB g n->CX (R g s.dz) (GS g n))(m:∀g,GB g n->CX (R g s.ea) (GS g n)):CX (EE R g s) (GS g (2*n+11)):=by unfold EE;refine tB (kW p (b.less ah) _) λv j=>tB (bO (b.next j ah) _) λu i=>?_;have e:GS g 10 u:=j.trans i.1 ah;refine tB (o u (b.next e ah)) λx k=>?_;have f:GS g (n+10) x:=e.trans k ah;have q:=i.2;have r:=k.a;have c:=f.dx g.dx x.next;refine tI (λ_=>tB (bO (b.next c ah) _) λy d=>tG ?_ λ_ _=>tR ?_) λ_=>tI (λ_=>tG ?_ λ_ _=>tR ?_) λ_=>tB (bO (b.next c ah) _) λy d=>tG ?_ λ_ _=>?_;grind;exact((c.trans d.1 (AAl _)).set _ _ _ _).trans (GS.refl _ 0) ah;omega;exact(f.set _ _ _ _).trans (GS.refl _ 0) ah;grind;have h:=(c.trans d.1 (AAl _)).set v.dt.length (An.mk (‹An›).Op (‹An›).A (y.dt.length:Int) (‹An›).C (‹An›).N (‹An›).d8) y.dx y.next;refine tB (m _ (b.next h ah)) λz l=>tG ?_ λ_ _=>tR (((h.trans l (AAl _)).set _ _ _ _).trans (GS.refl _ 0) ah);have t:=d.2;have w:=l.a;grind
variable{R1:mb}{R2:lv}
theorem gstmt_tot(hn:30<=n)(j:GB g n)(o:Kx T (k+1) s)(u:bY 2 s.du->∀g,GB g n->CX (R1 g s) (GS g n))(x:∀g a b c,GB g n->CX (R2 g s a b c) (GS g n)):CX (Dh R1 R2 g s) (GS g n):=by
  have D:=j.l;have C:=j.w.f;have E:=j.w.t;have d:GB (BX.mk g.w g.dr g.dt g.next (A9 (g.next+1))) n:=j.next ((GS.refl g 0).dx _ _) ah;have up:∀{r},GS (BX.mk g.w g.dr g.dt g.next (A9 (g.next+1))) n r->GS g n r:=λh=>⟨h.w,h.l,h.a,h.b⟩;have e:∀{m r},m<=n->GS (BX.mk g.w g.dr g.dt g.next (A9 (g.next+1))) m r->GS g n r:=λy h=>up (h.trans (GS.refl _ 0) y);have A:∀a b c,CX ((R2 (BX.mk g.w g.dr g.dt g.next (A9 (g.next+1))) s a b c).bind λv=>some v) (GS g n):=λa b c=>tB (x _ a b c d) λ_ h=>tR (up h);have P:∀i,CX ((BV (BX.mk g.w g.dr g.dt g.next (A9 (g.next+1))) i).bind λv=>some v) (GS g n):=λi=>tM (M9 (d.less ah) i) λ_ h=>e ah h;have j1:∀b,(b=true->s.Op∈[(2:Int),3])->CX (Dh.J1 R1 R2 g s b) (GS g n):=by
    intro b B;unfold Dh.J1;refine tI (λh=>tB (u (o.2.2.1.resolve_right λq=>q.1 ?_) _ d) λ_ h=>tR (up h)) λ_=>?_;simp_all;repeat' first
      |exact A _ _ _
      |exact P _
      |exact tR (up (GS.refl _ _))
      |refine tI (λz=>tB (kW (o.2.2.1.resolve_right λq=>q.1 (by have:=eq_of_beq z;simp[this])) (d.less ah) _) λv p=>tB (XQ _ _ (by rw[p.w];grind)) λ_ _=>tM (M9 (d.next p ah) _) λ_ h=>e ah (p.trans h (AAl _))) λ_=>?_
      |refine tI (λ_=>?_) λ_=>?_
      |refine NI (lockAt_tot j.w _) λ_=>?_
      | (refine tB (cond_tot d.w _) ?_
         rintro⟨i,w⟩ rfl)
      |refine tB (XQ _ _ ah) λ_ _=>?_
  unfold Dh;refine tI (λh=>tB (assign_tot (d.less ah) o (eq_of_beq h)) λ_ h=>tR (e ah h)) λ_=>tI (λh=>j1 _ λ_=>?_) λ_=>j1 _ λh=>?_;all_goals simp_all
end
theorem s7(d:Nat):∀(n:Nat)(g:BX)(l:kh),3*d+1<=n->GB g (10*cg d)->eJ T d l->CX (Ez n g l) (GS g (10*cg d)):=by induction d with|zero=>intro n g l hn e ⟨_,h⟩;obtain⟨n,rfl⟩:∃k,n=k+1:=⟨n-1,ah⟩;have:l=[]:=ABV.2 λx f=>(h x f).elim;subst this;show CX (C7 (SA n) g []) _;exact tR (GS.refl _ _)|succ d ih=>intro n g l hn e ⟨h1,h2⟩;obtain⟨n,rfl⟩:∃k,n=k+3:=⟨n-3,ah⟩;show CX (C7 (Dh (EE (Ez n)) (Ea (Ez n))) g l) _;have w:cg (d+1)=40+20*cg d:=rfl;unfold C7;refine aX l.length (λi s=>GS g (i*cg (d+1)) s) (F:=λm s i=>C7.AU _ l m s i) ah (GS.refl _ _) λm i s hi j k=>?_;have y:i*cg (d+1)<=10*cg (d+1):=ABC _ ah;unfold C7.AU C7.L1;refine tD (λt=>tG ah λx f=>?_) λ_=>tR (j.trans (GS.refl _ 0) ah);have u:(i+1)*cg (d+1)<=10*cg (d+1):=ABC _ ah;have p:(i+1)*cg (d+1)=i*cg (d+1)+cg (d+1):=Nat.succ_mul _ _;have o:∀g,GB g (10*cg d)->CX (Ez n g x.dz) (GS g (10*cg d)):=λg e=>ih n g _ ah e (h2 x f).body;have q:∀g,GB g (10*cg d)->CX (Ez n g x.ea) (GS g (10*cg d)):=λg e=>ih n g _ ah e (h2 x f).els;refine tB (gstmt_tot (n:=cg (d+1)) ah (e.next j ah) (h2 x f) (λp g e=>?_) λg a b c e=>?_) λv r=>k _ ah (j.trans r ah);exact tM (branches_tot (n:=10*cg d) (e.less ah) p o q) λ_ h=>h.trans (GS.refl _ 0) ah;exact tM (around_tot (n:=10*cg d) (e.less ah) o a b c) λ_ h=>h.trans (GS.refl _ 0) ah
def rg(i:An):List Int:=(Aw i).getD []
theorem Ji(i:An):Aw i=some (rg i)/\(rg i).length<=3:=by
 have key:CX (Aw i) λr=>r.length<=3:=by unfold Aw Aw.J1 Aw.J2 Aw.J3;repeat' first|exact tR ak|refine tI (λ_=>?_) λ_=>?_
 obtain⟨r,a,b⟩:=key;unfold rg;simp_all
structure CK (c:B5):Prop where
 n:c.AB.length<=4
 i:∀t∈c.AB,t.Cq.length<=8000000
theorem compile_tot(h:MP p):CX (Bo p) λr=>CK r.1:=by have a:=h.t;have I:cg 4=336840:=rfl;unfold Bo;obtain⟨v,c,_⟩:=zU h;refine tE c (tI (λ_=>tR ⟨ak,ak⟩) λB=>tB (yT h ⟨v.2,?_⟩) λw J=>?_);grind;refine aX p.AB.length (λi (s:B5×Int)=>s.1.db=w/\s.1.AB.length=i/\∀t∈s.1.AB,t.Cq.length<=8000000) (F:=λn s i=>Bo.AU p n s.1 s.2 i) (s0:=(_,_)) ah ⟨rfl,rfl,ak⟩ λn i s hi o k=>?_;obtain⟨G,L,H⟩:=o;unfold Bo.AU Bo.L1 Bo.J4;refine tD (λ_=>tG ah λx f=>?_) λ_=>tR ⟨aA,H⟩;have g:=h.l x f;have g0:GB (BX.mk s.1.db x.Hp [] 0 s.2) 4000000:=⟨am,g,ak⟩;refine tB (s7 4 _ _ _ (UR ah) (g0.less ah) (h.b x f)) λv c=>?_;refine tB (bO (g0.next (c.dx (-1) v.next) ah) _) λu z=>?_;have d:=z.2;have e:=c.b;simp only[List.length_nil]at d e;refine aX u.dt.length (λ_ (t:BI)=>t.Cq=u.dt) (F:=λn t k=>Bo.B9 _ _ _ _ _ n t k) ah rfl λm q t j a C=>?_;unfold Bo.B9 Bo.L2 Bo.J2 Bo.J3;refine tD (λ_=>tG ah λy _=>?_) λ_=>tC (Cd ah) (k (_,_) ah ⟨G,an,?_⟩);obtain⟨E,K⟩:=Ji y;refine tE E (aX (rg y).length (λ_ (t:BI)=>t.Cq=u.dt) (F:=λn t k=>Bo.Fw _ _ _ n t k) ah a λm q t j a D=>?_);unfold Bo.Fw Bo.L3 Bo.J1;exact tD (λ_=>tG ah λ_ _=>D _ ah a) λ_=>C _ ah a;grind
end
theorem take_one{l:List a}(h:k<l.length){P:a->Prop}(c:∀x∈l.take k,P x)(d:P l[k]):∀x∈l.take (k+1),P x:=by intro x b;rw[<- AAn h]at b;grind
theorem vM{l:List a}(h:l.length<=k){P:a->Prop}(b:∀x∈l.take k,P x):∀x∈l,P x:=by rwa [AAw h]at b
variable{i:Int}
theorem Ln{l:List a}(h:0<=i/\i<l.length):∃x,gt l i=some x/\l[i.toNat]? =some x/\x∈l:=by have:i.toNat<l.length:=ah;exact⟨l[i.toNat],by simp[gt,h.1,this],by simp[this],AAW this⟩
theorem Vx(i n:Int):CX (EC i n) λb=>b=true->0<=i/\i<n:=by unfold EC EC.J1;exact tD (λh=>tR λa=>⟨h,AAV a⟩) λ_=>tR λh=>by cases h
def eD(w:AG)(b n:Int):Prop:=∃x,gt w.dg b=some x/\x.d6=0/\x.Ca≠0/\x.Ca=n
theorem zA(w:AG)(b n:Int):CX (Ga w b n) λr=>r=true->eD w b n:=by
 have N:∀{f:Prop},CX (some false) λb:Bool=>b=true->f:=tR λh=>by cases h
 unfold Ga Ga.J1;refine tB (Vx _ _) λv e=>tI (λh=>?_) λ_=>N;obtain⟨x,a,_⟩:=Ln (e h);exact tE a (tI (λc=>tI (λg=>tR λd=>⟨x,a,eq_of_beq c,am,eq_of_beq d⟩) λ_=>N) λ_=>N)
theorem objects_tot(w:AG)(i:An):CX (Ab w i) λb=>b=true->(i.Op=7->eD w i.B i.N)/\(i.Op=9->eD w i.A i.N):=by
 have g:∀b,TT (Ab.J8 i w b):=by intro b;unfold Ab.J8 Ab.J9 Ab.OE;repeat' first|exact tR trivial|refine tB (Vx _ _) λ_ _=>?_|refine tI (λ_=>?_) λ_=>?_
 have l:∀b,TT (Ab.J7 i w b):=by intro b;unfold Ab.J7;repeat' first|exact tR trivial|exact g _|refine tB (Vx _ _) λ_ _=>?_|refine tI (λ_=>?_) λ_=>?_
 have k:∀b,TT (Ab.J5 i w b):=by intro b;unfold Ab.J5 Ab.J6;refine tI (λ_=>tB (Vx _ _) λv a=>tI (λh=>tG (a h) λx _=>tR trivial) λ_=>tR trivial) λ_=>?_;repeat' grind
 have j:∀b,TT (Ab.J3 i w b):=by intro b;unfold Ab.J3 Ab.J4;refine tI (λ_=>tB (Vx _ _) λv a=>tI (λh=>tG (a h) λx _=>tR trivial) λ_=>tR trivial) λ_=>?_;repeat' grind
 unfold Ab Ab.J1 Ab.J2;have M:∀{o:ABm Bool},TT o->i.Op≠7->i.Op≠9->CX o λb=>b=true->(i.Op=7->eD w i.B i.N)/\(i.Op=9->eD w i.A i.N):=λh e f=>tM h λ_ _ _=>⟨λh=>absurd h e,λh=>absurd h f⟩;refine tI (λh=>M (tB (Vx _ _) λv a=>tI (λh=>tG (a h) λx _=>tR trivial) λ_=>tR trivial) ?_ ?_) λm=>tI (λh=>M (tB (Vx _ _) λv a=>tI (λh=>tG (a h) λx _=>tR trivial) λ_=>tR trivial) ?_ ?_) λp=>?_;simp_all;simp_all;simp_all;simp_all;(. refine tI (λh=>tB (zA _ _ _) λv a=>tR λc=>⟨λ_=>a c,λd=>?_⟩) λn=>tI (λh=>tB (zA _ _ _) λv a=>tR λc=>⟨λd=>?_,λ_=>a c⟩) λq=>?_;all_goals grind)
def yG(o:Int):Bool:=decide (1<=o)&&decide (o<=5)
theorem bG(o:Int):G8 o=some (yG o):=by unfold G8 G8.J1 yG;grind
variable{l:l0}
theorem lands_tot(b:l.length<=8000000)(a:Int):TT (DH l a):=by unfold DH;refine aX (l.length+1) (λ_ _=>True) (F:=λn s i=>DH.AU l n s i) ah trivial λn i s hi _ k=>?_;unfold DH.AU DH.L1 DH.J1 DH.J2 DH.J3;refine tD (λ_=>tD (λ_=>tR trivial) λ_=>tD (λ_=>tR trivial) λ_=>tG ah λx _=>tE (bG _) ?_) λ_=>tR trivial;exact tI (λ_=>tR trivial) λ_=>tI (λ_=>k _ ah trivial) λ_=>k _ ah trivial
def vE(w:AG)(t:Int)(x:An):Prop:=if x.Op=28 then x.d8= -1 else∃y,gt w.Bu x.d8=some y/\y.cT=t
structure VI (w:AG) (t R:Int) (x:An):Prop where
 o:1<=x.Op/\x.Op<=28
 g:∀y∈rg x,0<=y/\y<R
 s:vE w t x
 a:(x.Op=7->eD w x.B x.N)/\(x.Op=9->eD w x.A x.N)
structure VT (w:AG) (t:Int) (c:BI):Prop where
 r:0<=c.Dk/\c.Dk<=32
 i:∀x∈c.Cq,VI w t c.Dk x
theorem qG(w:AG)(t:Int){c:BI}(D:c.Cq.length<=8000000):CX (Ap w t c) λb=>b=true->VT w t c:=by
 have N:∀{J:Prop},CX (some false) λb:Bool=>b=true->J:=tR λh=>by cases h
 have j1:∀b,(b=false->0<=c.Dk/\c.Dk<=32)->CX (Ap.J1 c t w b) λb=>b=true->VT w t c:=by
  intro b p;unfold Ap.J1;refine tI (λ_=>N) λC=>aX c.Cq.length (λi (_:Unit)=>∀x∈c.Cq.take i,VI w t c.Dk x) (s0:=()) (F:=λn _ i=>Ap.AU c t w n i) ah ak λn i _ hi q k=>?_;unfold Ap.AU Ap.L1 Ap.J6;refine tD (λg=>tAt ah ?_) λM=>tR λ_=>⟨p C,vM ah q⟩;have g:i<c.Cq.length:=ah;generalize E:c.Cq[i]=x;have H:∀b,(b=false->(1<=x.Op/\x.Op<=28)/\vE w t x/\(x.Op=7->eD w x.B x.N)/\(x.Op=9->eD w x.A x.N))->CX (Ap.J4 (Ap.AU c t w n) c i x b) λb=>b=true->VT w t c:=by intro b a;unfold Ap.J4;refine tI (λ_=>N) λd=>tE (Ji x).1 (aX (rg x).length (λi (_:Unit)=>∀y∈(rg x).take i,0<=y/\y<c.Dk) (s0:=()) (F:=λn _ i=>Ap.B9 _ c _ (rg x) n i) (by have:=(Ji x).2;omega) ak λm j _ K z I=>?_);unfold Ap.B9 Ap.L2 Ap.J5;refine tD (λ_=>tAt ah (tB (Vx _ _) λv e=>tI (λ_=>N) λh=>I () ah (take_one ah z (e aA)))) λ_=>k () g (take_one g q (by rw[E];exact⟨(a d).1,vM ah z,(a d).2.1,(a d).2.2⟩))
  have o:∀b,(b=false->(1<=x.Op/\x.Op<=28)/\vE w t x/\(x.Op=7->eD w x.B x.N)/\(x.Op=9->eD w x.A x.N))->CX (Ap.J3 (Ap.AU c t w n) c i x b) λb=>b=true->VT w t c:=by intro b a;unfold Ap.J3;refine tI (λ_=>N) λd=>?_;repeat' first|exact H _ λ_=>a d|refine tB (Vx _ _) λ_ _=>?_|refine tI (λ_=>?_) λ_=>?_
  have f:∀b,(b=false->(1<=x.Op/\x.Op<=28)/\(x.Op=7->eD w x.B x.N)/\(x.Op=9->eD w x.A x.N))->CX (Ap.J2 (Ap.AU c t w n) c i t w x b) λb=>b=true->VT w t c:=by intro b a;unfold Ap.J2;refine tI (λ_=>N) λd=>?_;obtain⟨s,u⟩:=a d;have T:∀b,b=true->CX (Ap.J3 (Ap.AU c t w n) c i x b) λb=>b=true->VT w t c:=λb p=>o b λh=>am;refine tI (λl=>tI (λ_=>T _ rfl) λr=>tI (λh=>am) λ_=>o _ λ_=>⟨s,?_,u⟩) λl=>tI (λ_=>?_) λh=>am;unfold vE;simp_all;refine tB (Vx _ _) λv e=>tI (λ_=>T _ rfl) λh=>?_;obtain⟨y,G,_⟩:=Ln (e aA);refine tE G (o _ λL=>⟨s,?_,u⟩);unfold vE;simp_all
  refine tD (λ_=>f _ λh=>by cases h) λ_=>tD (λ_=>f _ λh=>by cases h) λ_=>?_;have a:1<=x.Op/\x.Op<=28:=ah;exact tI (λ_=>f _ λh=>by cases h) λ_=>tB (objects_tot _ _) λv e=>tI (λ_=>f _ λh=>by cases h) λh=>NI (lands_tot D _) λ_=>f _ λ_=>⟨a,e aA⟩
 unfold Ap;grind
structure VC (c:B5):Prop where
 w:DA c.db=true
 n:c.AB.length=c.db.AB.length
 t:∀(i:Nat) t,c.AB[i]? =some t->VT c.db i t
variable{c:B5}
theorem bH(e:CK c):CX (C1 c) λb=>b=true->VC c:=by
 have N:∀{l:Prop},CX (some false) λb:Bool=>b=true->l:=tR λh=>by cases h
 have hn:=e.n;have j1:∀b,(b=false->DA c.db/\c.AB.length=c.db.AB.length)->CX (C1.J1 c b) λb=>b=true->VC c:=by intro b d;unfold C1.J1;refine tI (λ_=>N) λa=>aX c.AB.length (λi (_:Unit)=>∀(j:Nat) x,j<i->c.AB[j]? =some x->VT c.db j x) (s0:=()) (F:=λn _ i=>C1.AU c n i) ah (λj _ h=>ah) λn i _ hi f k=>?_;unfold C1.AU C1.L1 C1.J2;refine tD (λm=>tAt ah (tB (qG _ _ (e.i _ (AAW ah))) λv p=>tI (λ_=>N) λh=>k () ah ?_)) λ_=>tR λ_=>⟨(d a).1,(d a).2,λj x g=>f j x ?_ g⟩;grind;grind
 unfold C1;refine tE (NA _) (tI (λ_=>j1 _ λh=>by cases h) λh=>j1 _ λo=>⟨aA,?_⟩);grind
def UD(o:ABm a)(Q:a->Prop):Prop:=∀r,o=some r->Q r
theorem pR{r:a}{Q:a->Prop}(h:Q r):UD (some r) Q:=λ_ e=>am
theorem pN{Q:a->Prop}:UD (none:ABm a) Q:=λ_ e=>by cases e
variable{b:Type}
theorem pB{o:ABm a}{Q:a->Prop}{f:a->ABm b}{R:b->Prop}(h:UD o Q)(k:∀x,Q x->UD (f x) R):UD (o.bind f) R:=by intro r e;cases o with|none=>cases e|some x=>exact k x (h x rfl) r e
def pB'{o:ABm a}{f:a->ABm b}{R:b->Prop}(k:∀x,UD (f x) R):UD (o.bind f) R:=pB (Q:=λ_=>True) (λ_ _=>trivial) λx _=>k x
theorem pE{o:ABm a}{y:a}{f:a->ABm b}{R:b->Prop}(h:o=some y)(k:UD (f y) R):UD (o.bind f) R:=am
theorem pC{p:Prop}[Decidable p]{a:ABm b}{R:b->Prop}(k:p->UD a R):UD (if p then a else none) R:=by by_cases h:p;simp_all;rw[AAP h];exact pN
theorem pI{c:Bool}{d b:ABm a}{R:a->Prop}(e:c=true->UD d R)(f:c=false->UD b R):UD (if c=true then d else b) R:=aA
theorem pD{p:Prop}[Decidable p]{c b:ABm a}{R:a->Prop}(d:p->UD c R)(e:¬p->UD b R):UD (if decide p=true then c else b) R:=aA
def pM{o:ABm a}{Q R:a->Prop}(h:UD o Q)(k:∀x,Q x->R x):UD o R:=λr e=>k r (h r e)
theorem pT{o:ABm a}{Q:a->Prop}(h:CX o Q):UD o Q:=by obtain⟨x,rfl,b⟩:=h;exact pR b
def pA{o:ABm a}{P Q:a->Prop}(h:UD o P)(k:UD o Q):UD o λr=>P r/\Q r:=λr e=>⟨h r e,k r e⟩
theorem tP{o:ABm a}{P Q:a->Prop}(h:CX o P)(k:UD o Q):CX o λr=>P r/\Q r:=by obtain⟨x,e,b⟩:=h;exact⟨x,e,b,k x e⟩
theorem pLs{Q:b->Prop}(N:Nat)(I:Nat->a->Prop){F:Nat->a->Int->ABm b}(f:∀s i,F 0 s i=none)(k:N<1000000000000){s0:a}(c:I 0 s0)(h:∀n (i:Nat) s,i<=N->I i s->(∀D,i<N->I (i+1) D->UD (F n D (A9 (i+1))) Q)->UD (F (n+1) s i) Q):UD (F BQ s0 0) Q:=by
 have key:∀n (i:Nat) s,i<=N->I i s->UD (F n s i) Q:=by intro n;induction n with|zero=>intro i s _ _;rw[f];exact pN|succ n ih=>intro i s d e;refine h n i s d e λD g j=>?_;rw[AW ah];grind
 exact key BQ 0 s0 ah c
def StI(l:l0)(k m:Nat):Prop:=∃x,l[k]? =some x/\yG x.Op/\(x.Op=5/\x.A=(m:Int)\/x.Op≠5/\m=k+1)
def V2(l:l0)(a b:Nat):Nat->Nat->Nat->Prop|0,k,m=>k=m|n+1,k,m=>(a<=k/\k<b)/\∃j,StI l k j/\V2 l a b n j m
def Ev(l:l0)(m:Nat):Prop:=∃x,l[m]? =some x/\yG x.Op=false
variable{l':l0}
theorem V2.frame{a b d:Nat}(h:∀i,a<=i->i<b->l[i]? =l'[i]?)(f:k<=a)(g:b<=d):∀{n c m},V2 l a b n c m->V2 l' k d n c m|0,_,_,e=>e|n+1,c,m,⟨⟨h1,h2⟩,j,⟨x,x1,x2⟩,h4⟩=>⟨⟨ah,ah⟩,j,⟨x,am,x2⟩,h4.frame h f g⟩
theorem V2.trans:∀{n a m p q},V2 l k E n a m->V2 l k E p m q->V2 l k E (n+p) a q|0,_,_,p,_,e,h=>(by cases e;simp_all)|n+1,_,_,p,_,⟨h1,j,h2,h3⟩,h=>by rw[Nat.succ_add];exact⟨h1,j,h2,h3.trans h⟩
def V2.one{m:Nat}(h:E<=k/\k<n)(s:StI l k m):V2 l E n 1 k m:=⟨h,m,s,rfl⟩
structure LV (w:AG) (lo hi:Int) (c:Nat) (x:An):Prop where
 o:1<=x.Op/\x.Op<=27
 ob:Ab w x=some true
 g:∀y∈rg x,0<=y/\y<32
 s:lo<=x.d8/\x.d8<hi
 j:x.Op=5->0<=x.A/\x.A<=c
 b:x.Op=10->0<=x.B/\x.B<=c
structure SG (w:AG) (lo hi:Int) (l:List An) (a b c:Nat):Prop where
 h:a<=b/\b<=l.length
 i:∀k x,a<=k->k<b->l[k]? =some x->LV w lo hi c x
 f:∀k,a<=k->k<b->(∃n m,V2 l a b n k m/\(a<=m/\m<b)/\Ev l m/\n+a+1<=b)\/∃n,V2 l a b n k b/\n+k<=b
variable{x:An}
section
variable{w:AG}{lo hi lo' hi':Int}{l l':l0}{a b c d:Nat}
theorem LV.mono(h:LV w lo hi c x)(a:lo'<=lo)(f:hi<=hi')(i:c<=d):LV w lo' hi' d x:=⟨h.o,h.ob,h.g,⟨by have:=h.s;omega,by have:=h.s;omega⟩,λe=>by have:=h.j e;omega,λe=>by have:=h.b e;omega⟩
theorem SG.frame(h:SG w lo hi l a b c)(j:∀i,a<=i->i<b->l[i]? =l'[i]?)(s:b<=l'.length)(o:lo'<=lo)(p:hi<=hi')(q:c<=d):SG w lo' hi' l' a b d:=by
 refine⟨⟨h.h.1,s⟩,λk x e g v=>(h.i k x e g am).mono o p q,λk e g=>?_⟩;rcases h.f k e g with⟨n,m,r,t,⟨x,y,u⟩,hn⟩|⟨n,r,hn⟩
 exact .inl ⟨n,m,r.frame j ah ah,t,⟨x,am,u⟩,hn⟩;exact .inr ⟨n,r.frame j ah ah,hn⟩
def SG.mono(h:SG w lo hi l a b c)(e:lo'<=lo)(f:hi<=hi')(g:c<=d):SG w lo' hi' l a b d:=h.frame (λ_ _ _=>rfl) h.h.2 e f g
theorem SG.nil(h:a<=l.length):SG w lo hi l a a c:=⟨⟨ah,h⟩,λk x _ _=>ah,λk _ _=>ah⟩
theorem SG.app(h:SG w lo hi l a b c)(g:SG w lo hi l b k c):SG w lo hi l a k c:=by have B:=h.h;have z:=g.h;refine⟨⟨ah,z.2⟩,λe x q s v=>?_,λe q s=>?_⟩;by_cases o:e<b;exact h.i e x q o v;exact g.i e x ah s v;(. have up:∀{n e m},V2 l b k n e m->V2 l a k n e m:=λr=>r.frame (λ_ _ _=>rfl) ah ah;have d:∀{n e m},V2 l a b n e m->V2 l a k n e m:=λr=>r.frame (λ_ _ _=>rfl) ah ah;by_cases o:e<b;(rcases h.f e q o with⟨n,m,r,y,ev,hn⟩|⟨n,r,hn⟩);grind;by_cases j:b<k;(rcases g.f b ah j with⟨t,m,u,y,ev,p⟩|⟨t,u,p⟩);exact .inl ⟨n+t,m,(d r).trans (up u),ah,ev,ah⟩;exact .inr ⟨n+t,(d r).trans (up u),ah⟩;grind;(. (rcases g.f e ah s with⟨n,m,r,y,ev,hn⟩|⟨n,r,hn⟩);all_goals grind))
theorem SG.one(b:l[a]? =some x)(h:LV w lo hi c x)(d:x.Op≠5):SG w lo hi l a (a+1) c:=by have g:=(AAN.1 b).1;refine⟨⟨ah,ah⟩,λk y e f i=>?_,λk e f=>?_⟩;grind;obtain rfl:k=a:=ah;cases hs:yG x.Op with|false=>exact .inl ⟨0,k,rfl,ah,⟨x,b,hs⟩,ah⟩|true=>exact .inr ⟨1,V2.one ah ⟨x,b,hs,.inr ⟨d,rfl⟩⟩,ah⟩
theorem SG.jump(h:SG w lo hi l a k c)(B:l[k]? =some x)(e:LV w lo hi c x)(t:x.Op=5)(z:x.A=(E:Int))(g:SG w lo hi l (k+1) E c):SG w lo hi l a E c:=by have D:=h.h;have v:=g.h;have s:StI l k E:=⟨x,B,by rw[t];rfl,.inl ⟨t,z⟩⟩;have up:∀{n j m},V2 l (k+1) E n j m->V2 l a E n j m:=λr=>r.frame (λ_ _ _=>rfl) ah ah;have p:∀{n j m},V2 l a k n j m->V2 l a E n j m:=λr=>r.frame (λ_ _ _=>rfl) ah ah;refine⟨⟨ah,v.2⟩,λj y d o u=>?_,λj d o=>?_⟩;by_cases b:j<k;exact h.i j y d b u;by_cases q:j=k;simp_all;exact g.i j y ah o u;(. by_cases b:j<k;(rcases h.f j d b with⟨n,m,r,C,ev,hn⟩|⟨n,r,hn⟩);grind;exact .inr ⟨n+1,(p r).trans (V2.one ah s),ah⟩;(. by_cases q:j=k;subst q;exact .inr ⟨1,V2.one ah s,ah⟩;(. (rcases g.f j ah o with⟨n,m,r,C,ev,hn⟩|⟨n,r,hn⟩);all_goals grind)))
theorem SG.back{p j:Nat}{x y:An}(h:SG w lo hi l a p c)(L:l[p]? =some y)(M:LV w lo hi c y)(o:yG y.Op=false)(g:SG w lo hi l (p+1) j c)(D:l[j]? =some x)(S:LV w lo hi c x)(C:x.Op=5)(J:x.A=(a:Int)):SG w lo hi l a (j+1) c:=by
 have Q:=h.h;have P:=g.h;have R:=(AAN.1 D).1;have s:StI l j a:=⟨x,D,by rw[C];rfl,.inl ⟨C,J⟩⟩;have up:∀{n k m},V2 l (p+1) j n k m->V2 l a (j+1) n k m:=λr=>r.frame (λ_ _ _=>rfl) ah ah;have O:∀{n k m},V2 l a p n k m->V2 l a (j+1) n k m:=λr=>r.frame (λ_ _ _=>rfl) ah ah;have B:Ev l p:=⟨y,L,o⟩;have d:∃n m,V2 l a (j+1) n a m/\(a<=m/\m<j+1)/\Ev l m/\n+a<=p:=by by_cases K:a<p;(. (rcases h.f a ah K with⟨n,m,r,G,ev,hn⟩|⟨n,r,hn⟩);all_goals grind);have:a=p:=ah;exact⟨0,p,this,ah,B,ah⟩
 obtain⟨H,F,I,u,v,T⟩:=d;refine⟨⟨ah,ah⟩,λk z q N E=>?_,λk q N=>.inl ?_⟩;by_cases e:k<p;exact h.i k z q e E;by_cases t:k=p;simp_all;by_cases b:k<j;exact g.i k z ah b E;grind;(. by_cases e:k<p;(. (rcases h.f k q e with⟨n,m,r,G,ev,hn⟩|⟨n,r,hn⟩);all_goals grind);by_cases t:k=p;subst t;exact⟨0,k,rfl,ah,B,ah⟩;by_cases b:k<j;(rcases g.f k ah b with⟨n,m,r,G,ev,hn⟩|⟨n,r,hn⟩);grind;exact⟨n+(1+H),F,(up r).trans ((V2.one ah s).trans I),u,v,ah⟩;obtain rfl:k=j:=ah;exact⟨1+H,F,(V2.one ah s).trans I,u,v,ah⟩)
end
def TB(E:Int)(x:iT):Prop:=x.Pairwise (· < ·)/\∀y∈x,0<=y/\y<E
theorem TB.len{E:Int}(h:TB E W)(d:0<=E):(W.length:Int)<=E:=by
 have key:∀(W:iT)(a:Int),W.Pairwise (· < ·)->(∀y∈W,a<=y/\y<E)->a<=E->(W.length:Int)<=E-a:=by intro W;induction W with|nil=>simp_all|cons y r ih=>intro a e b i;obtain⟨f,g⟩:=List.pairwise_cons.1 e;have j:=b y ABE;have:=ih (y+1) g (λz c=>⟨f z c,(b z (ABP _ c)).2⟩) ah;grind
 have:=key W 0 h.1 h.2 d;omega
variable{o:Int}
theorem TB.mono{F:Int}(h:TB o W)(b:o<=F):TB F W:=⟨h.1,λy a=>⟨(h.2 y a).1,by have:=(h.2 y a).2;omega⟩⟩
structure TH (E:Nat) (s:AN):Prop where
 r:s.Dk.length<=100
 t:s.Dq.length<=100
 b:∀x∈s.Dq,TB s.AA x
 e:0<=s.AA/\s.AA<=E
theorem TH.zero(E:Nat):TH E ⟨0,[],[],0⟩:=⟨ak,ak,ak,ak,ak⟩
theorem Copy7_eq{s:AN}(h:TH E s)(f:E<=100000):G0 s=some s:=by
 have g:=h.r;have j:=h.t;have c:=h.e;have key:CX (G0 s) λr=>r=s:=by unfold G0;refine tC (Cd ah) (aX s.Dq.length (λi o=>o=⟨s.PC,s.Dk,s.Dq.take i,s.AA⟩) (F:=λn o i=>G0.AU s n o i) ah rfl λn i o hi d k=>?_);subst d;unfold G0.AU G0.L1 G0.J1;refine tD (λ_=>tAt ah ?_) λ_=>tR (by rw[AAw (by omega)]);have:=(h.b _ (AAW (show i<s.Dq.length by omega))).len c.1;exact tC (Cd ah) (tC (Cd an) (k _ ah am))
 obtain⟨r,a,rfl⟩:=key;exact a
theorem rg1(h:x.Op=1):rg x=[x.A]:=by unfold rg Aw Aw.J1;simp[h]
theorem rg2(h:x.Op=2):rg x=[x.A,x.B]:=by unfold rg Aw Aw.J1 Aw.J2;simp[h]
theorem rg3(h:x.Op=3):rg x=[x.A,x.B]:=by unfold rg Aw Aw.J1 Aw.J2;simp[h]
theorem rg4(h:x.Op=4):rg x=[x.A,x.B,x.C]:=by unfold rg Aw Aw.J1 Aw.J2;simp[h]
theorem rg6(h:x.Op=6):rg x=[x.A]:=by unfold rg Aw Aw.J1;simp[h]
theorem rg7(h:x.Op=7):rg x=[x.A,x.C]:=by unfold rg Aw Aw.J1 Aw.J2;simp[h]
theorem rg8(h:x.Op=8):rg x=[x.B]:=by unfold rg Aw Aw.J1 Aw.J2 Aw.J3;simp[h]
theorem rg9(h:x.Op=9):rg x=[x.B,x.C]:=by unfold rg Aw Aw.J1 Aw.J2 Aw.J3;simp[h]
theorem rg10{i:An}(h:i.Op=10):rg i=[i.A]:=by unfold rg Aw Aw.J1;simp[h]
theorem rg26{i:An}(h:i.Op=26):rg i=[i.B]:=by unfold rg Aw Aw.J1 Aw.J2 Aw.J3;simp[h]
theorem rg27{i:An}(h:i.Op=27):rg i=[i.A]:=by unfold rg Aw Aw.J1;simp[h]
theorem jJ(n:Int):TT (FW n):=by unfold FW FW.J1;repeat' first|exact tR trivial|refine tI (λ_=>?_) λ_=>?_
theorem truth_tot(b:Bool):TT (Ef b):=by unfold Ef;exact tI (λ_=>tR trivial) λ_=>tR trivial
theorem Unary_tot(o a:Int):TT (NB o a):=by unfold NB;repeat' first|exact tR trivial|refine NI (truth_tot _) λ_=>?_|refine tI (λ_=>?_) λ_=>?_
theorem Binary_tot(o a b:Int):TT (HT o a b):=by unfold HT HT.J1 HT.J2;repeat' first|exact tR trivial|refine NI (truth_tot _) λ_=>?_|refine tD (λ_=>tR trivial) λc=>tC c ?_|refine tI (λ_=>?_) λ_=>?_
variable{j:Int->Prop}
theorem step_tot{s:AN}(d:TH E s)(m:∀i∈s.Dq,∀k∈i,j k)(S:E<=100000)(G:s.Dq.length=s.Dk.length)(H:yG x.Op):CX (GO x s) λr=>r.2=true->(TH E r.1/\r.1.Dq.length=r.1.Dk.length)/\r.1.AA=s.AA/\∀i∈r.1.Dq,∀k∈i,j k:=by
 have N:∀{i} {j:AN×Bool->Prop},CX (some (i,false)) λr:AN×Bool=>r.2=true->j r:=tR λh=>by cases h
 have g:=d.e;have I:=d.r;have J:=d.t;have l:∀v ok t,0<=x.A/\x.A<s.Dk.length->TB s.AA t->(∀k∈t,j k)->CX (GO.J3 x s v ok t) λr=>r.2=true->(TH E r.1/\r.1.Dq.length=r.1.Dk.length)/\r.1.AA=s.AA/\∀i∈r.1.Dq,∀k∈i,j k:=by intro v ok t D o K;have:=o.len g.1;unfold GO.J3;refine tC (Cd ah) (tG D λ_ _=>tG ah λ_ _=>tR λ_=>⟨⟨⟨am,am,?_,g⟩,am⟩,rfl,?_⟩);(intro i c;rcases AA2 c with c|rfl);exact d.b i c;omega;grind
 have L:(∀y∈rg x,0<=y/\y<s.Dk.length)->CX (GO.J2 x s) λr=>r.2=true->(TH E r.1/\r.1.Dq.length=r.1.Dk.length)/\r.1.AA=s.AA/\∀i∈r.1.Dq,∀k∈i,j k:=by intro a;unfold GO.J2;refine tI (λ_=>tR λ_=>⟨⟨⟨I,J,d.b,g⟩,G⟩,rfl,m⟩) λR=>tI (λu=>?_) λM=>tI (λw=>?_) λO=>tI (λB=>?_) λQ=>?_;simp only[rg1 (eq_of_beq u),AAg,forall_eq]at a;exact l _ _ _ a ⟨List.Pairwise.nil,ak⟩ ak;simp only[rg2 (eq_of_beq w),AAk,List.not_mem_nil,ABB,forall_eq_or_imp,forall_eq]at a;exact tG a.2 λ_ _=>tG ah λi c=>l _ _ _ a.1 (d.b i c) (m i c);simp only[rg3 (eq_of_beq B),AAk,List.not_mem_nil,ABB,forall_eq_or_imp,forall_eq]at a;exact NI (jJ _) λ_=>tG a.2 λ_ _=>NI (Unary_tot _ _) λ_=>tG ah λi c=>l _ _ _ a.1 (d.b i c) (m i c);(. have C:x.Op=4:=(by simp[yG]at H R M O Q;omega);simp only[rg4 C,AAk,List.not_mem_nil,ABB,forall_eq_or_imp,forall_eq]at a;refine NI (jJ _) λ_=>tG a.2.1 λ_ _=>tG a.2.2 λ_ _=>NI (Binary_tot _ _ _) λ_=>tG ah λi c=>tG ah λy p=>?_;have U:=(d.b i c).len g.1;have V:=(d.b y p).len g.1;refine tE (rI i y ah) (l _ _ _ a.1 ⟨NM _,λz f=>?_⟩ λz f=>?_);(rcases AAc.1 ((Kp _ _).1 f)with f|f);exact(d.b i c).2 z f;exact(d.b y p).2 z f;(. (rcases AAc.1 ((Kp _ _).1 f)with f|f);all_goals grind))
 unfold GO;refine tE (Ji x).1 (aX (rg x).length (λP (_:Unit)=>∀y∈(rg x).take P,0<=y/\y<(s.Dk.length:Int)) (s0:=()) (F:=λn _ P=>GO.AU x s (rg x) n P) (by have:=(Ji x).2;omega) ak λn P _ T q k=>?_);unfold GO.AU GO.L1 GO.J1;refine tD (λ_=>tAt ah (tD (λ_=>tI (λ_=>N) λh=>by cases h) λ_=>tD (λ_=>N) λ_=>k () ah (take_one ah q ah))) λ_=>L (vM ah q)
def bF:AN:=⟨0,[],[],0⟩
theorem Settle_tot{c:BI}{s:AN}(e:TH E s)(g:∀x∈s.Dq,∀k∈x,j k)(d:E<=100000)(m:c.Cq.length<=8000000):CX (E3 c s) λr=>TH E r.1/\(r.1=bF\/r.1.AA=s.AA/\∀x∈r.1.Dq,∀k∈x,j k):=by
 have Z:TH E bF/\(bF=bF\/bF.AA=s.AA/\∀x∈bF.Dq,∀k∈x,j k):=⟨TH.zero E,.inl rfl⟩;have j1:∀b,(b=false->s.Dq.length=s.Dk.length)->CX (E3.J1 c s b) λr=>TH E r.1/\(r.1=bF\/r.1.AA=s.AA/\∀x∈r.1.Dq,∀k∈x,j k):=by intro b l;unfold E3.J1;refine tI (λ_=>tR Z) λf=>tE (Copy7_eq e d) (aX (c.Cq.length+1) (λ_ t=>(TH E t/\t.Dq.length=t.Dk.length)/\t.AA=s.AA/\∀x∈t.Dq,∀k∈x,j k) (F:=λn s P=>E3.AU c n s P) ah ⟨⟨e,l f⟩,rfl,g⟩ λn i t hi a k=>?_);unfold E3.AU E3.L1 E3.J2 E3.J3;refine tD (λ_=>tD (λ_=>tI (λ_=>tR Z) λh=>by cases h) λ_=>tD (λ_=>tR Z) λ_=>tG ah λx _=>tE (bG _) (tI (λ_=>tR ⟨a.1.1,.inr a.2⟩) λh=>tI (λ_=>tR Z) λ_=>?_)) λ_=>tR Z;exact tB (step_tot a.1.1 a.2.2 d a.1.2 aA) λv o=>tI (λ_=>tR Z) λh=>k _ ah aA
 unfold E3;grind
def iY:List KH:=[⟨⟨#[109]⟩,false⟩,⟨⟨#[110]⟩,false⟩,⟨⟨#[114]⟩,true⟩]
def W9:AG:=⟨P7,[],[],[],[],[]⟩
structure WF (T:ABn->Prop) (w:AG):Prop where
 c:w.dg=P7
 l:w.AK=iY
 d:w.Aj=[⟨cN,0⟩]
 f:w.AM=[⟨#[102]⟩]
 t:∀s,T s->s∈w.AB
 n:w.AB.length<=4
structure GW (T:ABn->Prop) (g:BX):Prop where
 w:WF T g.w
 l:g.dr=uE
theorem UJ(h:w.dg=P7)(s:ABn):Ce w s=Ce W9 s:=by
 unfold Ce;have key:∀n i,Ce.AU s w n i=Ce.AU s W9 n i:=by intro n;induction n with|zero=>exactλ_=>rfl|succ n ih=>intro i;unfold Ce.AU Ce.L1;rw[h,show W9.dg=P7 from rfl];simp_all
 grind
theorem gt_in{l:List a}{x:a}(h:gt l i=some x):0<=i/\i<l.length:=by unfold gt at h;grind
theorem NL(h:0<=i/\i<o):EC i o=some true:=by unfold EC EC.J1;simp_all
theorem obj0(h:x.Op∈[(1:Int),2,5,10,17,18,19,20]):Ab w x=some true:=by simp only[AAk,List.not_mem_nil,ABB]at h;rcases h with h|h|h|h|h|h|h|h<;>simp[Ab,Ab.J3,Ab.J5,Ab.J7,Ab.J8,h]
theorem obj4(h:x.Op=4)(hn:6<=x.N/\x.N<=18):Ab w x=some true:=by simp[Ab,Ab.J3,Ab.J5,Ab.J7,Ab.J8,Ab.OE,h,hn.1,hn.2]
variable{y:Dy}
theorem obj6(h:x.Op=6)(a:gt w.dg x.B=some y)(b:y.Ca=0):Ab w x=some true:=by simp[Ab,Ab.J1,h,NL (gt_in a),a,b]
theorem obj8(h:x.Op=8)(a:gt w.dg x.A=some y)(b:y.Ca=0):Ab w x=some true:=by simp[Ab,Ab.J2,h,NL (gt_in a),a,b]
theorem arr_true(a:gt w.dg i=some y)(hi:y.d6=0)(c:y.Ca≠0)(hn:y.Ca=o):Ga w i o=some true:=by subst hn;simp[Ga,Ga.J1,NL (gt_in a),a,hi,c]
theorem obj7(h:x.Op=7)(b:gt w.dg x.B=some y)(hi:y.d6=0)(a:y.Ca≠0)(hn:y.Ca=x.N):Ab w x=some true:=by simp[Ab,h,arr_true b hi a hn]
theorem obj9(h:x.Op=9)(b:gt w.dg x.A=some y)(hi:y.d6=0)(a:y.Ca≠0)(hn:y.Ca=x.N):Ab w x=some true:=by simp[Ab,h,arr_true b hi a hn]
theorem objM{y:KH}(h:x.Op=11\/x.Op=12)(a:gt w.AK x.A=some y)(b:y.RW=false):Ab w x=some true:=by rcases h with h|h<;>simp[Ab,Ab.J3,Ab.J4,h,NL (gt_in a),a,b]
theorem objR{y:KH}(h:x.Op=13\/x.Op=14\/x.Op=15\/x.Op=16)(a:gt w.AK x.A=some y)(b:y.RW):Ab w x=some true:=by rcases h with h|h|h|h<;>simp[Ab,Ab.J3,Ab.J5,Ab.J6,h,NL (gt_in a),a,b]
theorem objC(h:x.Op=21\/x.Op=22\/x.Op=23)(a:0<=x.A/\x.A<w.Aj.length):Ab w x=some true:=by rcases h with h|h|h<;>simp[Ab,Ab.J3,Ab.J5,Ab.J7,h,NL a]
theorem objT(h:x.Op=24\/x.Op=25)(a:0<=x.A/\x.A<w.AB.length):Ab w x=some true:=by rcases h with h|h<;>simp[Ab,Ab.J3,Ab.J5,Ab.J7,Ab.J8,h,NL a]
theorem obj26(h:x.Op=26)(a:0<=x.A/\x.A<w.AM.length):Ab w x=some true:=by simp[Ab,Ab.J3,Ab.J5,Ab.J7,Ab.J8,h,NL a]
theorem obj27(h:x.Op=27)(a:0<=x.B/\x.B<w.AM.length):Ab w x=some true:=by simp[Ab,Ab.J3,Ab.J5,Ab.J7,Ab.J8,h,NL a]
theorem rg0(h:x.Op=5\/11<=x.Op/\x.Op<=25\/x.Op=28):rg x=[]:=by have n:∀k:Int,x.Op≠k->(x.Op==k)=false:=λk h=>ABf.2 h;unfold rg Aw Aw.J1 Aw.J2 Aw.J3;simp[n 1 ah,n 2 ah,n 3 ah,n 4 ah,n 6 ah,n 7 ah,n 8 ah,n 9 ah,n 10 ah,n 26 ah,n 27 ah]
def NameF(x:ABn):Prop:=(∃e,Cz uE x=some e/\0<=e/\e<2)\/(∃e,Cz uE x=some e/\e<0)/\∃c y,Ce W9 x=some c/\gt P7 c=some y/\y.Ca=0
theorem name_f{x:ABn}(h:x∈vN):NameF x:=by
 unfold vN at h;simp only[AAk,List.not_mem_nil,ABB]at h;rcases h with rfl|rfl|rfl|rfl|rfl
 exact .inl ⟨0,by decide +kernel,ah,ah⟩;exact .inl ⟨1,by decide +kernel,ah,ah⟩;exact .inr ⟨⟨-1,by decide +kernel,ah⟩,0,_,by decide +kernel,rfl,rfl⟩;exact .inr ⟨⟨-1,by decide +kernel,ah⟩,1,_,by decide +kernel,rfl,rfl⟩;exact .inr ⟨⟨-1,by decide +kernel,ah⟩,2,_,by decide +kernel,rfl,rfl⟩
theorem q_at:Ce W9 qS=some 3:=by decide +kernel
structure GV (g r:BX) (lo hi:Int):Prop where
 w:r.w=g.w
 l:r.dr=g.dr
 n:g.dt.length<=r.dt.length
 p:∀i,i<g.dt.length->r.dt[i]? =g.dt[i]?
 s:SG g.w lo hi r.dt g.dt.length r.dt.length r.dt.length
section
variable{T:lr}{g h r:BX}{lo hi lo' hi':Int}
def GV.refl:GV g g lo hi:=⟨rfl,rfl,AAl _,λ_ _=>rfl,SG.nil (AAl _)⟩
theorem GV.trans(a:GV g h lo hi)(b:GV h r lo hi):GV g r lo hi:=by have c:=a.n;have e:=b.n;refine⟨b.w.trans a.w,b.l.trans a.l,ah,λi hi=>(b.p i ah).trans (a.p i hi),(a.s.frame (l':=r.dt) (d:=r.dt.length) (λi _ hi=>(b.p i hi).symm) ah ah ah ah).app ?_⟩;have:=b.s;rw[a.w]at this;exact this
def GV.mono(a:GV g r lo hi)(b:lo'<=lo)(c:hi<=hi'):GV g r lo' hi':=⟨a.w,a.l,a.n,a.p,a.s.mono b c (AAl _)⟩
def GV.dx(a:GV g r lo hi)(s n:Int):GV g ⟨r.w,r.dr,r.dt,s,n⟩ lo hi:=⟨a.w,a.l,a.n,a.p,a.s⟩
theorem GW.next(a:GW T g)(b:GV g r lo hi):GW T r:=⟨by rw[b.w];exact a.w,b.l.trans a.l⟩
def GW.dx(a:GW T g)(s n:Int):GW T ⟨g.w,g.dr,g.dt,s,n⟩:=⟨a.w,a.l⟩
theorem put_eq(i:An):UD (BV g i) λr=>r=⟨g.w,g.dr,g.dt++[⟨i.Op,i.A,i.B,i.C,i.N,g.dx⟩],g.dx,g.next⟩:=by unfold BV;exact pC λ_=>pR rfl
theorem GV.put(b:LV g.w lo hi (g.dt.length+1) x)(a:x.Op≠5):GV g ⟨g.w,g.dr,g.dt++[x],i,o⟩ lo hi:=by refine⟨rfl,rfl,ak,λs hi=>aA,?_⟩;simp only[AA1,ABJ,List.length_nil];exact SG.one ak b a
abbrev GK(g r:BX)(lo hi:Int):Prop:=GV g r lo hi/\r.dx=g.dx/\r.next=g.next
theorem put_par(b:LV g.w lo hi (g.dt.length+1) ⟨x.Op,x.A,x.B,x.C,x.N,g.dx⟩)(a:x.Op≠5):UD (BV g x) λr=>GK g r lo hi:=pM (put_eq x) λ_ e=>by subst e;exact⟨GV.put b a,rfl,rfl⟩
def M8{i:An}(b:LV g.w lo hi (g.dt.length+1) ⟨i.Op,i.A,i.B,i.C,i.N,g.dx⟩)(a:i.Op≠5):UD ((BV g i).bind λv=>some v) λr=>GK g r lo hi:=pB (put_par b a) λ_ h=>pR h
def GK.trans(a:GK g h lo hi)(b:GK h r lo hi):GK g r lo hi:=⟨a.1.trans b.1,b.2.1.trans a.2.1,b.2.2.trans a.2.2⟩
theorem one_reg{x r:Int}(h:0<=r/\r<32):∀y∈[r],0<=y/\y<32:=λy a=>am
theorem value_par(d:Nat):∀(n:Nat)(g:BX)(e:BU)(r:Int),bY d e->GW T g->(lo<=g.dx/\g.dx<hi)->0<=r/\r+d<=32->UD (DU n g e r) λv=>GK g v lo hi:=by
 induction d with
 |zero=>exactλn g e r h=>h.elim
 |succ d ih=>
  intro n g e r E i m K;cases n with
  |zero=>exact pN
  |succ n=>
  have F:0<=r/\r<32:=ah;show UD (Hy (DU n) g e r) _;unfold Hy;rcases E with⟨f,_⟩|⟨f,_,hn⟩|⟨f,C,a,q,p⟩|⟨f,a,b,q,p,D⟩
  (simp only[f];exact pI (λ_=>M8 ⟨ak,obj0 ak,by rw[rg1 rfl];simp_all,m,ak,ak⟩ ak) λh=>by cases h);(simp only[f];refine pI bn λ_=>pI (λ_=>?_) λh=>(by cases h);rw[i.l];rcases name_f hn with⟨k,t,I,L⟩|⟨⟨k,t,I⟩,c,y,x,z,B⟩);exact pE t (pD (λ_=>M8 ⟨ak,obj0 ak,by rw[rg2 rfl];grind,m,ak,ak⟩ ak) λh=>ah);refine pE t (pD cm λ_=>pE ((UJ i.w.c _).trans x) (M8 ⟨ak,obj6 rfl (y:=y) (by rw[i.w.c];exact z) B,by rw[rg6 rfl];simp_all,m,ak,ak⟩ ak));simp only[f,q];refine pI bn λ_=>pI bn λ_=>pI (λ_=>pE (y:=a) rfl ?_) λh=>(by cases h);refine pB (ih n g a r p i m ah) λv o=>?_;have j:=i.next o.1;rw[C];refine pE ((UJ j.w.c _).trans q_at) (pE (y:=⟨⟨#[113]⟩,0,2,false,0⟩) (by rw[j.w.c];rfl) ?_);exact pM (M8 ⟨ak,obj7 rfl (y:=⟨⟨#[113]⟩,0,2,false,0⟩) (by rw[j.w.c];rfl) rfl ak rfl,by rw[rg7 rfl];simp_all,am,ak,ak⟩ ak) λ_ h=>o.trans h;have M:e.Op≠1:=λh=>am;have N:e.Op≠2:=λh=>am;have O:e.Op≠3:=λh=>am;have J:6<=e.Op/\e.Op<=18:=(by simp only[AAk,List.not_mem_nil,ABB]at f;omega);rw[AAP am,AAP am,AAP am,q];have H:A9 (r+1)=r+1:=CY ah ah;refine pI bn λ_=>pE (y:=a) rfl (pB (ih n g a r p i m ah) λv o=>pE (y:=b) rfl (pB (ih n v b _ D (i.next o.1) ah ah) λu G=>?_));rw[H];have s:=o.trans G;by_cases hd:d=0;subst hd;exact p.elim;exact pM (M8 ⟨ak,obj4 rfl J,by rw[rg4 rfl];grind,am,ak,ak⟩ ak) λ_ h=>s.trans h
theorem kV(a:bY 2 e)(b:GW T g)(c:lo<=g.dx/\g.dx<hi){r:Int}(d:0<=r/\r<=30):UD (DU BQ g e r) λv=>GK g v lo hi:=value_par 2 _ g e r a b c ah
theorem assign_par(f:GW T g)(i:lo<=g.dx/\g.dx<hi){s:AX}(m:Kx T (k+1) s)(n:s.Op=1):UD (Hb g s) λr=>GK g r lo hi:=by
 have o:bY 2 s.du:=m.2.2.1.resolve_right λh=>h.1 (by simp[n]);have q:(g.dr.length:Int)=2:=by rw[f.l];rfl
 unfold Hb;rw[q];rcases m.2.1 with h|⟨_,t,a,h,p⟩
 (rw[h];refine pI bn λ_=>pB (kV o f i ah) λv b=>?_;have d:=f.next b.1;have j:lo<=v.dx/\v.dx<hi:=(by rw[b.2.1];exact i);rw[d.l];rcases name_f (m.2.2.2.2.2.2.2.2.2.1 n h)with⟨c,k1,k2,k3⟩|⟨⟨c,k1,k2⟩,c,y,c1,c2,c3⟩);exact pE k1 (pD (λ_=>pM (M8 ⟨ak,obj0 ak,by rw[rg2 rfl];grind,j,ak,ak⟩ ak) λ_ h=>b.trans h) λh=>ah);refine pE k1 (pD cm λ_=>pE ((UJ d.w.c _).trans c1) (pM (M8 ⟨ak,obj8 rfl (y:=y) (by rw[d.w.c];exact c2) c3,by rw[rg8 rfl];simp_all,j,ak,ak⟩ ak) λ_ h=>b.trans h));rw[h];refine pI (λ_=>pE (y:=a) rfl ?_) λh=>(by cases h);rw[show A9 (2+1)=3 from rfl];refine pB (kV p f i ah) λv b=>pB (kV o (f.next b.1) (by rw[b.2.1];exact i) ah) λu x=>?_;have e:=b.trans x;have d:=f.next e.1;have j:lo<=u.dx/\u.dx<hi:=(by rw[e.2.1];exact i);rw[t];refine pE ((UJ d.w.c _).trans q_at) (pE (y:=⟨⟨#[113]⟩,0,2,false,0⟩) (by rw[d.w.c];rfl) ?_);exact pM (M8 ⟨ak,obj9 rfl (y:=⟨⟨#[113]⟩,0,2,false,0⟩) (by rw[d.w.c];rfl) rfl ak rfl,by rw[rg9 rfl];simp_all,j,ak,ak⟩ ak) λ_ h=>e.trans h
end
variable{C:ln}{v:jq}{f:List ABn×Bool}
theorem cells_in{l:nj}(m:l.length<=12)(g:1<=y.Ca/\y.Ca<=4)(hi:(k:Int)+y.Ca<=l.length)(p:f.2):∀(n t:Nat)(d:Dy),d.Ca=y.Ca->(t:Int)<=y.Ca->Ah.B9 C k l v y n d t=some f->(∀i:Nat,t<=i->(i:Int)<y.Ca->∃c,l[k+i]? =some c/\c.d6=i/\c.Ca=y.Ca)/\C (v++[y.dq]) (k+y.Ca)=some f:=by intro n;induction n with|zero=>intro t d _ _ h;cases h|succ n ih=>intro t d names o h;unfold Ah.B9 Ah.L2 at h;by_cases e:(t:Int)<y.Ca;rw[Ay e,CY (n:=(k:Int)+t) ah ah,show(k:Int)+t=((k+t:Nat):Int)from by omega,Be ah,AAK]at h;split at h;grind;rename_i j;rw[AW ah]at h;obtain⟨a,b⟩:=ih (t+1) ⟨d.dq,t,d.Ca,d.Hh,d.de⟩ names ah h;grind;rw[AR e]at h;unfold Ah.J2 at h;rw[names,CY ah ah]at h;grind
theorem cells_arr{l:nj}(E:l.length<=12)(o:f.2):∀(n i:Nat)(names:jq),names.length<=i->i<=l.length->Ah.AU l n names i=some f->∀(b:Nat)(c:Dy),i<=b->l[b]? =some c->c.d6=0->c.Ca≠0->(1<=c.Ca/\c.Ca<=4)/\∀k:Nat,(k:Int)<c.Ca->∃d,l[b+k]? =some d/\d.Ca≠0:=by intro n;induction n with|zero=>intro i names _ _ h;cases h|succ n ih=>intro i names hn L h b c K v u j;have C:=(AAN.1 v).1;unfold Ah.AU Ah.L1 at h;have hi:i<l.length:=ah;rw[Ay ah,Be hi,AAK,Bg ah]at h;have p:l[i]? =some l[i]:=AAT hi;generalize l[i]=x at h p;by_cases e:x.Ca=0;rw[AAQ (by simpa using e)]at h;split at h;cases h;cases o;rw[AW ah]at h;by_cases s:b=i;subst s;rw[p]at v;cases v;exact absurd e j;exact ih (i+1) _ an ah h b c ah v u j;(rw[AAP (by simpa using e)]at h;have J:∀t,Ah.J1 (Ah.AU l n) i l names x t=some f->t=false/\Ah.B9 (Ah.AU l n) i l names x BQ x 0=some f:=by intro t m;unfold Ah.J1 at m;cases t with|true=>cases m;cases o|false=>exact⟨rfl,m⟩);(have key:(1<=x.Ca/\x.Ca<=4)/\(i:Int)+x.Ca<=l.length/\Ah.B9 (Ah.AU l n) i l names x BQ x 0=some f:=by rw[CY (n:=(l.length:Int)-i) ah ah]at h;split at h;exact absurd (J _ h).1 ak;rename_i y;split at h;exact absurd (J _ h).1 ak;rename_i z;split at h;exact absurd (J _ h).1 ak;obtain⟨H,I⟩:=J _ h;simp at y z H;exact⟨ah,ah,I⟩);obtain⟨w,F,G⟩:=key;obtain⟨a,r⟩:=cells_in E w F o BQ 0 x rfl ah G;by_cases s:(b:Int)<i+x.Ca;obtain⟨d,g,B,q⟩:=a (b-i) ah ah;rw[show i+(b-i)=b from by omega,v]at g;cases g;have:b=i:=ah;subst this;rw[p]at v;cases v;refine⟨w,λk D=>?_⟩;obtain⟨d,g,B,q⟩:=a k ah D;exact⟨d,g,by rw[q];exact j⟩;rw[show(i:Int)+x.Ca=((i+x.Ca.toNat:Nat):Int)from by omega]at r;exact ih (i+x.Ca.toNat) _ an ah r b c ah v u j
theorem arr_cells(f:DA w)(h:eD w i o):(1<=o/\o<=4)/\∀k,0<=k->k<o->∃d,gt w.dg (i+k)=some d/\d.Ca≠0:=by
 have n:=(Eh f).c;obtain⟨x,a,b,p,hn⟩:=h;have s:0<=i:=by unfold gt at a;split at a;assumption;cases a
 obtain⟨m,rfl⟩:∃m:Nat,i=m:=⟨i.toNat,ah⟩;rw[Kw]at a;have l:∃v,Ah w.dg=some v/\v.2:=by unfold DA at f;cases hv:Ah w.dg with|none=>simp_all|some v=>simp_all
 obtain⟨v,q,r⟩:=l;obtain⟨e,g⟩:=cells_arr n r BQ 0 [] ak ah q m x ah a b p;rw[hn]at e g;refine⟨e,λk t u=>?_⟩;obtain⟨j,rfl⟩:∃j:Nat,k=j:=⟨k.toNat,ah⟩;rw[show(m:Int)+j=((m+j:Nat):Int)from by omega,Kw];grind
structure FT (c:B5) (s:A3):Prop where
 v:VC c
 f:HR c.db s.dc=true
 c':s.dg.length=c.db.dg.length
 u:s.AM.length=c.db.AM.length
 n:s.AB.length=c.AB.length
 t:∀(i:Nat) x y,s.AB[i]? =some x->c.AB[i]? =some y->(0<=x.PC/\x.PC<y.Cq.length)/\(x.Dk.length:Int)=y.Dk/\(x.Dq.length:Int)=y.Dk
theorem fits_tot(l:CK c)(s:A3):CX (Gs c s) λb=>b=true->FT c s:=by
 have N:∀{u:Prop},CX (some false) λb:Bool=>b=true->u:=tR λh=>by cases h
 have hn:=l.n;have j1:∀b,(b=false->VC c/\HR c.db s.dc/\s.dg.length=c.db.dg.length/\s.AM.length=c.db.AM.length/\s.AB.length=c.AB.length)->CX (Gs.J1 c s b) λb=>b=true->FT c s:=by intro b p;unfold Gs.J1;refine tI (λ_=>N) λm=>?_;obtain⟨d,e,f,g,o⟩:=p m;refine aX c.AB.length (λi (_:Unit)=>∀(j:Nat) x y,j<i->s.AB[j]? =some x->c.AB[j]? =some y->(0<=x.PC/\x.PC<y.Cq.length)/\(x.Dk.length:Int)=y.Dk/\(x.Dq.length:Int)=y.Dk) (s0:=()) (F:=λn _ i=>Gs.AU c s n i) ah (λj _ _ h=>ah) λn i _ hi q k=>?_;unfold Gs.AU Gs.L1 Gs.J2 Gs.J3;refine tD (λ_=>tAt ah (tD (λ_=>tI (λ_=>N) λh=>by cases h) λz=>tAt ah (tD (λ_=>tI (λ_=>N) λh=>by cases h) λB=>tI (λ_=>tI (λ_=>N) λh=>by cases h) λC=>tI (λ_=>N) λD=>k () ah ?_))) λ_=>tR λ_=>⟨d,e,f,g,o,λj x y r t=>q j x y ?_ r t⟩;grind;grind
 unfold Gs;refine tB (bH l) λv a=>tI (λ_=>j1 _ λh=>by cases h) λh=>?_;have a:=a aA;refine tE (O0 _ (Eh a.w) _) (tI (λ_=>j1 _ λh=>by cases h) λd=>tI (λ_=>j1 _ λh=>by cases h) λe=>tI (λ_=>j1 _ λh=>by cases h) λf=>j1 _ λg=>⟨a,am,?_,?_,?_⟩);all_goals grind
theorem yO(i n:Int):CX (Hk i n) λv=>1<=n/\n<=4->0<=v/\v<n:=by unfold Hk Hk.J1;refine tD (λ_=>tR ah) λh=>tC ah (tD (λa=>tR λb=>?_) λa=>tR λb=>?_);have:=Int.lt_tmod_of_pos i (show 0<n by omega);rw[CY ah ah];omega;have:=Int.tmod_lt_of_pos i (show 0<n by omega);omega
def kindL:List Int:=[3,3,4,4,5,6,7,8,9,10,11,12,13,14,15,16,18,19,20,21,22,23,2]
def KO(o k:Int):Prop:=((k=3->o=6\/o=7)/\(k=4->o=8\/o=9)/\(k=5->o=10)/\(k=22->o=26)/\(k=23->o=27)/\(k=2↔o=28)/\(k=16->o=21)/\k≠1/\k≠17)/\(o=7->k=3)/\(o=9->k=4)/\(o=10->k=5)/\(o=8->k=4)/\(o=26->k=22)
instance  (o k:Int):Decidable (KO o k):=by unfold KO;infer_instance
theorem kindL_facts:∀n:Fin 23,KO ((n.1:Int)+6) kindL[n.1]:=bk
theorem kind_tot(h:1<=o/\o<=28):CX (JE o) λk=>k=0\/KO o k:=by unfold JE JE.J1;refine tD (λ_=>tI (λ_=>tR (.inl rfl)) λh=>by cases h) λb=>tD cm λ_=>?_;rw[CY ah ah];obtain⟨n,hn⟩:∃n:Nat,o-6=n:=⟨(o-6).toNat,ah⟩;rw[hn];have a:n<23:=ah;refine tAt (l:=kindL) a (tR (.inr ?_));have:=kindL_facts ⟨n,a⟩;grind
theorem object_tot{t:AN}(d:x.Op=7\/x.Op=9->0<=x.C/\x.C<t.Dk.length):CX (Gv x t) λo=>(x.Op=7->∃v,o=A9 (x.B+v)/\(1<=x.N/\x.N<=4->0<=v/\v<x.N))/\(x.Op=9->∃v,o=A9 (x.A+v)/\(1<=x.N/\x.N<=4->0<=v/\v<x.N)):=by
 have T:∀{o:ABm Int},TT o->x.Op≠7->x.Op≠9->CX o λo=>(x.Op=7->∃v,o=A9 (x.B+v)/\(1<=x.N/\x.N<=4->0<=v/\v<x.N))/\(x.Op=9->∃v,o=A9 (x.A+v)/\(1<=x.N/\x.N<=4->0<=v/\v<x.N)):=λh a b=>tM h λ_ _=>⟨λh=>absurd h a,λh=>absurd h b⟩;have j1:∀b,(b=true->x.Op≠7/\x.Op≠9)->CX (Gv.J1 x t b) λo=>(x.Op=7->∃v,o=A9 (x.B+v)/\(1<=x.N/\x.N<=4->0<=v/\v<x.N))/\(x.Op=9->∃v,o=A9 (x.A+v)/\(1<=x.N/\x.N<=4->0<=v/\v<x.N)):=by intro b e;unfold Gv.J1 Gv.J2;refine tI (λh=>T (tR trivial) (e h).1 (e h).2) λ_=>tI (λh=>tG (d (.inl (eq_of_beq h))) λ_ _=>tB (yO _ _) λv c=>tR ⟨λ_=>⟨v,rfl,c⟩,λf=>?_⟩) λg=>tI (λh=>tG (d (.inr (eq_of_beq h))) λ_ _=>tB (yO _ _) λv c=>tR ⟨λf=>?_,λ_=>⟨v,rfl,c⟩⟩) λj=>T ?_ am am;simp_all;simp_all;(. repeat' first|exact tR trivial|refine tI (λ_=>?_) λ_=>?_)
 unfold Gv;grind
def EvL(e:AH):Prop:=e.D4.length<=100000/\e.DL.length<=100000
structure PI (w:AG) (x:AN) (y:BI) (z:An) (q:AL) (e:AH):Prop where
 a:e.da=3\/e.da=23\/e.da=5->0<=z.A/\z.A<y.Dk
 b:e.da=4\/e.da=22->0<=z.B/\z.B<y.Dk
 d:e.D4=[]\/e.D4∈x.Dq/\(e.da=5\/(e.da=3\/e.da=4)/\(ix w.dg e.di).Ca≠0)
 r:e.DL=[]\/e.DL∈x.Dq/\(e.da=4\/e.da=22)
 s:e.da=1/\e.d8= -1\/(q.dh=4/\e.da=17\/q.dh=2/\(e.da=2↔z.Op=28)/\e.da≠1/\e.da≠17/\(e.da=16->z.Op=21))/\e.d8=z.d8
 j:e.da=5->z.Op=10
structure PE (c:B5) (s:A3) (th:Int) (e:AH):Prop where
 f:FT c s
 t:0<=th/\th<c.AB.length
 l:EvL e
 h:e.cT=th
 i:∀x y z q,s.AB[th.toNat]? =some x->c.AB[th.toNat]? =some y->y.Cq[x.PC.toNat]? =some z->s.dc.AB[th.toNat]? =some q->PI c.db x y z q e
theorem gt_eq[Inhabited a]{l:List a}{x:a}(h:gt l i=some x):ix l i=x:=by unfold gt at h;split at h;unfold ix;rw[h];rfl;cases h
variable{s:A3}
theorem Pending_tot(hc:CK c)(hs:∀t∈s.AB,TH E t)(hE:E<=100000)(th:Int):CX (Dv c s th) λr=>r.2=true->PE c s th r.1:=by
 have N:∀{x} {P:AH×Bool->Prop},CX (some (x,false)) λr:AH×Bool=>r.2=true->P r:=tR λh=>by cases h
 have j1:∀b,(b=false->FT c s/\0<=th/\th<c.AB.length)->CX (Dv.J1 c s th b) λr=>r.2=true->PE c s th r.1:=by
  intro b L;unfold Dv.J1;refine tI (λ_=>N) λh0=>?_;obtain⟨G,ht⟩:=L h0;obtain⟨_,_,l3⟩:=Dn G.f;have hn:=G.n;have hn2:=G.v.n;obtain⟨x,x1,x2,x3⟩:=Ln (l:=s.AB) (i:=th) ah;obtain⟨y,y1,y2,y3⟩:=Ln (l:=c.AB) (i:=th) ah;obtain⟨p1,p2,p3⟩:=G.t _ x y x2 y2;obtain⟨z,z1,z2,z3⟩:=Ln (l:=y.Cq) (i:=x.PC) ah;obtain⟨q,q1,q2,q3⟩:=Ln (l:=s.dc.AB) (i:=th) ah;have S:=(G.v.t _ y y2).i z z3;have ho:=S.o;have p:=S.g;have W:=hs x x3;have J:∀q∈x.Dq,q.length<=100000:=λq u=>by have:=(W.b q u).len W.e.1;have:=W.e.2;omega
  refine tE x1 (tE y1 (tE z1 (tE q1 ?_)));have I:∀e:AH,EvL e->e.cT=th->PI c.db x y z q e->PE c s th e:=by intro e j m K;refine⟨G,ht,j,m,λx' y' z' q' MC O Q M=>?_⟩;rw[x2]at MC;rw[y2]at O;rw[q2]at M;obtain rfl:=AAO MC;obtain rfl:=AAO O;obtain rfl:=AAO M;rw[z2]at Q;obtain rfl:=AAO Q;exact K
  refine tI (λ_=>tR λ_=>I _ ⟨ak,ak⟩ rfl ⟨ak,ak,.inl rfl,.inl rfl,.inl ⟨rfl,rfl⟩,ak⟩) λ_=>tI (λh=>tR λ_=>I _ ⟨ak,ak⟩ rfl ⟨ak,ak,.inl rfl,.inl rfl,.inr ⟨.inl ⟨eq_of_beq h,rfl⟩,rfl⟩,ak⟩) λ_=>tI (λT=>?_) λ_=>N;have T:=eq_of_beq T;refine tB (kind_tot ho) λk V=>?_;have hC:z.Op=7\/z.Op=9->0<=z.C/\z.C<y.Dk:=by rintro(h|h);simp[rg7 h]at p;omega;simp[rg9 h]at p;omega
  have hB:z.Op=8\/z.Op=9\/z.Op=26->0<=z.B/\z.B<y.Dk:=by rintro(h|h|h);simp[rg8 h]at p;omega;simp[rg9 h]at p;omega;simp[rg26 h]at p;omega
  have hA:z.Op=6\/z.Op=7\/z.Op=10\/z.Op=27->0<=z.A/\z.A<y.Dk:=by rintro(h|h|h|h);simp[rg6 h]at p;omega;simp[rg7 h]at p;omega;simp[rg10 h]at p;omega;simp[rg27 h]at p;omega
  refine tB (object_tot λh=>ah) λo H=>tI (λ_=>N) λqT=>?_;have V:=V.resolve_left am;obtain⟨⟨a1,a2,a3,a4,a5,a6,a7,a8,a9⟩,b1,b2,b3,b4,b5⟩:=V;have U:z.Op=7\/z.Op=9->(k=3\/k=4)/\(ix c.db.dg o).Ca≠0:=by(have key:∀b v,eD c.db b z.N->o=A9 (b+v)->(1<=z.N/\z.N<=4->0<=v/\v<z.N)->(ix c.db.dg o).Ca≠0:=by intro b v j m K;obtain⟨n1,n2⟩:=arr_cells G.v.w j;obtain⟨d,d1,d2⟩:=n2 v (K n1).1 (K n1).2;have hd:=d1;unfold gt at hd;split at hd;have:=(AAN.1 hd).1;have:=(Eh G.v.w).c;rw[m,CY ah ah,gt_eq d1];exact d2;cases hd);rintro(h|h);obtain⟨v,v1,v2⟩:=H.1 h;exact⟨.inl (b1 h),key _ v (S.a.1 h) v1 v2⟩;obtain⟨v,v1,v2⟩:=H.2 h;exact⟨.inr (b2 h),key _ v (S.a.2 h) v1 v2⟩
  have mk:∀D F,(D=[]\/D∈x.Dq/\(k=5\/(k=3\/k=4)/\(ix c.db.dg o).Ca≠0))->(F=[]\/F∈x.Dq/\(k=4\/k=22))->D.length<=100000->F.length<=100000->PE c s th ⟨th,k,o,0,z.d8,D,F⟩:=λD F j m K h4=>I _ ⟨K,h4⟩ rfl ⟨λh=>hA aA,λh=>hB aA,j,m,.inr ⟨.inr ⟨T,a6,a8,a9,a7⟩,rfl⟩,a3⟩;have X:∀D,(D=[]\/D∈x.Dq/\(k=5\/(k=3\/k=4)/\(ix c.db.dg o).Ca≠0))->D.length<=100000->CX (Dv.J3 x z ⟨th,k,o,0,z.d8,D,[]⟩) λr=>r.2=true->PE c s th r.1:=by(intro D j m;have Z:∀b,(b=true->z.Op=8\/z.Op=9\/z.Op=26)->CX (Dv.J4 ⟨th,k,o,0,z.d8,D,[]⟩ x z b) λr=>r.2=true->PE c s th r.1:=by intro b L;unfold Dv.J4 Dv.J5;refine tI (λh=>tG am λq u=>?_) λ_=>tR λ_=>mk _ _ j (.inl rfl) m ak;have R:=J q u;refine tC (Cd an) (tR λ_=>mk _ _ j (.inr ⟨am,?_⟩) m am);have:=L h;omega);unfold Dv.J3;exact tI (λh=>Z _ λ_=>.inl (eq_of_beq h)) λ_=>tI (λh=>Z _ λ_=>.inr (.inl (eq_of_beq h))) λ_=>Z _ λh=>.inr (.inr (eq_of_beq h))
  have j2:∀b,(b=true->z.Op=7\/z.Op=9)->CX (Dv.J2 th k o x z b) λr=>r.2=true->PE c s th r.1:=by intro b h;unfold Dv.J2;refine tI (λL=>tG am λq u=>?_) λ_=>X _ (.inl rfl) ak;have R:=J q u;exact tC (Cd ah) (X _ (.inr ⟨u,.inr (U (h L))⟩) R)
  refine tI (λh=>tG am λq u=>?_) λ_=>tI (λh=>j2 _ λ_=>.inl (eq_of_beq h)) λ_=>j2 _ λh=>.inr (eq_of_beq h);have R:=J q u;exact tC (Cd ah) (X _ (.inr ⟨u,.inl (b3 (eq_of_beq h))⟩) R)
 unfold Dv;refine tB (fits_tot hc s) λv hv=>tI (λ_=>j1 _ λh=>by cases h) λh=>tD (λ_=>j1 _ λh=>by cases h) λj=>j1 _ λm=>⟨hv aA,ah,?_⟩;simp_all
def SI(N:Nat)(s:A3):Prop:=RB N s.dc/\∀t∈s.AB,TH N t
theorem TH.mono{F:Nat}{t:AN}(h:TH E t)(a:E<=F):TH F t:=⟨h.r,h.t,h.b,h.e.1,by have:=h.e.2;omega⟩
theorem Copy9_eq(h:∀t∈s.AB,TH E t)(b:E<=100000)(c:YY s.dc)(e:s.dg.length<=1000)(g:s.AM.length<=1000)(f:s.AB.length<=1000):Hc s=some s:=by
 have key:CX (Hc s) λr=>r=s:=by unfold Hc;refine tE (Copy_eq _ c) (tC (Cd ah) (tC (Cd ah) (aX s.AB.length (λi o=>o=⟨s.dc,s.dg,s.AM,s.AB.take i⟩) (F:=λn o i=>Hc.AU s n o i) ah rfl λn i o hi d k=>?_)));subst d;unfold Hc.AU Hc.L1 Hc.J1;refine tD (λ_=>tAt ah ?_) λ_=>tR (by rw[AAw (by omega)]);exact tE (Copy7_eq (h _ (AAW ah)) b) (tC (Cd an) (k _ ah am))
 obtain⟨r,a,rfl⟩:=key;exact a
structure SR (c:B5) (s:A3) (ch:DK) (s':A3) (e:AH):Prop where
 p:PE c s ch.cT e
 en:CN c.db s.dc ch.cT e.da e.di=true
 sy:s'.dc=(DP c.db s.dc ch.cT e.da e.di ch.gE).1
 va:(e.da=3->gt s.dg e.di=some e.dm)/\(e.da=23->gt s.AM e.di=some e.dm)/\(e.da=5->e.dm=0\/e.dm=1)/\(e.da≠3->e.da≠23->e.da≠5->e.da≠4->e.da≠22->e.dm=(DP c.db s.dc ch.cT e.da e.di ch.gE).2)
 ce:s'.dg=if e.da=4 then s.dg.set e.di.toNat e.dm else s.dg
 fu:s'.AM=if e.da=22 then s.AM.set e.di.toNat e.dm else s.AM
 th:∃x x',s.AB[ch.cT.toNat]? =some x/\s'.AB=s.AB.set ch.cT.toNat x'/\(e.da=16->x'.PC=x.PC)/\(x'=bF\/x'.AA=x.AA+1/\∀l∈x'.Dq,∀k∈l,(∃m∈x.Dq,k∈m)\/k=x.AA/\(e.da=3\/e.da=23))
theorem Step9_tot(hc:CK c)(O:SI E s)(hE:E<=10000)(g:DK):CX (Ek c s g) λr=>r.2.2=true->(SI (E+1) r.1/\EvL r.2.1)/\SR c s g r.1 r.2.1:=by
 obtain⟨hr,O⟩:=O;have N:∀{x y} {P:A3×AH×Bool->Prop},CX (some (x,y,false)) λr:A3×AH×Bool=>r.2.2=true->P r:=tR λh=>by cases h
 unfold Ek;refine tB (Pending_tot hc O ah g.cT) λv hv=>tI (λ_=>N) λh=>?_;have hv:=hv (by simpa using h);obtain⟨D,ht,J,hh,hi⟩:=hv;have T:=Eh D.v.w;have w1:=T.c;have w2:=T.f;have w3:=T.t;have c1:=D.c';have c2:=D.u;have c3:=D.n;have c4:=D.v.n;refine tE (Tz _ T _ (hr.mono ah) _ _ _ _) (tI (λ_=>N) λB=>?_);have M:CN c.db s.dc g.cT v.1.da v.1.di:=by cases I:CN c.db s.dc g.cT v.1.da v.1.di with|true=>rfl|false=>simp[QX,I]at B
 have Z:A8 c.db v.1.da v.1.di:=by have M:=M;unfold CN at M;simp only[AAL]at M;exact M.2.2.1
 have hap:QX c.db s.dc g.cT v.1.da v.1.di g.gE=((DP c.db s.dc g.cT v.1.da v.1.di g.gE).1,(DP c.db s.dc g.cT v.1.da v.1.di g.gE).2,true):=by simp[QX,M]
 rw[hap];have hR:=hr.apply c.db g.cT v.1.da v.1.di g.gE;refine tE (Copy9_eq O ah (YY.of T D.f (hr.mono ah)) ah ah ah) ?_;obtain⟨x,x1,x2,x3⟩:=Ln (l:=s.AB) (i:=g.cT) ah;obtain⟨y,y1,y2,y3⟩:=Ln (l:=c.AB) (i:=g.cT) ah;obtain⟨p1,p2,p3⟩:=D.t _ x y x2 y2;obtain⟨z,z1,z2,z3⟩:=Ln (l:=y.Cq) (i:=x.PC) ah;obtain⟨q,q1,q2,q3⟩:=Ln (l:=s.dc.AB) (i:=g.cT) (by have:=(Dn D.f).2.2;omega);have iA:=(hi x y z q x2 y2 z2 q2).a;have iB:=(hi x y z q x2 y2 z2 q2).b;have K:=O x x3;refine tE x1 (tE y1 (tE z1 ?_));have hpe:∀val,PE c s g.cT ⟨v.1.cT,v.1.da,v.1.di,val,v.1.d8,v.1.D4,v.1.DL⟩:=λval=>⟨D,ht,J,hh,λx y z q a b c d=>by have h:=hi x y z q a b c d;exact⟨h.a,h.b,h.d,h.r,h.s,h.j⟩⟩;generalize H:DP c.db s.dc g.cT v.1.da v.1.di g.gE=ap at hR |-;let VAC:Int->List Int->List Int->Prop:=λval C F=>((v.1.da=3->gt s.dg v.1.di=some val)/\(v.1.da=23->gt s.AM v.1.di=some val)/\(v.1.da=5->val=0\/val=1)/\(v.1.da≠3->v.1.da≠23->v.1.da≠5->v.1.da≠4->v.1.da≠22->val=ap.2))/\C=(if v.1.da=4 then s.dg.set v.1.di.toNat val else s.dg)/\F=(if v.1.da=22 then s.AM.set v.1.di.toNat val else s.AM);let TX:AN->Prop:=λt=>t=bF\/t.AA=x.AA+1/\∀l∈t.Dq,∀k∈l,(∃m∈x.Dq,k∈m)\/k=x.AA/\(v.1.da=3\/v.1.da=23);have j6:∀val C F t,VAC val C F->TX t->(v.1.da=16->t.PC=x.PC)->TH (E+1) t->CX (Ek.J6 g ⟨v.1.cT,v.1.da,v.1.di,val,v.1.d8,v.1.D4,v.1.DL⟩ C F (ap.1,ap.2,true) s t) λr=>r.2.2=true->(SI (E+1) r.1/\EvL r.2.1)/\SR c s g r.1 r.2.1:=by intro val C F t p B X h4;unfold Ek.J6;refine tE x1 (tR λ_=>⟨⟨⟨hR,?_⟩,J⟩,hpe val,M,by rw[H],?_,p.2.1,p.2.2,x,t,x2,rfl,X,B⟩);(intro q G;rcases AA2 G with G|rfl);exact(O q G).mono ah;exact h4;rw[H];exact p.1
 have W:A9 (x.AA+1)=x.AA+1:=by have:=K.e;exact CY ah ah
 have j5:∀val n C F t b,VAC val C F->(v.1.da=16->n=x.PC/\b=false)->t.AA=x.AA->(∀l∈t.Dq,∀k∈l,(∃m∈x.Dq,k∈m)\/k=x.AA/\(v.1.da=3\/v.1.da=23))->TH (E+1) ⟨0,t.Dk,t.Dq,A9 (t.AA+1)⟩->CX (Ek.J5 c g ⟨v.1.cT,v.1.da,v.1.di,val,v.1.d8,v.1.D4,v.1.DL⟩ n C F t (ap.1,ap.2,true) s b) λr=>r.2.2=true->(SI (E+1) r.1/\EvL r.2.1)/\SR c s g r.1 r.2.1:=by intro val n C F t b p hn I S B;unfold Ek.J5;have X:∀n,TH (E+1) ⟨n,t.Dk,t.Dq,A9 (t.AA+1)⟩:=λn=>⟨B.r,B.t,B.b,B.e⟩;refine tI (λo=>tE y1 (tB (Settle_tot (X n) S ah (hc.i y y3)) λu hu=>j6 _ _ _ _ p ?_ (λh=>by rw[(hn h).2]at o;cases o) hu.1)) λ_=>j6 _ _ _ _ p (.inr ⟨by rw[I,W],S⟩) (λh=>(hn h).1) (X n);exact hu.2.imp id λh=>⟨by rw[h.1,I,W],h.2⟩
 have j3:∀val n C F b,VAC val C F->(v.1.da=16->n=x.PC)->(b=true->(v.1.da=3\/v.1.da=23))->CX (Ek.J3 c g ⟨v.1.cT,v.1.da,v.1.di,val,v.1.d8,v.1.D4,v.1.DL⟩ n C F (ap.1,ap.2,true) s x z b) λr=>r.2.2=true->(SI (E+1) r.1/\EvL r.2.1)/\SR c s g r.1 r.2.1:=by intro val n C F b p hn B;unfold Ek.J3 Ek.J4;have I:=K.e;have UF:∀{t},(∀l∈t.Dq,∀k∈l,(∃m∈x.Dq,k∈m)\/k=x.AA/\(v.1.da=3\/v.1.da=23))->t.AA=x.AA->TH (E+1) ⟨0,t.Dk,t.Dq,A9 (t.AA+1)⟩->CX (if(v.1.da != 16)=true then Ek.J5 c g ⟨v.1.cT,v.1.da,v.1.di,val,v.1.d8,v.1.D4,v.1.DL⟩ n C F t (ap.1,ap.2,true) s (v.1.da != 2)else Ek.J5 c g ⟨v.1.cT,v.1.da,v.1.di,val,v.1.d8,v.1.D4,v.1.DL⟩ n C F t (ap.1,ap.2,true) s false) λr=>r.2.2=true->(SI (E+1) r.1/\EvL r.2.1)/\SR c s g r.1 r.2.1:=λS I hT=>tI (λh=>j5 _ _ _ _ _ _ p (λR=>by rw[R]at h;cases h) I S hT) λ_=>j5 _ _ _ _ _ _ p (λh=>⟨hn h,rfl⟩) I S hT;refine tI (λo=>?_) λ_=>?_;have B:=B o;have hA:=iA ah;refine tG ah λ_ _=>tG ah λ_ _=>UF ?_ rfl ?_;(intro l J k hk;rcases AA2 J with J|rfl);exact .inl ⟨l,J,hk⟩;exact .inr ⟨AAg.1 hk,B⟩;(simp only[W];refine⟨by simpa using K.r,by simpa using K.t,?_,bh⟩;intro q G;rcases AA2 G with G|rfl);exact(K.b q G).mono bh;exact⟨ak,an⟩;refine UF (λl J k hk=>.inl ⟨l,J,hk⟩) rfl ?_;simp only[W];exact⟨K.r,K.t,λq G=>(K.b q G).mono bh,bh⟩
 have L:∀C F val n,VAC val C F->(v.1.da=16->n=x.PC)->CX (Ek.J2 c g (ap.1,ap.2,true) s x z C F ⟨v.1.cT,v.1.da,v.1.di,val,v.1.d8,v.1.D4,v.1.DL⟩ n) λr=>r.2.2=true->(SI (E+1) r.1/\EvL r.2.1)/\SR c s g r.1 r.2.1:=by intro C F val n p hn;unfold Ek.J2;exact tI (λh=>j3 _ _ _ _ _ p hn λ_=>.inl (eq_of_beq h)) λ_=>j3 _ _ _ _ _ p hn λh=>.inr (eq_of_beq h)
 have j1:∀b,(b=true->v.1.da=1\/v.1.da=16\/v.1.da=2)->(b=false->v.1.da≠16)->CX (Ek.J1 c g v (ap.1,ap.2,true) s x z b) λr=>r.2.2=true->(SI (E+1) r.1/\EvL r.2.1)/\SR c s g r.1 r.2.1:=by intro b o hb2;unfold Ek.J1;refine tI (λh=>L _ _ _ _ ⟨⟨by have:=o h;omega,by have:=o h;omega,by have:=o h;omega,λ_ _ _ _ _=>rfl⟩,by rw[AAP (by have:=o h;omega)],by rw[AAP (by have:=o h;omega)]⟩ λ_=>rfl) λh0=>tI (λh=>?_) λn3=>tI (λh=>?_) λV=>tI (λh=>?_) λn4=>tI (λh=>?_) λU=>tI (λh=>?_) λn5=>?_;have h:=eq_of_beq h;have:=As.1 (show B4 v.1.di c.db.dg.length=true by simpa[A8,h]using Z);obtain⟨d,Q,_⟩:=Ln (l:=s.dg) (i:=v.1.di) ah;exact tE Q (L _ _ _ _ ⟨⟨λ_=>Q,ah,ah,ah⟩,by rw[AAP ah],by rw[AAP ah]⟩ ah);have h:=eq_of_beq h;have:=As.1 (show B4 v.1.di c.db.AM.length=true by simpa[A8,h]using Z);obtain⟨d,Q,_⟩:=Ln (l:=s.AM) (i:=v.1.di) ah;exact tE Q (L _ _ _ _ ⟨⟨ah,λ_=>Q,ah,ah⟩,by rw[AAP ah],by rw[AAP ah]⟩ ah);have h:=eq_of_beq h;have:=As.1 (show B4 v.1.di c.db.dg.length=true by simpa[A8,h]using Z);have o:=iB (.inl h);exact tG ah λ_ _=>tG ah λ_ _=>L _ _ _ _ ⟨⟨ah,ah,ah,ah⟩,by rw[AAQ h],by rw[AAP ah]⟩ ah;have h:=eq_of_beq h;have:=As.1 (show B4 v.1.di c.db.AM.length=true by simpa[A8,h]using Z);have o:=iB (.inr h);exact tG ah λ_ _=>tG ah λ_ _=>L _ _ _ _ ⟨⟨ah,ah,ah,ah⟩,by rw[AAP ah],by rw[AAQ h]⟩ ah;have h:=eq_of_beq h;have o:=iA (.inr (.inr h));exact tG ah λ_ _=>tI (λ_=>L _ _ _ _ ⟨⟨ah,ah,λ_=>.inl rfl,ah⟩,by rw[AAP ah],by rw[AAP ah]⟩ ah) λ_=>L _ _ _ _ ⟨⟨ah,ah,λ_=>.inr rfl,ah⟩,by rw[AAP ah],by rw[AAP ah]⟩ ah;simp only[ABf,ne_eq]at n3 V n4 U n5;exact L _ _ _ _ ⟨⟨λh=>absurd h n3,λh=>absurd h V,λh=>absurd h n5,λ_ _ _ _ _=>rfl⟩,by rw[AAP n4],by rw[AAP U]⟩ λh=>absurd h (hb2 h0)
 exact tI (λh=>j1 _ (λ_=>.inl (eq_of_beq h)) λR=>by rw[R]at h;cases h) λ_=>tI (λh=>j1 _ (λ_=>.inr (.inl (eq_of_beq h))) λR=>by rw[R]at h;cases h) λn16=>j1 _ (λh=>.inr (.inr (eq_of_beq h))) λ_=>by simpa using n16
structure TM (n:Nat) (t:Cu):Prop where
 n:t.AA.length<=n
 e:∀e∈t.AA,EvL e
 w:t.AA≠[]->DA t.db=true
theorem EvL.ok{e:AH}(h:EvL e):K3 e:=⟨by have:=h.1;omega,by have:=h.2;omega⟩
variable{z:AL->AL}{q:AL}
theorem getT{s:AP}(hi:0<=i/\i<s.AB.length)(h:(Jz s i z).AB[u]? =some q):(u:Int)=i/\q=z (ix s.AB i)\/(u:Int)≠i/\s.AB[u]? =some q:=by unfold Jz at h;grind
theorem ix_of[Inhabited a]{l:List a}{x:a}(h:l[u]? =some x)(hi:(u:Int)=i):ix l i=x:=by subst hi;unfold ix;simp[h]
variable{t:Int}
theorem ready_two{s:AP}{k:Int}(h:CN w s t k o)(a:k≠1)(b:k≠17):(ix s.AB t).dh=2:=by unfold CN Du at h;grind
variable{wake:Int}
theorem QR(h:W≠[]):El wake W∈W:=by unfold El;rw[AAP h];split;simp_all;cases W with|nil=>simp_all|cons a r=>simp
theorem waitL_stat(o:Int)(T:kr):∀(i:Nat)(u:Int),u∈CO o i T->∃x,T[(u-i).toNat]? =some x/\x.dh=3:=by
 induction T with
 |nil=>intro i u h;cases h
 |cons x r ih=>
  intro i u h;unfold CO at h;have key:u∈CO o (i+1) r->∃y,(x::r)[(u-i).toNat]? =some y/\y.dh=3:=by intro h;have b:=(Js o r (i+1) u h).1;obtain⟨y,y1,y2⟩:=ih (i+1) u h;refine⟨y,?_,y2⟩;rw[show(u-(i:Int)).toNat=(u-((i+1:Nat):Int)).toNat+1 from by omega,ABM];exact y1
  split at h;(rename_i a;rcases AAk.1 h with rfl|h);refine⟨x,ak,?_⟩;unfold Hv at a;simp_all;simp_all;simp_all
theorem stat_apply{s:AP}{k:Int}(h:CN w s t k o)(c:(DP w s t k o wake).1.AB[u]? =some q):((u:Int)=t->k=16\/q.dh=2\/q.dh=5)/\((u:Int)≠t->q.dh=1\/∃i,s.AB[u]? =some i/\(q=i\/i.dh=3/\q.dh=4)):=by
 have m:=λa b=>ready_two h (k:=k) a b;have D:=h;unfold CN at D;simp only[AAL]at D;obtain⟨M,B,L,H⟩:=D;obtain⟨_,_,N⟩:=Dn M;have B:=As.1 B;rw[<- N]at B;have own:∀(j:AP)(f:AL->AL),j.AB=s.AB->(Jz j t f).AB[u]? =some q->(k=16\/(f (ix s.AB t)).dh=2\/(f (ix s.AB t)).dh=5)->((u:Int)=t->k=16\/q.dh=2\/q.dh=5)/\((u:Int)≠t->q.dh=1\/∃i,s.AB[u]? =some i/\(q=i\/i.dh=3/\q.dh=4)):=by
  intro j f F wv y;rcases getT (by rw[F];exact B) wv with⟨e,rfl⟩|⟨e,p⟩
  rw[F];exact⟨λ_=>y,λh=>absurd e h⟩;rw[F]at p;exact⟨λh=>absurd h e,λ_=>.inr ⟨q,p,.inl rfl⟩⟩
 have g:∀(T:kr),T=s.AB->T[u]? =some q->(ix s.AB t).dh=2->((u:Int)=t->k=16\/q.dh=2\/q.dh=5)/\((u:Int)≠t->q.dh=1\/∃i,s.AB[u]? =some i/\(q=i\/i.dh=3/\q.dh=4)):=by rintro _ rfl wv y;exact⟨λe=>.inr (.inl (by rw[ix_of wv e]at y;exact y)),λ_=>.inr ⟨q,wv,.inl rfl⟩⟩
 unfold DP at c;by_cases l:k=1;rw[AAQ l]at c;exact own s _ rfl c (.inr (.inl rfl));rw[AAP l]at c;by_cases K:k=2;rw[AAQ K]at c;exact own s _ rfl c (.inr (.inr rfl));rw[AAP K]at c;by_cases e:k=6\/k=10;rw[AAQ e]at c;exact g _ rfl c (m l ah);rw[AAP e]at c;by_cases e:k=7\/k=11;rw[AAQ e]at c;exact g _ rfl c (m l ah);rw[AAP e]at c;by_cases e:k=8;rw[AAQ e]at c;exact g _ rfl c (m l ah);rw[AAP e]at c;by_cases e:k=9;rw[AAQ e]at c;exact g _ rfl c (m l ah);rw[AAP e]at c;by_cases e:k=12;rw[AAQ e]at c;exact g _ rfl c (m l ah);rw[AAP e]at c;by_cases e:k=13;rw[AAQ e]at c;exact g _ rfl c (m l ah);rw[AAP e]at c;by_cases e:k=14;rw[AAQ e]at c;exact own s _ rfl c (.inr (.inl (m l ah)));rw[AAP e]at c;by_cases e:k=15;rw[AAQ e]at c;exact own s _ rfl c (.inr (.inl (m l ah)));rw[AAP e]at c;by_cases G:k=16;rw[AAQ G]at c;exact own (HW s (ix w.Aj o).dn λx=>⟨-1,x.Ae⟩) _ rfl c (.inl G);rw[AAP G]at c;by_cases n:k=17;rw[AAQ n]at c;exact own (HW s (ix w.Aj o).dn λx=>⟨t,x.Ae⟩) _ rfl c (.inr (.inl rfl));rw[AAP n]at c;have j:=m l n;by_cases e:k=18;rw[AAQ e]at c;by_cases z:CO o 0 s.AB=[];rw[AAQ z]at c;exact g _ rfl c j;(rw[AAP z]at c;obtain⟨x,v,O⟩:=waitL_stat o s.AB 0 _ (QR (wake:=wake) z);have I:=Js o s.AB 0 _ (QR (wake:=wake) z);generalize El wake (CO o 0 s.AB)=d at c v I;have v:s.AB[d.toNat]? =some x:=(by simpa using v);have hd:ix s.AB d=x:=ix_of v ah;rcases getT (by simp at I;omega) c with⟨e,rfl⟩|⟨e,p⟩);refine⟨λh=>?_,λ_=>.inr ⟨x,?_,.inr ⟨O,rfl⟩⟩⟩;rw[<- h,e,hd]at j;omega;rw[show u=d.toNat from by omega];exact v;exact g _ rfl p j;rw[AAP e]at c;by_cases e:k=19;(rw[AAQ e]at c;have c:(s.AB.map (Hg o))[u]? =some q:=c;rw[AAX]at c;cases hx:s.AB[u]? with|none=>rw[hx]at c;cases c|some x=>rw[hx]at c;obtain rfl:=AAO c;unfold Hg;by_cases r:Hv x o=true;have:x.dh=3:=(by unfold Hv at r;simp only[AAL]at r;exact eq_of_beq r.1);rw[AAQ r];refine⟨λe=>?_,λ_=>.inr ⟨x,rfl,.inr ⟨this,rfl⟩⟩⟩;rw[ix_of hx e]at j;omega;rw[AAP r];exact⟨λe=>.inr (.inl (by rw[ix_of hx e]at j;exact j)),λ_=>.inr ⟨x,rfl,.inl rfl⟩⟩);rw[AAP e]at c;by_cases C:k=20;(rw[AAQ C]at c;have J:B4 o w.AB.length:=(by simpa[A8,C]using L);have E:o≠t:=(by simp[Du,C]at H;exact H.2.1);have J:=As.1 J;rcases getT ah c with⟨e,rfl⟩|⟨e,p⟩);exact⟨λh=>absurd (e.symm.trans h) E,λ_=>.inl rfl⟩;exact g _ rfl p j;rw[AAP C]at c;by_cases e:k=22;rw[AAQ e]at c;exact g _ rfl c j;rw[AAP e]at c;exact g _ rfl c j
theorem rO(wv:AG)(s:AP)(t k o wake:Int):(DP wv s t k o (if k=18 then(DP wv s t k o wake).2 else -1)).1=(DP wv s t k o wake).1:=by by_cases h:k=18;(rw[AAQ h,h];have key:∀w,(DP wv s t 18 o w)=(if CO o 0 s.AB=[]then s else Jz s (El w (CO o 0 s.AB)) IP,El w (CO o 0 s.AB)):=λw=>by simp[DP]);rw[key,key];by_cases a:CO o 0 s.AB=[];simp[a];have:=QR (wake:=wake) a;simp only[a,AAd];rw[show El (El wake (CO o 0 s.AB)) (CO o 0 s.AB)=El wake (CO o 0 s.AB)from ?_];generalize El wake (CO o 0 s.AB)=d at this |-;unfold El;simp_all;rw[AAP h];unfold DP;simp only[AAP h]
theorem nums_of(D:iT):∀a:Int,D.Pairwise (· < ·)->(∀k∈D,a<k/\k<i)->F9 i a D:=by induction D with|nil=>exactλ_ _ _=>rfl|cons x r ih=>intro a f b;obtain⟨g,h⟩:=List.pairwise_cons.1 f;have e:=b x ABE;unfold F9;simp only[AAL,AAe];exact⟨e.1,e.2,ih x h λk d=>⟨g k d,(b k (ABP _ d)).2⟩⟩
theorem isIn_app{l:kj}{b:Bool}(h:NK l i):NK (l++[b]) i:=by unfold NK at h |-;simp only[AAL]at h |-;have hi:=As.1 h.1;refine⟨As.2 an,?_⟩;have:=h.2;unfold ix at this |-;rw[AAs ah];exact this
theorem isIn_last{l:kj}:NK (l++[true]) (l.length:Int):=by unfold NK;simp only[AAL];exact⟨As.2 an,by unfold ix;simp⟩
structure GT (pre:List AH) (u:Int) (cnt:Int) (x:AN):Prop where
 c:cnt=x.AA
 n:x.AA=((Jj pre u).length:Int)
 k:∀l∈x.Dq,∀k∈l,NK (Jj pre u) k=true/\1<=k
structure LK (c:B5) (pre:List AH) (S:AD) (s:A3):Prop where
 y:S.dc=s.dc
 ce:S.dg=s.dg
 f:S.AM=s.AM
 n:S.df.length=c.db.AB.length
 t:∀(u:Nat) x y,s.AB[u]? =some x->c.AB[u]? =some y->y.Dk=0\/x=bF\/GT pre u (ix S.df u) x
 w:∀(u:Nat) x y q,s.AB[u]? =some x->c.AB[u]? =some y->s.dc.AB[u]? =some q->q.dh=3\/q.dh=4->∃z,gt y.Cq x.PC=some z/\z.Op=21
 e:∀(u:Nat) x q,s.AB[u]? =some x->s.dc.AB[u]? =some q->2<=q.dh->x=bF\/1<=x.AA
theorem apply_v0{s:AP}(c:i≠18)(d:i≠19):(DP w s t i o wake).2=0:=by
 have key:∀(P:Prop) [Decidable P] (a b:AP×Int),a.2=0->b.2=0->(if P then a else b).2=0:=λP _ a b e f=>by by_cases h:P;rw[AAQ h];exact e;rw[AAP h];exact f
 unfold DP;rw[AAP c,AAP d];repeat' first|rfl|apply key
variable{s':A3}{m:jo}{B:AD}
theorem sim{g:DK}{e:AH}(hE:E<=10000)(L:SI E s)(p:LK c m B s)(hr:SR c s g s' e):ET c.db B e/\UI m e/\LK c (m++[e]) (Dd c.db B e) s':=by
 obtain⟨hp,Q,hsy,hva,hce,hfu,x,x',U,hth,h16,MC⟩:=hr;obtain⟨N,ht,_,R,hi⟩:=hp;have c1:=N.c';have c2:=N.u;have c3:=N.n;have c4:=N.v.n;have l3:=(Dn N.f).2.2;obtain⟨y,_,y2,_⟩:=Ln (l:=c.AB) (i:=g.cT) ah;obtain⟨p1,p2,p3⟩:=N.t _ x y U y2;obtain⟨z,z1,z2,z3⟩:=Ln (l:=y.Cq) (i:=x.PC) ah;obtain⟨q,_,q2,_⟩:=Ln (l:=s.dc.AB) (i:=g.cT) ah;have C:=hi x y z q U y2 z2 q2;have hz:=(N.v.t _ y y2).i z z3;have hx:=L.2 x (AAZ U);have G:((g.cT.toNat:Nat):Int)=g.cT:=ah;have hgt:y.Dk=0\/GT m g.cT (ix B.df g.cT) x:=by
  rcases p.t _ x y U y2 with h|h|h
  exact .inl h;rw[h]at p2;exact .inl p2.symm;rw[G]at h;exact .inr h
 have J:∀D,D=[]\/D∈x.Dq->F9 (ix B.df e.cT) 0 D/\D.all (NK (Jj m e.cT)):=by rintro D (rfl|J);exact⟨rfl,rfl⟩;(rcases hgt with h|h);have:x.Dq.length=0:=ah;rw[List.length_eq_zero_iff.1 this]at J;cases J;rw[R];refine⟨nums_of D 0 (hx.b D J).1 λk T=>⟨by have:=(h.k D J k T).2;omega,?_⟩,AAS.2 λk T=>(h.k D J k T).1⟩;rw[h.c];exact((hx.b D J).2 k T).2
 have Z:=J e.D4 (C.d.imp id λh=>h.1);have tJ:=J e.DL (C.r.imp id λh=>h.1);have o:A8 c.db e.da e.di:=by have Q:=Q;unfold CN at Q;simp only[AAL]at Q;exact Q.2.2.1
 have YJ:Oq c.db e:=by
  unfold Oq;have site:z.Op≠28->e.d8=z.d8->(B4 e.d8 c.db.Bu.length&&(ix c.db.Bu e.d8).cT==e.cT):=by intro W I;have L:=hz.s;unfold vE at L;rw[AAP W,G]at L;obtain⟨b,V,b2⟩:=L;have S:=V;unfold gt at S;split at S;have:=(AAN.1 S).1;rw[I,gt_eq V,b2,R];simp only[AAL,ABK,and_true];exact As.2 ah;cases S
  rcases C.s with⟨k1,k2⟩|⟨⟨q4,Ry⟩|⟨q2',k2,n1,n17,UF⟩,F⟩
  rw[AAQ (.inl k1),k2];rfl;obtain⟨z',V,b2⟩:=p.w _ x y q U y2 q2 (.inr q4);rw[z1]at V;obtain rfl:=AAO V;rw[AAP ah];exact site ah F;by_cases I:e.da=2;have L:=hz.s;unfold vE at L;rw[AAQ (k2.1 I)]at L;rw[AAQ (.inr I),F,L];rfl;rw[AAP ah];exact site (λh=>I (k2.2 h)) F
 have X:Ed c.db B e:=by unfold Ed;rw[Z.1,tJ.1];simp only[Bool.and_true,AAL,AAo];refine⟨C.d.imp (λh=>by rw[h];rfl) λh=>h.2.imp (λh=>by rw[h];rfl) λh=>?_,C.r.imp (λh=>by rw[h];rfl) λh=>h.2.imp (λh=>by rw[h];rfl) λh=>by rw[h];rfl⟩;unfold QH;rw[AAQ h.1];simpa using h.2
 have CB:Gz B e:=by unfold Gz;rw[p.ce,p.f,p.y];obtain⟨v1,v2,v3,v4⟩:=hva;by_cases k3:e.da=3;rw[AAQ k3,gt_eq (v1 k3)];simp;rw[AAP k3];by_cases eG:e.da=23;rw[AAQ eG,gt_eq (v2 eG)];simp;rw[AAP eG];by_cases k5:e.da=5;(rw[AAQ k5];rcases v3 k5 with h|h<;>rw[h]<;>rfl);rw[AAP k5];by_cases k4:e.da=4\/e.da=22;rw[AAQ k4];rw[AAP k4];have hv:=v4 k3 eG k5 ah ah;by_cases O:e.da=18;rw[AAQ O];have:e.dm=El g.gE (CO e.di 0 s.dc.AB):=(by rw[hv,O];simp[DP]);by_cases hW:CO e.di 0 s.dc.AB=[];rw[this,hW];rfl;have hm:=QR (wake:=g.gE) hW;rw[<- this]at hm;simp only[AAo];exact .inl (by simpa using hm);rw[AAP O];by_cases v8:e.da=19;rw[AAQ v8,hv,v8];simp[DP];rw[AAP v8,hv];simp[apply_v0 O v8]
 have P:ET c.db B e:=by unfold ET I4;rw[p.y,p.ce,p.f,N.f,R,Q,YJ,X,CB,p.n,c1,c2];simp only[ABK,Bool.and_true,AAj];exact As.2 ah
 have K:UI m e:=by unfold UI;rw[Z.2,tJ.2];rfl
 refine⟨P,K,?_⟩;have hsy':(Dd c.db B e).dc=s'.dc:=by show(DP c.db B.dc e.cT e.da e.di (if e.da=18 then e.dm else -1)).1=_;rw[p.y,hsy,R];by_cases O:e.da=18;have hv:=hva.2.2.2 ah ah ah ah ah;have:=rO c.db s.dc g.cT e.da e.di g.gE;rw[AAQ O]at this |-;rw[hv];exact this;have:=rO c.db s.dc g.cT e.da e.di g.gE;rw[AAP O]at this |-;exact this
 have H:∀(u:Nat) a,s'.AB[u]? =some a->(u:Int)=g.cT/\a=x'\/(u:Int)≠g.cT/\s.AB[u]? =some a:=by intro u a o;rw[hth]at o;by_cases j:(u:Int)=g.cT;rw[show g.cT.toNat=u from by omega,AAR ah]at o;exact .inl ⟨j,(AAO o).symm⟩;rw[AAY ah]at o;exact .inr ⟨j,o⟩
 have M:∀u:Nat,ix (Dd c.db B e).df (u:Int)=if(u:Int)=g.cT then A9 (ix B.df g.cT+1)else ix B.df u:=by intro u;show ix (B.df.set e.cT.toNat (A9 (ix B.df e.cT+1))) u=_;rw[R];by_cases j:(u:Int)=g.cT;rw[AAQ j];have EU:u<B.df.length:=(by rw[p.n];omega);rw[show g.cT.toNat=u from by omega];unfold ix;simp[EU];rw[AAP j];unfold ix;rw[AAY ah]
 have QA:∀u:Int,Jj (m++[e]) u=if g.cT=u then Jj m u++[lS e]else Jj m u:=λu=>by rw[OH,R]
 have CW:∀(u:Nat) b,s'.dc.AB[u]? =some b->((u:Int)=g.cT->e.da=16\/b.dh=2\/b.dh=5)/\((u:Int)≠g.cT->b.dh=1\/∃q,s.dc.AB[u]? =some q/\(b=q\/q.dh=3/\b.dh=4)):=by intro u b S;rw[hsy]at S;exact stat_apply Q S
 refine⟨hsy',?_,?_,?_,?_,?_,?_⟩;rw[hce,<- p.ce];rfl;rw[hfu,<- p.f];rfl;show(B.df.set _ _).length=_;rw[List.length_set];exact p.n;(intro u a b o S;rcases H u a o with⟨j,rfl⟩|⟨j,o⟩);(rw[show u=g.cT.toNat from by omega,y2]at S;obtain rfl:=AAO S;rcases hgt with h|h);exact .inl h;(rcases MC with MC|⟨e1,e2⟩);exact .inr (.inl MC);by_cases hR:y.Dk=0;exact .inl hR;refine .inr (.inr ⟨?_,?_,?_⟩);rw[M,AAQ j,h.c,e1];have:=hx.e;exact CY ah ah;rw[QA,j,AAQ rfl,e1,h.n];simp;(intro l hl' k T;rw[QA,j,AAQ rfl];rcases e2 l hl' k T with⟨pre,m1,m2⟩|⟨rfl,hk3⟩);exact⟨isIn_app (h.k pre m1 k m2).1,(h.k pre m1 k m2).2⟩;have hr:lS e:=(by unfold lS;rcases hk3 with h|h<;>simp[h]);rw[hr];(have:=isIn_last (l:=Jj m g.cT);rw[<- h.n]at this;refine⟨this,?_⟩;have hq:2<=q.dh:=(by rcases C.s with⟨k1,_⟩|⟨⟨_,Ry⟩|⟨q2',_⟩,_⟩<;>omega);rcases p.e _ x q U q2 hq with h0|h0);rw[h0]at p2;exact absurd p2.symm hR;exact h0;(rcases p.t u a b o S with h|h|h);exact .inl h;exact .inr (.inl h);refine .inr (.inr ⟨?_,?_,?_⟩);rw[M,AAP j];exact h.c;rw[QA,AAP (λh=>j h.symm)];exact h.n;rw[QA,AAP (λh=>j h.symm)];exact h.k;(intro u a b d o S hd hs34;rcases H u a o with⟨j,rfl⟩|⟨j,o⟩);(rw[show u=g.cT.toNat from by omega,y2]at S;obtain rfl:=AAO S;have UF:e.da=16:=(by rcases(CW u d hd).1 j with h|h|h<;>omega);rw[h16 UF];refine⟨z,z1,?_⟩;rcases C.s with⟨k1,_⟩|⟨⟨_,Ry⟩|⟨_,_,_,_,h⟩,_⟩);omega;omega;exact h UF;(rcases(CW u d hd).2 j with h|⟨q',W,I⟩);omega;(refine p.w u a b q' o S W ?_;rcases I with rfl|I);exact hs34;exact .inl I.1;(intro u a d o hd I;rcases H u a o with⟨j,rfl⟩|⟨j,o⟩);(rcases MC with h|⟨e1,_⟩);exact .inl h;have:=hx.e;exact .inr ah;(rcases(CW u d hd).2 j with h|⟨q',W,h3⟩);omega;refine p.e u a q' o W ?_;rcases h3 with rfl|h3<;>omega
theorem kJ(h:(NH w).AB[k]? =some q):q.dh=0\/q.dh=1:=by have h:=AAZ h;unfold NH at h;grind
theorem Start9_ok(G:CK c)(b:C1 c=some true):CX (EJ c) λs=>SI 0 s/\LK c [] (Iu c.db) s:=by
 unfold EJ;obtain⟨v,D,E⟩:=bH G;rw[b]at D;have p:=E (AAO D).symm;rw[b,AAK];refine tI bn λ_=>?_;have b:=p;have z:=Eh b.w;have W:=z.c;have X:=z.f;have Z:=G.n;refine tE (Z2 _ z) (aX c.db.dg.length (λi s=>s.dc=NH c.db/\s.dg=(c.db.dg.take i).map (·.de)/\s.AM=[]/\s.AB=[]) (F:=λn s i=>EJ.AU c n s i) ah ⟨rfl,rfl,rfl,rfl⟩ λn i s hi e k=>?_);obtain⟨I,g,J,K⟩:=e;have R:s.dg.length=i:=by rw[g];simp;omega
 unfold EJ.AU EJ.L1 EJ.J1;refine tD (λ_=>tAt ah (tC (Cd ah) (k _ ah ⟨I,by simp only;rw[g,<- AAn ah,AA0];rfl,J,K⟩))) λ_=>?_;have g:s.dg=c.db.dg.map (·.de):=by rw[g,AAw ah]
 refine aX c.db.AM.length (λi t=>t.dc=NH c.db/\t.AM=List.replicate i 0/\t.AB=[]/\t.dg=s.dg) (F:=λn s i=>EJ.B9 c n s i) ah ⟨I,by simp[J],K,rfl⟩ λn i t hi e k=>?_;obtain⟨L,m,C,M⟩:=e;have R:t.AM.length=i:=by rw[m];simp
 unfold EJ.B9 EJ.L2 EJ.J2;refine tD (λ_=>tC (Cd ah) (k _ ah ⟨L,by simp only;rw[m,<- ABk],C,M⟩)) λ_=>?_;have m:t.AM=List.replicate c.db.AM.length 0:=by rw[m,show i=c.db.AM.length by omega]
 refine aX c.AB.length (λi u=>u.dc=NH c.db/\u.AB.length=i/\(∀x∈u.AB,TH 0 x/\x.AA=0/\∀l∈x.Dq,l=[])/\u.dg=s.dg/\u.AM=t.AM) (F:=λn s i=>EJ.Fw c n s i) ah ⟨L,by simp[C],by simp[C],M,rfl⟩ λn i u hi e k=>?_;obtain⟨o,V,N,O,P⟩:=e;unfold EJ.Fw EJ.L3 EJ.J3;refine tD (λ_=>tAt ah ?_) λ_=>tR ⟨⟨by rw[o];exact RB.start _,λx a=>(N x a).1⟩,by rw[o];rfl,by rw[O,g];rfl,by rw[P,m];rfl,by have:=b.n;simp[Iu],?_,?_,?_⟩;(have U:=(b.t i _ (AAT ah)).r;refine tC ⟨ah,ah,Cd ah⟩ (tC ⟨ah,ah,Cd ah⟩ (tC (Cd ah) (k _ ah ⟨o,an,?_,O,P⟩)));intro x a;rcases AAc.1 a with a|a);grind;rw[AAg.1 a];refine⟨⟨an,an,?_,ak⟩,rfl,λl H=>List.eq_of_mem_replicate H⟩;intro y B;have B:=List.eq_of_mem_replicate B;rw[B];exact⟨List.Pairwise.nil,ak⟩;intro j x y a _;have a:=N x (AAZ a);refine .inr (.inr ⟨?_,by rw[a.2.1];rfl,λl H k T=>aA⟩);rw[a.2.1];show ix (List.replicate c.db.AB.length 0) (j:Int)=0;unfold ix;simp only[AAi];by_cases S:j<c.db.AB.length;grind;rw[List.getElem?_eq_none an];rfl;intro j x y q _ _ d Q;rw[o]at d;have:=kJ d;omega;intro j x q _ d E;rw[o]at d;have:=kJ d;omega
def Acc(wv:AG)(l:jo)(S:AD):Prop:=∀r,G3 wv [] (Iu wv) (l++r)=G3 wv l S r
theorem Acc.step{wv:AG}{l:jo}{S:AD}(h:Acc wv l S){e:AH}(a:ET wv S e)(b:UI l e):Acc wv (l++[e]) (Dd wv S e):=by intro r;rw[ABL,h,List.singleton_append,G3,a,b];rfl
theorem from_ok(p:CK c)(f:SI 0 s)(q:LK c [] (Iu c.db) s){l:nd}(B:l.length<=1000):CX (HH c s [] l) λr=>(r.1.length<=l.length/\∀e∈r.1,EvL e)/\∃S,Acc c.db r.1 S/\LK c r.1 S r.2:=by unfold HH;refine aX l.length (λi (s:List AH×A3)=>(SI i s.2/\s.1.length<=i/\∀e∈s.1,EvL e)/\∃S,Acc c.db s.1 S/\LK c s.1 S s.2) (F:=λn s i=>HH.AU c l n s.1 s.2 i) (s0:=([],s)) ah ⟨⟨f,ak,ak⟩,_,λ_=>rfl,q⟩ λn i s hi f k=>?_;obtain⟨⟨d,C,g⟩,S,a,b⟩:=f;have up:SI (i+1) s.2:=⟨d.1.mono ah,λt u=>(d.2 t u).mono ah⟩;unfold HH.AU HH.L1 HH.J1 HH.J2 HH.J3;refine tD (λ_=>tI (λ_=>tG ah λx _=>?_) λ_=>tR ⟨⟨aA,g⟩,S,a,b⟩) λ_=>tI bn λ_=>tR ⟨⟨aA,g⟩,S,a,b⟩;refine tB (Step9_tot p d ah x) λv w=>tI (λh=>?_) λ_=>k (_,_) ah ⟨⟨up,aA,g⟩,S,a,b⟩;obtain⟨⟨y,D⟩,z⟩:=w h;obtain⟨j,m,o⟩:=sim ah d b z;refine tC (Cd ah) (k (_,_) ah ⟨⟨y,an,?_⟩,_,a.step j m,o⟩);grind
structure TA (n:Nat) (t:Cu):Prop where
 m:TM n t
 c:G3 t.db [] (Iu t.db) t.AA=(0,0)
theorem Run_ok(a:CK c){l:nd}(j:l.length<=1000):CX (Oh c l) λr=>TA l.length r.1:=by
 unfold Oh;obtain⟨v,d,i⟩:=bH a;rw[d,AAK];refine tI (λ_=>tR ⟨⟨ak,ak,λh=>absurd rfl h⟩,rfl⟩) λh=>?_;have f:v=true:=by simpa using h
 refine tB (Start9_ok a (by rw[d,f])) λs e=>tB (from_ok a e.1 e.2 j) λr b=>tR ⟨⟨b.1.1,b.1.2,λ_=>(i f).w⟩,?_⟩;obtain⟨S,g,_⟩:=b.2;have:=g [];rw[ABU]at this;exact this
end Go.Abs
