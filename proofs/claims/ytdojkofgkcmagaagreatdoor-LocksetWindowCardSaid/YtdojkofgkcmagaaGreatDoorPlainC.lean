/- What the typed programs give, in plain Lean. -/
import Derived.Test.YtdojkofgkcmagaaGreatDoorWalkF
import Derived.Test.YtdojkofgkcmagaaGreatDoorPlainB
import Derived.KernelRfl
set_option linter.defProp false
set_option linter.unusedSimpArgs false
set_option linter.unusedVariables false
namespace Go.Abs
set_option maxHeartbeats 4000000
variable{p:AR}{wv:BN}{e:BE}{k E:Nat}
section
variable{T:fb}
theorem RD(l:gq)(s:ABe)(a:l.length<1000000):CD (Cv l s) λr=> -1<=r/\r<l.length:=by unfold Cv;refine tL l.length ah λn i hi k=> ?_;unfold Cv.Aa Cv.L1 Cv.J1;exact tD (λ_=>tG ah λx _=>tI (λ_=>tR ah) λ_=>k ah) λ_=>tR ah
theorem LD(l:List Cq)(s:ABe)(a:l.length<1000000):CD (Cs l s) λr=> -1<=r/\r<l.length:=by unfold Cs;refine tL l.length ah λn i hi k=> ?_;unfold Cs.Aa Cs.L1 Cs.J1;exact tD (λ_=>tG ah λx _=>tI (λ_=>tR ah) λ_=>k ah) λ_=>tR ah
theorem Z3(h:MP p):TT (HZ p.Decls):=by have hd:=h.dl;have key:CD (Ei.bind HZ) λ_=>True:=⟨(0,0),by decide +kernel,trivial⟩;rw[h.d]at key;exact key
theorem VH(h:MP p):TT (CM p):=by
 have hd:=h.dl;have g:=h.t;have j1:∀{F:ew}{i:Int}{x:Cq}(b:Bool),TT (F (BA (i+1)))->TT (CM.J1 F i x b):=by intro F i x b k;unfold CM.J1;exact tI (λ_=>tR trivial) λ_=>k
 have a:∀{F:ew}{i:Int}{x:Cq}(b:Bool),TT (F (BA (i+1)))->TT (CM.J3 F i x b):=by intro F i x b k;unfold CM.J3;exact tI (λ_=>tR trivial) λ_=>k
 unfold CM;refine tL p.AA.length ah λn i hi k=> ?_;unfold CM.Aa CM.L1 CM.J2;refine tD (λ_=>tG ah λx d=>tB (RD _ _ ah) λ_ _=>tI (λ_=>j1 _ (k ah)) λ_=>tC ah (tB (LD _ _ an) λ_ _=>j1 _ (k ah))) λ_=> ?_;refine tL p.AA.length ah λn i hi k=> ?_;unfold CM.DF CM.L2;refine tD (λ_=>tG ah λx d=>tI (λ_=>tR trivial) λ_=>tL x.GA.length bg λm j e c=> ?_) λ_=>tR trivial;have f:=h.l x d;unfold CM.Gg CM.L3 CM.J4;refine tD (λ_=>tG ah λy o=>tB (RD _ _ ah) λ_ _=>tI (λ_=>a _ (c ah)) λ_=>tB (LD _ _ ah) λ_ _=>tI (λ_=>a _ (c ah)) λ_=>tC ah (tB (Nd _ _ an) λ_ _=>a _ (c ah))) λ_=>k ah
theorem uB(d:Nat):∀(n:Nat)(l:d5),d+1<=n->S9 T d l->TT (GY n l):=by
 induction d with
 |zero=>intro n l hn ⟨_,h⟩;obtain⟨n,rfl⟩:∃k,n=k+1:=⟨n-1,ah⟩;have:l=[]:=AAv.2 λx a=>(h x a).elim;subst this;show TT (Cy (GY n) []);exact tR trivial
 |succ d ih=>intro n l hn ⟨h1,h2⟩;obtain⟨n,rfl⟩:∃k,n=k+1:=⟨n-1,ah⟩;show TT (Cy (GY n) l);unfold Cy;refine Pw l.length (λ_ _=>True) (F:=λn s i=>Cy.Aa _ l n s i) ah trivial λm i s hi _ k=> ?_;unfold Cy.Aa Cy.L1 Cy.J1;exact tD (λ_=>tG ah λx a=>IW (ih n _ ah (h2 x a).body) λ_=>IW (ih n _ ah (h2 x a).els) λ_=>k _ ah trivial) λ_=>tR trivial
theorem pV(h:wv.GD.length<=100)(a b:Int)(s:ABe):CD (BX wv a b s) λr=>r.2=wv:=by
 have j1:∀{F:ir}{i:Int}(b:Bool),CD (F (BA (i+1))) (λr=>r.2=wv)->CD (BX.J1 F i wv b) λr=>r.2=wv:=by intro F i b k;unfold BX.J1;exact tI (λ_=>tR rfl) λ_=>k
 unfold BX;refine tL wv.GD.length ah λn i hi k=> ?_;unfold BX.Aa BX.L1 BX.J2;refine tD (λ_=>tG ah λx c=> ?_) λ_=>tR rfl;grind
theorem mR(h:MP p)(t:Int)(s:ABe):TT (Ec p t s):=by
 have hd:=h.dl;have d:=h.t;have j1:∀b,TT (Ec.J1 p s b):=by
  intro b;unfold Ec.J1;refine tI (λ_=>tR trivial) λ_=>tB (RD _ _ ah) λv e=>tD (λ_=>tB (LD _ _ ah) λ_ _=>tI (λ_=>tR trivial) λ_=>tR trivial) λ_=>tG ah λx _=> ?_;have c:∀b,TT (Ec.J2 p v b):=by intro b;unfold Ec.J2;exact tI (λ_=>tG ah λ_ _=>tR trivial) λ_=>tR trivial
  repeat' first|exact tR trivial|exact c _|refine tI (λ_=> ?_) λ_=> ?_
 unfold Ec;exact tD (λ_=>tD (λ_=>tG ah λx a=>tB (Nd _ _ (by have:=h.l x a;omega)) λ_ _=>j1 _) λ_=>j1 _) λ_=>j1 _
theorem K3(h:MP p)(t:Int)(s:ABe)(a b:Int):TT (DT p t s a b):=by
 unfold DT DT.J1;refine IW (mR h t s) λ_=> ?_
 repeat' first|exact tR trivial|refine tI (λ_=> ?_) λ_=> ?_
theorem uG(d:Nat):∀(n:Nat)(e:BE),d<=n->dE d e->TT (Jw n e):=by
 induction d with
 |zero=>exactλn e _ h=>h.elim
 |succ d ih=>intro n e hn ⟨h1,h2⟩;obtain⟨n,rfl⟩:∃k,n=k+1:=⟨n-1,ah⟩;show TT (FF (Jw n) e);unfold FF;refine Pw e.L.length (λ_ _=>True) (F:=λn (s:Int×Int) i=>FF.Aa _ e n s.1 s.2 i) ah (s0:=(1,0)) trivial λm i s hi _ k=> ?_;unfold FF.Aa FF.L1 FF.J1;exact tD (λ_=>tG ah λx a=>IW (ih n x ah (h2 x a)) λv=>k (_,_) ah trivial) λ_=>tR trivial
theorem x6(h:MP p)(t:Int)(d:Nat):∀(n:Nat)(e:BE),d<=n->dE d e->TT (Il n p t e):=by
 induction d with
 |zero=>exactλn e _ h=>h.elim
 |succ d ih=>
  intro n e hn ⟨h1,h2⟩;obtain⟨n,rfl⟩:∃k,n=k+1:=⟨n-1,ah⟩;show TT (D6 (Il n) p t e);have j1:∀r,TT (D6.J1 (Il n) e p t r):=by intro r;unfold D6.J1;refine Pw e.L.length (λ_ _=>True) (F:=λm s i=>D6.Aa _ e p t m s i) ah trivial λm i s hi _ k=> ?_;unfold D6.Aa D6.L1 D6.J2 D6.J3;exact tD (λ_=>tI (λ_=>tG ah λx a=>IW (ih n x ah (h2 x a)) λv=>k _ ah trivial) λ_=>tR trivial) λ_=>tI bk λ_=>tR trivial
  unfold D6;exact tI (λ_=>IW (K3 h _ _ _ _) λ_=>j1 _) λ_=>tI (λ_=>IW (K3 h _ _ _ _) λ_=>j1 _) λ_=>j1 _
theorem fS(h:MP p)(t:Int)(a:dE 2 e):TT (E4 p t e):=by
 have j1:∀b,TT (E4.J1 e p t b):=by intro b;unfold E4.J1;exact tI (λ_=>tR trivial) λ_=>IW (x6 h t 2 _ e (MC ah) a) λ_=>tR trivial
 unfold E4;exact IW (mV a) λ_=>tI (λ_=>tR trivial) λ_=>IW (uG 2 _ e (MC ah) a) λ_=>tI (λ_=>j1 _) λ_=>j1 _
theorem N7(a b:Int):TT (E5 a b):=by unfold E5;exact tI (λ_=>tR trivial) λ_=>tR trivial
theorem IK(b:Bool):TT (B3 b):=by unfold B3;exact tI (λ_=>tR trivial) λ_=>tR trivial
structure WK (p:AR) (A K:Nat) (wv:BN):Prop where
 p:wv.p=p
 a:wv.GD.length=A
 s:wv.Lo.length<=K
 t:wv.Yh.length<=K
theorem WK.mono{A:Nat}(h:WK p A k wv)(b:k<=E):WK p A E wv:=⟨h.p,h.a,by have:=h.s;omega,by have:=h.t;omega⟩
theorem one_tot(h:MP p){A:Nat}(f:WK p A E wv)(H:A<=100)(J:E<=900000){s:AQ}(o:Hw T (k+1) s):CD (BL wv s) λr=>WK p A (E+1) r.2:=by
 have hd:=h.dl;have n:=h.t;have m:=f.a;have F:=f.s;have G:=f.t;obtain rfl:=f.p;have W:WK wv.p A (E+1) wv:=f.mono ah;have I:=λa b s=>pV (wv:=wv) ah a b s;have K:=fS h wv.Bb o.e;have j:∀(b:Bool) e,CD (BL.rK s (b,wv) wv e) λr=>WK wv.p A (E+1) r.2:=by intro b e;unfold BL.rK;exact tC (Bm bg) (IW K λ_=>IW (N7 _ _) λ_=>tR ⟨rfl,m,W.s,an⟩)
 have g:∀(b c:Bool) e,CD (BL.Y4 e s (b,wv) wv c) λr=>WK wv.p A (E+1) r.2:=by intro b c e;unfold BL.Y4;exact tI (λ_=>j _ _) λ_=>j _ _
 have q:∀(b:Bool) e,CD (BL.Oz s (b,wv) wv e) λr=>WK wv.p A (E+1) r.2:=by intro b e;unfold BL.Oz;exact tI (λ_=>tB (Nd _ _ bg) λ_ _=>g _ _ _) λ_=>g _ _ _
 have D:∀(b c:Bool),CD (BL.J8 s (b,wv) c) λr=>WK wv.p A (E+1) r.2:=by intro b c;unfold BL.J8;exact tI (λ_=>tR W) λ_=>tB (Nd _ _ bg) λ_ _=>tI (λ_=>tR W) λ_=>tC (Bm bg) (tR ⟨rfl,m,an,W.t⟩)
 have z:s.Op∈[(9:Int),10,11]->CD (Cv wv.p.Decls s.Name) λr=>0<=r/\r<9:=by
  intro B;rw[o.2.2.2.1 B];have key:Ei.bind (λl=>Cv l cN)=some 7:=by decide +kernel
  rw[h.d]at key;exact⟨7,key,ah⟩
 have C:∀(b c d t:Bool),(t=true->s.Op∈[(9:Int),10,11])->CD (BL.J6 s (b,wv) (c,wv) (d,wv) wv t) λr=>WK wv.p A (E+1) r.2:=by
  intro b c d t v;unfold BL.J6 BL.J7 BL.J9;refine tI (λn=>IW (K3 h _ _ _ _) λ_=>tI (λ_=>tR W) λ_=>tB (z (v n)) λ_ _=>tG ah λx _=>tB (I _ _ _) ?_) λ_=> ?_
  . rintro⟨e,_⟩ rfl
    repeat' first|exact tR W|refine IW (IK _) λ_=> ?_|refine tI (λ_=> ?_) λ_=> ?_
  . repeat' first|exact tR W|refine IW (K3 h _ _ _ _) λ_=> ?_|refine IW (IK _) λ_=> ?_|refine IW (N7 _ _) λ_=> ?_|exact D _ _|exact q _ _|refine tB (LD _ _ ah) λ_ _=> ?_|refine tI (λ_=> ?_) λ_=> ?_
 have u:∀(b c d t:Bool),CD (BL.J3 s (b,wv) (c,wv) (d,wv) wv t) λr=>WK wv.p A (E+1) r.2:=by
  intro b c d t;unfold BL.J3 BL.J4 BL.J5;refine tI (λn=>IW (K3 h _ _ _ _) λ_=>tI (λ_=>IW (IK _) λ_=>IW (N7 _ _) λ_=>tR W) λ_=>tB (I _ _ _) ?_) λ_=> ?_
  . rintro⟨e,_⟩ rfl;exact IW (IK _) λ_=>IW (N7 _ _) λ_=>tR W
  . repeat' first|exact tR W|refine IW (IK _) λ_=> ?_|exact C _ _ _ _ (λh=>am)|refine tI (λ_=> ?_) λ_=> ?_
 have j1:∀(b c d t:Bool),CD (BL.J1 s (b,wv) (c,wv) (d,wv) wv t) λr=>WK wv.p A (E+1) r.2:=by intro b c d t;unfold BL.J1 BL.J2;refine tI (λn=>IW K λ_=>tR W) λ_=>tI (λ_=>IW (K3 h _ _ _ _) λ_=>tI (λ_=>IW (IK _) λ_=>IW (N7 _ _) λ_=>tR W) λ_=>tB (I _ _ _) ?_) λ_=>tI (λ_=>u _ _ _ _) λ_=>u _ _ _ _;rintro⟨e,_⟩ rfl;exact IW (IK _) λ_=>IW (N7 _ _) λ_=>tR W
 unfold BL;refine tB (I _ _ _) ?_;rintro⟨b,w⟩ e;obtain rfl:wv=w:=e.symm;refine tB (I _ _ _) ?_;rintro⟨c,w⟩ e;obtain rfl:wv=w:=e.symm;refine tB (I _ _ _) ?_;rintro⟨d,w⟩ e;obtain rfl:wv=w:=e.symm;refine tI (λ_=> ?_) λ_=>tI (λ_=>j1 _ _ _ _) λ_=>j1 _ _ _ _;refine tI (λ_=>IW (K3 h _ _ _ _) λ_=>IW K λ_=>IW (N7 _ _) λ_=>tR W) λhi=>IW (K3 h _ _ _ _) λ_=> ?_;rcases o.i with e|⟨a,e,m⟩
 . simp_all
 . rw[e];exact tE (y:=a) rfl (IW (fS h wv.Bb m) λ_=>IW K λ_=>IW (N7 _ _) λ_=>IW (N7 _ _) λ_=>tR W)
def HK:Nat->Nat
 |0=>0
 |d+1=>1+20*HK d
theorem rM(h:MP p)(d:Nat):∀(n A K:Nat)(wv:BN)(l:d5),d+1<=n->A+d<=50->K+10*HK d<=900000->WK p A K wv->S9 T d l->CD (Ed n wv l) λr=>WK p A (K+10*HK d) r.2.2:=by
 induction d with
 |zero=>intro n A K wv l hn B C b ⟨_,h⟩;obtain⟨n,rfl⟩:∃k,n=k+1:=⟨n-1,ah⟩;have:l=[]:=AAv.2 λx j=>(h x j).elim;subst this;show CD (B6 (Ed n) wv []) _;exact tR b
 |succ d ih=>
  intro n A K wv l hn B C b ⟨h1,h2⟩;obtain⟨n,rfl⟩:∃k,n=k+1:=⟨n-1,ah⟩;show CD (B6 (Ed n) wv l) _;unfold B6;have H:HK (d+1)=1+20*HK d:=rfl;refine Pw l.length (λi wv=>WK p A (K+i*HK (d+1)) wv) (F:=λn s i=>B6.Aa _ l n s i) ah am λm i s hi q k=> ?_;have J:i*HK (d+1)<=10*HK (d+1):=AAw _ ah;have o:∀{w},WK p A (K+i*HK (d+1)) w->WK p A (K+10*HK (d+1)) w:=λh=>h.mono ah;unfold B6.Aa B6.L1 B6.J3;refine tD (λE=>tG ah λx j=>tB (one_tot h q ah ah (h2 x j)) λv f=> ?_) λ_=>tR (o q);have G:(i+1)*HK (d+1)<=10*HK (d+1):=AAw _ ah;have I:(i+1)*HK (d+1)=i*HK (d+1)+HK (d+1):=ABF _ _;have u:∀(w:BN)(e c:Int),WK p (A+1) (K+(i+1)*HK (d+1)) w->CD (B6.J2 (B6.Aa (Ed n) l m) i w e c) λr=>WK p A (K+10*HK (d+1)) r.2.2:=by intro w e c b;have D:=b.a;unfold B6.J2;rw[B9 (n:=(w.GD.length:Int)-1) ah ah];have y:WK p A (K+(i+1)*HK (d+1)) (BN.mk w.p w.Bb (w.GD.take ((w.GD.length:Int)-1).toNat) w.Lo w.Yh):=⟨b.p,an,b.s,b.t⟩;exact tC ah (tI (λ_=>tR (y.mono ah)) λ_=>k _ ah y)
  have j1:∀e,CD (B6.J1 (B6.Aa (Ed n) l m) (Ed n) i v x e) λr=>WK p A (K+10*HK (d+1)) r.2.2:=by intro e;have D:=f.a;unfold B6.J1;refine tI (λ_=>tR (f.mono ah)) λ_=>tC (Bm ah) (tG an λ_ _=> ?_);refine tB (ih n (A+1) (K+i*HK (d+1)+1) _ _ ah ah ah ⟨f.p,an,f.s,f.t⟩ (h2 x j).body) λL g=> ?_;refine tI (λ_=> ?_) λ_=>u _ _ _ (g.mono ah);exact tB (ih n (A+1) _ _ _ ah ah ah g (h2 x j).els) λM z=>u _ _ _ (z.mono ah)
  grind
theorem Z0(h:MP p):TT (A5 p):=by have hd:=h.dl;have j:=h.t;have g:HK 4=8421:=rfl;unfold A5;refine IW (Wi h) λ_=>tI (λ_=>tR trivial) λ_=>IW (Z3 h) λ_=>tI (λ_=>tR trivial) λ_=>tI (λ_=>tR trivial) λ_=>IW (VH h) λ_=>tI (λ_=>tR trivial) λ_=> ?_;refine Pw p.AA.length (λ_ _=>True) (F:=λn s i=>A5.Aa p n s i) ah trivial λm i s hi _ k=> ?_;unfold A5.Aa A5.L1 A5.J1;refine tD (λ_=>tG ah λx d=>IW (uB 4 _ _ (MC ah) (h.b x d)) λ_=>k _ ah trivial) λ_=>tI (λ_=>tR trivial) λ_=> ?_;refine Pw p.AA.length (λi w=>WK p 0 (i*84210) w) (F:=λn s i=>A5.DF p n s i) ah ⟨rfl,rfl,ak,ak⟩ λm i s hi c k=> ?_;unfold A5.DF A5.L2 A5.J2;refine tD (λf=>tG ah λx d=> ?_) λ_=>tR trivial;refine tB (rM h 4 _ 0 (i*84210) _ _ (MC ah) ah ah ⟨c.p,c.a,c.s,c.t⟩ (h.b x d)) λv e=>tI (λ_=>tR trivial) λ_=>k _ ah (e.mono ah)
end
variable{W:dc}
section
variable{T:fb}
structure MK1 (N i:Nat) (m:AO) (p:AR):Prop where
 t:DG m.t
 h:m.held=[]
 d:Ei=some p.Decls
 n:p.AA.length=i
 b:∀t∈p.AA,S9 (λs=>s∈Ox.take N) 4 t.Body
 nm:p.AA.map (·.Name)=Ox.take i
 lo:∀t∈p.AA,t.GA=ZP
abbrev MPO(p:AR):Prop:=MP p/\∃l,A5 p=some (0,l)
theorem fW{l:dc}(R:l.length<=4000000000000000000)(S:∀x∈l,0<=x/\x<256):CD (Bu l) MPO:=by
 have hd:∃D,Ei=some D:=⟨_,rfl⟩;obtain⟨D,r⟩:=hd;have I:Ox.length=4:=rfl;unfold Bu;refine tE r (tB (Gp (t:=⟨l,0⟩) ⟨R,ak,S⟩ ah) ?_);rintro⟨v,G⟩ ⟨U,u⟩;simp only at U u;have M:BA (2+v)=2+v:=B9 ah ah;refine Pw (2+v).toNat (λi (s:AO×AR)=>MK1 (2+v).toNat i s.1 s.2) (F:=λn s i=>Bu.Aa (v,G) n s.1 s.2 i) ah (s0:=(_,_)) ⟨u,rfl,r,rfl,ak,rfl,ak⟩ λn i s hi f k=> ?_;unfold Bu.Aa Bu.L1;simp only[M]
 -- the end
 have V:¬(i:Int)<2+v->CD (Bu.J5 s.2) MPO:=by
  intro mF;have hi:i=(2+v).toNat:=ah
  have L:MP s.2:=⟨f.d,by have:=f.n;omega,λt C=>by rw[f.lo t C];simp[ZP],by rw[f.nm,hi];exact f.b,⟨i,ah,ah,f.nm⟩,f.lo⟩;unfold Bu.J5 Jo En;obtain⟨q,B,_⟩:=Z0 L;refine tE B (tI (λ_=>tE r ?_) λh=>tR ⟨L,q.2,B.trans (ABZ some (Prod.ext bg rfl))⟩);simp only[AAB];have key:Ei.bind (λD=>A5 ⟨D,[⟨⟨#[109,97,105,110]⟩,0,[⟨#[97]⟩,⟨#[98]⟩],[⟨1,0,⟨#[120]⟩,⟨#[]⟩,[],⟨1,1,⟨#[]⟩,[]⟩,[],[]⟩]⟩]⟩)=some (0,0):=by decide +kernel
  rw[r,AAB]at key;refine tR ⟨⟨r,ak,ak,?_,⟨1,ah,ah,rfl⟩,by simp[ZP]⟩,0,key⟩;simp only[AAl,forall_eq];refine⟨ak,?_⟩;simp only[AAl,forall_eq];exact LQ (.inl ⟨rfl,rfl⟩) (Xq aS) _
 have E:∀m t,(hi:i<(2+v).toNat)->DG m.t->m.held=[]->(t.GA=ZP/\t.Name=Ox[i]' ah)->S9 (λs=>s∈Ox.take (2+v).toNat) 4 t.Body->CD (Bu.J3 (λm p i=>Bu.Aa (v,G) n m p i) i s.2 m t) MPO:=by
  intro m t j o H y I;unfold Bu.J3 Bu.J4;have hn:=f.n;refine tC (Bm ah) (k (m,_) j ⟨o,H,f.d,an,?_,?_,?_⟩)
  . simp only[AAW,AAl];rintro x (e|rfl)
    . exact f.b x e
    . exact I
  . simp only[AAp,f.nm,AAU,AAm,y.2];simp_all
  . simp only[AAW,AAl];rintro x (e|rfl)
    . exact f.lo x e
    grind
 have j1:∀t,(hi:i<(2+v).toNat)->(t.GA=ZP/\t.Name=Ox[i]' ah)->t.Body.length<=3->(∀x∈t.Body,Hw (λs=>s∈Ox.take (2+v).toNat) 4 x)->CD (Bu.J1 (λm p i=>Bu.Aa (v,G) n m p i) i s.1 s.2 t) MPO:=by
  intro t j o H y;have Q:s.1.held=[]:=f.h;unfold Bu.J1;refine tB (Gp f.t ah) λa P=> ?_;rw[B9 (n:=1+a.1) ah ah];have J:=BO;obtain⟨O,z⟩:∃n,BW=n+1:=⟨BW-1,ah⟩;rw[z];refine tB ((made_tot (T:=λs=>s∈Ox.take (2+v).toNat) 2 0 O ah ah ah).2 (AO.mk a.2 i s.1.left s.1.HR s.1.tx s.1.atomic s.1.loop s.1.held) (1+a.1) ⟨P.2,am⟩ ah) λb J=> ?_;obtain⟨⟨Z,g2⟩,w⟩:=J;have g:b.2.held=[]:=w.h.trans Q;have g0:∀x∈t.Body++b.1,Hw (λs=>s∈Ox.take (2+v).toNat) 4 x:=λx e=>(AAW.1 e).elim (y x) (g2 x);refine tC (Bm ah) (tI (λ_=>tB (Gp w.t ah) λc K=> ?_) λ_=> ?_)<;>unfold Bu.J2
  . refine tI (λ_=>tC (Bm an) (E _ _ j K.2 g o ⟨an,?_⟩)) λ_=>E _ _ j K.2 g o ⟨an,g0⟩;intro x e;rcases AAW.1 e with e|e
    . grind
    . rw[AAl.1 e];refine Pe aS aS aS ⟨ak,ak,ak,λ_=> ?_,ak,ak⟩;exact List.mem_take_iff_getElem.2 ⟨1,ah,rfl⟩
  . exact tI bk λ_=>E _ _ j w.t g o ⟨an,g0⟩
 refine tD (λh=>bR (l:=Ox) ah (tI (λ_=> ?_) λ_=>j1 _ ah ⟨rfl,rfl⟩ ak ak)) V;refine tLk (2+v).toNat 1 (λk (t:Cq)=>(t.GA=ZP/\t.Name=Ox[i]' ah)/\t.Body.length+1<=k/\∀x∈t.Body,Hw (λs=>s∈Ox.take (2+v).toNat) 4 x) (F:=λn t k=>Bu.DF _ _ _ _ _ n t k) ah ah ⟨⟨rfl,rfl⟩,ak,ak⟩ λm q t B C W=> ?_;obtain⟨N,t2,X⟩:=C;unfold Bu.DF Bu.L2;simp only[M];refine tD (λ_=>bR (l:=Ox) ah (tC (Bm ah) (W _ ah ⟨N,an,?_⟩))) λ_=>j1 _ ah N ah X;intro x e;rcases AAW.1 e with e|e
 . grind
 . rw[AAl.1 e];refine Pe aS aS ak ⟨ak,ak,ak,λ_=> ?_,ak,ak⟩;exact List.mem_take_iff_getElem.2 ⟨q,ah,rfl⟩
theorem fP(a:W.length<=1000):CD (Eb W) λr=>r.length<=W.length:=by unfold Eb;refine Pw W.length (λi (s:List C5)=>s.length<=i) (F:=λn s i=>Eb.Aa W n s i) ah ak λn i s hi b k=> ?_;unfold Eb.Aa Eb.L1 Eb.J1;exact tD (λ_=>tG ah λx _=>tC (Bm ah) (k _ ah an)) λ_=>tR ah
theorem zA(d:Nat):∀(n K:Nat)(o:gx)(t a:Int)(l:d5),d+1<=n->K+10*HK d<=900000->o.length<=K->S9 T d l->CD (GZ n o t a l) λr=>r.1.length<=K+10*HK d:=by
 induction d with
 |zero=>intro n K o t a l hn e c ⟨_,h⟩;obtain⟨n,rfl⟩:∃k,n=k+1:=⟨n-1,ah⟩;have:l=[]:=AAv.2 λx b=>(h x b).elim;subst this;show CD (Cz (GZ n) o t a []) _;exact tR c
 |succ d ih=>intro n K o t a l hn e c ⟨h1,h2⟩;obtain⟨n,rfl⟩:∃k,n=k+1:=⟨n-1,ah⟩;show CD (Cz (GZ n) o t a l) _;unfold Cz;have p:HK (d+1)=1+20*HK d:=rfl;refine Pw l.length (λi (s:List Dk×Int)=>s.1.length<=K+i*HK (d+1)) (F:=λm s i=>Cz.Aa _ l t m s.1 s.2 i) (s0:=(o,a)) ah am λm i s hi y k=> ?_;have u:i*HK (d+1)<=10*HK (d+1):=AAw _ ah;unfold Cz.Aa Cz.L1 Cz.J1;refine tD (λg=>tG ah λx b=>tC (Bm ah) ?_) λ_=>tR bg;have j:(i+1)*HK (d+1)<=10*HK (d+1):=AAw _ ah;have q:(i+1)*HK (d+1)=i*HK (d+1)+HK (d+1):=ABF _ _;refine tB (ih n (K+i*HK (d+1)+1) _ _ _ _ ah ah an (h2 x b).body) λv f=> ?_;refine tB (ih n _ _ _ _ _ ah ah f (h2 x b).els) λw c=>k (_,_) ah bg
structure MW (w:AD):Prop where
 q:CD (Bh w qS) λr=>0<=r/\r<w.Cells.length
 c:w.Cells.length<=100
 l:w.AF.length<=100
 d:w.Ai.length<=100
 f:w.AK.length<=100
 t:w.AA.length<=4
def K7:List DR:=[⟨⟨#[120]⟩,0,0,false,0⟩,⟨⟨#[121]⟩,0,0,false,1⟩,⟨⟨#[118]⟩,0,0,true,0⟩,⟨⟨#[113]⟩,0,2,false,0⟩,⟨⟨#[113]⟩,1,2,false,0⟩]
theorem Zq(h:MP p)(j:∃l,A5 p=some (0,l)):CD (Bt p) MW:=by
 obtain⟨l,j⟩:=j;have B:=h.t;have z:HK 4=8421:=rfl;unfold Bt;refine tE j (tI bk λ_=> ?_);have key:∀D T,Ei=some D->Bt.Aa ⟨D,T⟩ BW (AD.mk [] [] [] [] [] []) 0=Bt.J4 ⟨D,T⟩ ⟨K7,[⟨⟨#[109]⟩,false⟩,⟨⟨#[110]⟩,false⟩,⟨⟨#[114]⟩,true⟩],[⟨⟨#[99]⟩,0⟩],[⟨#[102]⟩],[],[]⟩:=by
  intro D T m;unfold Ei at m;obtain rfl:=AAG m
  kernel_rfl
 rw[show Bt.Aa p BW (AD.mk [] [] [] [] [] []) 0=_ from key p.Decls p.AA h.d];unfold Bt.J4;rw[show AR.mk p.Decls p.AA=p from rfl];refine Pw p.AA.length (λi w=>w.BU.length<=i*84210/\w.AA.length=i/\w.Cells=K7/\w.AF.length=3/\w.Ai.length=1/\w.AK.length=1) (F:=λn s i=>Bt.Gg _ n s i) ah ⟨ak,rfl,rfl,rfl,rfl,rfl⟩ λn i w hi e k=> ?_;obtain⟨q,E,g,r,u,y⟩:=e;unfold Bt.Gg Bt.L3 Bt.J5;refine tD (λ_=>tG ah λx o=>tC (Bm ah) (tB (zA 4 _ (i*84210) _ _ _ _ (MC ah) ah q (h.b x o)) λv C=>k _ ah ⟨bg,an,g,r,u,y⟩)) λ_=>tR ⟨?_,by rw[g];decide,ah,ah,ah,ah⟩;rw[g];have a:∀w:AD,w.Cells=K7->Bh w qS=some 3:=by
  intro w e;obtain⟨c,l,d,f,t,s⟩:=w;simp only at e;subst e
  kernel_rfl
 exact⟨3,a w g,ah,aS⟩
end
variable{g r:BB}{n:Nat}{w:AD}{a:Type}
section
variable{T:fb}
structure GS (g:BB) (n:Nat) (r:BB):Prop where
 w:r.w=g.w
 l:r.locals=g.locals
 a:g.out.length<=r.out.length
 b:r.out.length<=g.out.length+n
structure GB (g:BB) (n:Nat):Prop where
 w:MW g.w
 l:g.locals.length<=2
 n:g.out.length+n<=8000000
theorem GS.refl(g:BB)(n:Nat):GS g n g:=⟨rfl,rfl,ah,ah⟩
theorem GS.trans{h:BB}(a:GS g E h)(b:GS h n r)(c:E+n<=k):GS g k r:=⟨b.w.trans a.w,b.l.trans a.l,by have:=a.a;have:=b.a;omega,by have:=a.b;have:=b.b;omega⟩
theorem GB.next{h:BB}(a:GB g k)(s:GS g E h)(c:E+n<=k):GB h n:=⟨by rw[s.w];exact a.w,by rw[s.l];exact a.l,by have:=s.b;have:=a.n;omega⟩
theorem GB.less(a:GB g k)(b:n<=k):GB g n:=a.next (GS.refl g 0) ah
theorem QK(h:GB g 1)(i:Ad):CD (A6 g i) λr=>GS g 1 r/\r.out.length=g.out.length+1:=by have:=h.n;unfold A6;exact tC (Bm ah) (tR ⟨⟨rfl,rfl,ak,ak⟩,ak⟩)
def IM(h:GB g 1)(i:Ad):CD ((A6 g i).bind λv=>some v) (GS g 1):=tB (QK h i) λ_ h=>tR h.1
theorem WZ(h:MW w)(s:ABe):TT (Bh w s):=by have a:=h.c;unfold Bh;refine tL w.Cells.length ah λn i hi k=> ?_;unfold Bh.Aa Bh.L1 Bh.J1;exact tD (λ_=>tG ah λx _=>tI (λ_=>tR trivial) λ_=>k ah) λ_=>tR trivial
theorem pY(h:MW w)(s:ABe):TT (Dv w.AF s):=by have a:=h.l;unfold Dv;refine tL w.AF.length ah λn i hi k=> ?_;unfold Dv.Aa Dv.L1 Dv.J1;exact tD (λ_=>tG ah λx _=>tI (λ_=>tR trivial) λ_=>k ah) λ_=>tR trivial
theorem cond_tot(h:MW g.w)(s:ABe):CD (CV g s) λr=>r.2=g:=by have a:=h.d;unfold CV;refine tL g.w.Ai.length ah λn i hi k=> ?_;unfold CV.Aa CV.L1 CV.J1;exact tD (λ_=>tG ah λx _=>tI (λ_=>tR rfl) λ_=>k ah) λ_=>tR rfl
theorem gZ(h:MW w){s:ABe}(b:s=qS){f:Int->DR->ABd a}{Q:a->Prop}(k:∀i c,CD (f i c) Q):CD ((Bh w s).bind λi=>(gt w.Cells i).bind (f i)) Q:=by rw[b];exact tB h.q λi hi=>tG hi λc _=>k i c
theorem zJ(d:Nat):∀(n:Nat)(g:BB)(e:BE)(r:Int),d<=n->S8 d e->GB g (3^d)->CD (Cp n g e r) (GS g (3^d)):=by
 induction d with
 |zero=>exactλn g e r _ h=>h.elim
 |succ d ih=>
  intro n g e r hn z f;obtain⟨n,rfl⟩:∃k,n=k+1:=⟨n-1,ah⟩;have C:3^(d+1)=3*3^d:=by rw[Nat.pow_succ];omega
  have B:0<3^d:=Nat.pow_pos ah;show CD (GL (Cp n) g e r) _;have up:∀{r},GS g 1 r->GS g (3^(d+1)) r:=λh=>h.trans (GS.refl _ 0) ah;unfold GL;rcases z with⟨j,_⟩|⟨j,_⟩|⟨j,t,a,p,q⟩|⟨j,a,b,p,q,x⟩
  . simp only[j];exact tI (λ_=>tM (IM (f.less ah) _) λ_=>up) λh=>by cases h
  . simp only[j];refine tI bk λ_=>tI (λ_=>tB (Nd _ _ (by have:=f.l;omega)) λ_ _=>tI (λ_=>tM (IM (f.less ah) _) λ_=>up) λ_=> ?_) λh=>(by cases h);exact IW (WZ f.w _) λ_=>tM (IM (f.less ah) _) λ_=>up
  . simp only[j,p];refine tI bk λ_=>tI bk λ_=>tI (λ_=>tE (y:=a) rfl ?_) λh=>(by cases h);refine tB (ih n g a r ah q (f.less ah)) λv m=> ?_;have o:GB v 1:=f.next m ah;exact gZ o.w t λi c=>tM (IM o _) λ_ h=>m.trans h ah
  . have D:e.Op≠1:=λh=>am;have E:e.Op≠2:=λh=>am;have F:e.Op≠3:=λh=>am;rw[AAK am,AAK am,AAK am,p];refine tI bk λ_=>tE (y:=a) rfl (tB (ih n g a r ah q (f.less ah)) λv m=>tE (y:=b) rfl (tB (ih n v b _ ah x (f.next m ah)) λu s=> ?_));exact tM (IM (f.next (m.trans s (AAe _)) ah) _) λ_ h=>(m.trans s (AAe _)).trans h ah
theorem Tw(a:S8 2 e)(b:GB g 9)(r:Int):CD (Cp BW g e r) (GS g 9):=zJ 2 _ g e r (MC ah) a b
theorem nL(e:GB g 30){s:AQ}(j:Hw T (k+1) s)(o:s.Op=1):CD (Fe g s) (GS g 30):=by
 have f:S8 2 s.Expr:=j.2.2.1.resolve_right λh=>h.1 (by simp[o]);unfold Fe;rcases j.2.1 with h|⟨_,p,a,h,n⟩
 . rw[h];refine tI bk λ_=>tB (Tw f (e.less ah) _) λv d=> ?_;have b:GB v 1:=e.next d ah;refine tB (Nd _ _ (by have:=b.l;omega)) λ_ _=>tI (λ_=>tM (IM b _) λ_ h=>d.trans h ah) λ_=>IW (WZ b.w _) λ_=>tM (IM b _) λ_ h=>d.trans h ah
 . rw[h];refine tI (λ_=>tE (y:=a) rfl ?_) λh=>(by cases h);refine tB (Tw n (e.less ah) _) λv d=>tB (Tw f (e.next d ah) _) λu m=> ?_;have b:GB u 1:=e.next (d.trans m (AAe _)) ah;exact gZ b.w p λi c=>tM (IM b _) λ_ h=>(d.trans m (AAe _)).trans h ah
def cg:Nat->Nat
 |0=>0
 |d+1=>40+20*cg d
def GS.site(h:GS g n r)(a b:Int):GS g n ⟨r.w,r.locals,r.out,a,b⟩:=⟨h.w,h.l,h.a,h.b⟩
theorem GS.set(h:GS g n r)(i:Nat)(x:Ad)(a b:Int):GS g n ⟨r.w,r.locals,r.out.set i x,a,b⟩:=⟨h.w,h.l,by simpa using h.a,by simpa using h.b⟩
section
variable{R:gc}{g:BB}{s:AQ}{n:Nat}
theorem nI(d:GB g (n+2))(i:∀g,GB g n->CD (R g s.Body) (GS g n))(a b c:Int):CD (DC R g s a b c) (GS g (n+2)):=by unfold DC;refine tB (QK (d.less ah) _) λv f=>tB (i v (d.next f.1 ah)) λu j=> ?_;have e:GS g (n+1) ⟨u.w,u.locals,u.out,g.site,u.next⟩:=(f.1.trans j ah).site _ _;exact tM (IM (d.next e ah) _) λ_ h=>e.trans h ah
theorem cK(b:GB g (2*n+11))(p:S8 2 s.Expr)(o:∀g,GB g n->CD (R g s.Body) (GS g n))(m:∀g,GB g n->CD (R g s.Else) (GS g n)):CD (Ct R g s) (GS g (2*n+11)):=by
 unfold Ct;refine tB (Tw p (b.less ah) _) λv j=>tB (QK (b.next j ah) _) λu i=> ?_;have e:GS g 10 u:=j.trans i.1 ah;refine tB (o u (b.next e ah)) λx k=> ?_;have f:GS g (n+10) x:=e.trans k ah;have q:=i.2;have r:=k.a;have c:=f.site g.site x.next;refine tI (λ_=>tB (QK (b.next c ah) _) λy d=>tG ?_ λ_ _=>tR ?_) λ_=>tI (λ_=>tG ?_ λ_ _=>tR ?_) λ_=>tB (QK (b.next c ah) _) λy d=>tG ?_ λ_ _=> ?_
 . grind
 . exact((c.trans d.1 (AAe _)).set _ _ _ _).trans (GS.refl _ 0) ah
 . omega
 . exact(f.set _ _ _ _).trans (GS.refl _ 0) ah
 . grind
 . have h:=(c.trans d.1 (AAe _)).set v.out.length (Ad.mk (‹Ad›).Op (‹Ad›).A (y.out.length:Int) (‹Ad›).C (‹Ad›).N (‹Ad›).Site) y.site y.next;refine tB (m _ (b.next h ah)) λz l=>tG ?_ λ_ _=>tR (((h.trans l (AAe _)).set _ _ _ _).trans (GS.refl _ 0) ah);have t:=d.2;have w:=l.a;grind
variable{R1:fy}{R2:fw}
theorem wV(hn:30<=n)(j:GB g n)(o:Hw T (k+1) s)(u:S8 2 s.Expr->∀g,GB g n->CD (R1 g s) (GS g n))(x:∀g a b c,GB g n->CD (R2 g s a b c) (GS g n)):CD (Cc R1 R2 g s) (GS g n):=by
  have D:=j.l;have C:=j.w.f;have E:=j.w.t;have d:GB (BB.mk g.w g.locals g.out g.next (BA (g.next+1))) n:=j.next ((GS.refl g 0).site _ _) ah;have up:∀{r},GS (BB.mk g.w g.locals g.out g.next (BA (g.next+1))) n r->GS g n r:=λh=>⟨h.w,h.l,h.a,h.b⟩;have e:∀{m r},m<=n->GS (BB.mk g.w g.locals g.out g.next (BA (g.next+1))) m r->GS g n r:=λy h=>up (h.trans (GS.refl _ 0) y);have A:∀a b c,CD ((R2 (BB.mk g.w g.locals g.out g.next (BA (g.next+1))) s a b c).bind λv=>some v) (GS g n):=λa b c=>tB (x _ a b c d) λ_ h=>tR (up h);have P:∀i,CD ((A6 (BB.mk g.w g.locals g.out g.next (BA (g.next+1))) i).bind λv=>some v) (GS g n):=λi=>tM (IM (d.less ah) i) λ_ h=>e ah h;have j1:∀b,(b=true->s.Op∈[(2:Int),3])->CD (Cc.J1 R1 R2 g s b) (GS g n):=by
    intro b B;unfold Cc.J1;refine tI (λh=>tB (u (o.2.2.1.resolve_right λq=>q.1 ?_) _ d) λ_ h=>tR (up h)) λ_=> ?_
    . simp_all
    repeat' first
      |exact A _ _ _
      |exact P _
      |exact tR (up (GS.refl _ _))
      |refine tI (λz=>tB (Tw (o.2.2.1.resolve_right λq=>q.1 (by have:=eq_of_beq z;simp[this])) (d.less ah) _) λv p=>tB (Nd _ _ (by rw[p.w];grind)) λ_ _=>tM (IM (d.next p ah) _) λ_ h=>e ah (p.trans h (AAe _))) λ_=> ?_
      |refine tI (λ_=> ?_) λ_=> ?_
      |refine IW (pY j.w _) λ_=> ?_
      | (refine tB (cond_tot d.w _) ?_
         rintro⟨i,w⟩ rfl)
      |refine tB (Nd _ _ ah) λ_ _=> ?_
  unfold Cc;refine tI (λh=>tB (nL (d.less ah) o (eq_of_beq h)) λ_ h=>tR (e ah h)) λ_=>tI (λh=>j1 _ λ_=> ?_) λ_=>j1 _ λh=> ?_
  all_goals simp_all
end
theorem XL(d:Nat):∀(n:Nat)(g:BB)(l:d5),3*d+1<=n->GB g (10*cg d)->S9 T d l->CD (DU n g l) (GS g (10*cg d)):=by
 induction d with
 |zero=>intro n g l hn e ⟨_,h⟩;obtain⟨n,rfl⟩:∃k,n=k+1:=⟨n-1,ah⟩;have:l=[]:=AAv.2 λx f=>(h x f).elim;subst this;show CD (CH (OZ n) g []) _;exact tR (GS.refl _ _)
 |succ d ih=>
  intro n g l hn e ⟨h1,h2⟩;obtain⟨n,rfl⟩:∃k,n=k+3:=⟨n-3,ah⟩;show CD (CH (Cc (Ct (DU n)) (DC (DU n))) g l) _;have w:cg (d+1)=40+20*cg d:=rfl;unfold CH;refine Pw l.length (λi s=>GS g (i*cg (d+1)) s) (F:=λm s i=>CH.Aa _ l m s i) ah (GS.refl _ _) λm i s hi j k=> ?_;have y:i*cg (d+1)<=10*cg (d+1):=AAw _ ah;unfold CH.Aa CH.L1;refine tD (λt=>tG ah λx f=> ?_) λ_=>tR (j.trans (GS.refl _ 0) ah);have u:(i+1)*cg (d+1)<=10*cg (d+1):=AAw _ ah;have p:(i+1)*cg (d+1)=i*cg (d+1)+cg (d+1):=ABF _ _;have o:∀g,GB g (10*cg d)->CD (DU n g x.Body) (GS g (10*cg d)):=λg e=>ih n g _ ah e (h2 x f).body;have q:∀g,GB g (10*cg d)->CD (DU n g x.Else) (GS g (10*cg d)):=λg e=>ih n g _ ah e (h2 x f).els;refine tB (wV (n:=cg (d+1)) ah (e.next j ah) (h2 x f) (λp g e=> ?_) λg a b c e=> ?_) λv r=>k _ ah (j.trans r ah)
  . exact tM (cK (n:=10*cg d) (e.less ah) p o q) λ_ h=>h.trans (GS.refl _ 0) ah
  . exact tM (nI (n:=10*cg d) (e.less ah) o a b c) λ_ h=>h.trans (GS.refl _ 0) ah
def rg(i:Ad):List Int:=(AZ i).getD []
theorem GR(i:Ad):AZ i=some (rg i)/\(rg i).length<=3:=by
 have key:CD (AZ i) λr=>r.length<=3:=by
  unfold AZ AZ.J1 AZ.J2 AZ.J3
  repeat' first|exact tR ak|refine tI (λ_=> ?_) λ_=> ?_
 obtain⟨r,a,b⟩:=key;unfold rg;simp_all
structure CK (c:BT):Prop where
 n:c.AA.length<=4
 i:∀t∈c.AA,t.Br.length<=8000000
theorem iJ(h:MP p):CD (Ax p) λr=>CK r.1:=by
 have a:=h.t;have I:cg 4=336840:=rfl;unfold Ax;obtain⟨v,c,_⟩:=Z0 h;refine tE c (tI (λ_=>tR ⟨ak,ak⟩) λB=>tB (Zq h ⟨v.2,?_⟩) λw J=> ?_)
 . grind
 refine Pw p.AA.length (λi (s:BT×Int)=>s.1.World=w/\s.1.AA.length=i/\∀t∈s.1.AA,t.Br.length<=8000000) (F:=λn s i=>Ax.Aa p n s.1 s.2 i) (s0:=(_,_)) ah ⟨rfl,rfl,ak⟩ λn i s hi o k=> ?_;obtain⟨G,L,H⟩:=o;unfold Ax.Aa Ax.L1 Ax.J4;refine tD (λ_=>tG ah λx e=> ?_) λ_=>tR ⟨bg,H⟩;have g:=h.l x e;have g0:GB (BB.mk s.1.World x.GA [] 0 s.2) 4000000:=⟨am,g,ak⟩;refine tB (XL 4 _ _ _ (MC ah) (g0.less ah) (h.b x e)) λv c=> ?_;refine tB (QK (g0.next (c.site (-1) v.next) ah) _) λu z=> ?_;have d:=z.2;have f:=c.b;simp only[ABK]at d f;refine Pw u.out.length (λ_ (t:Az)=>t.Br=u.out) (F:=λn t k=>Ax.DF _ _ _ _ _ n t k) ah rfl λm q t j a C=> ?_;unfold Ax.DF Ax.L2 Ax.J2 Ax.J3;refine tD (λ_=>tG ah λy _=> ?_) λ_=>tC (Bm ah) (k (_,_) ah ⟨G,an,?_⟩)
 . obtain⟨E,K⟩:=GR y;refine tE E (Pw (rg y).length (λ_ (t:Az)=>t.Br=u.out) (F:=λn t k=>Ax.Gg _ _ _ n t k) ah a λm q t j a D=> ?_);unfold Ax.Gg Ax.L3 Ax.J1;exact tD (λ_=>tG ah λ_ _=>D _ ah a) λ_=>C _ ah a
 grind
end
theorem take_one{l:List a}(h:k<l.length){P:a->Prop}(c:∀x∈l.take k,P x)(d:P l[k]):∀x∈l.take (k+1),P x:=by intro x b;rw[<- AAX h]at b;grind
theorem Yo{l:List a}(h:l.length<=k){P:a->Prop}(b:∀x∈l.take k,P x):∀x∈l,P x:=by rwa [AAq h]at b
variable{i:Int}
theorem Hh{l:List a}(h:0<=i/\i<l.length):∃x,gt l i=some x/\l[i.toNat]? =some x/\x∈l:=by
 have:i.toNat<l.length:=ah
 exact⟨l[i.toNat],by simp[gt,h.1,this],by simp[this],AAS this⟩
theorem Mr(i n:Int):CD (Da i n) λb=>b=true->0<=i/\i<n:=by unfold Da Da.J1;exact tD (λh=>tR λa=>⟨h,AAO a⟩) λ_=>tR λh=>by cases h
def RG(w:AD)(b n:Int):Prop:=∃x,gt w.Cells b=some x/\x.Index=0/\x.Bq≠0/\x.Bq=n
theorem Zu(w:AD)(b n:Int):CD (Eo w b n) λr=>r=true->RG w b n:=by
 have N:∀{f:Prop},CD (some false) λb:Bool=>b=true->f:=tR λh=>by cases h
 unfold Eo Eo.J1;refine tB (Mr _ _) λv e=>tI (λh=> ?_) λ_=>N;obtain⟨x,a,_⟩:=Hh (e h);exact tE a (tI (λc=>tI (λg=>tR λd=>⟨x,a,eq_of_beq c,am,eq_of_beq d⟩) λ_=>N) λ_=>N)
theorem kE(w:AD)(i:Ad):CD (AN w i) λb=>b=true->(i.Op=7->RG w i.B i.N)/\(i.Op=9->RG w i.A i.N):=by
 have g:∀b,TT (AN.J8 i w b):=by
  intro b;unfold AN.J8 AN.J9 AN.Oz
  repeat' first|exact tR trivial|refine tB (Mr _ _) λ_ _=> ?_|refine tI (λ_=> ?_) λ_=> ?_
 have l:∀b,TT (AN.J7 i w b):=by
  intro b;unfold AN.J7
  repeat' first|exact tR trivial|exact g _|refine tB (Mr _ _) λ_ _=> ?_|refine tI (λ_=> ?_) λ_=> ?_
 have k:∀b,TT (AN.J5 i w b):=by
  intro b;unfold AN.J5 AN.J6;refine tI (λ_=>tB (Mr _ _) λv a=>tI (λh=>tG (a h) λx _=>tR trivial) λ_=>tR trivial) λ_=> ?_
  repeat' grind
 have j:∀b,TT (AN.J3 i w b):=by
  intro b;unfold AN.J3 AN.J4;refine tI (λ_=>tB (Mr _ _) λv a=>tI (λh=>tG (a h) λx _=>tR trivial) λ_=>tR trivial) λ_=> ?_
  repeat' grind
 unfold AN AN.J1 AN.J2;have M:∀{o:ABd Bool},TT o->i.Op≠7->i.Op≠9->CD o λb=>b=true->(i.Op=7->RG w i.B i.N)/\(i.Op=9->RG w i.A i.N):=λh e f=>tM h λ_ _ _=>⟨λh=>absurd h e,λh=>absurd h f⟩;refine tI (λh=>M (tB (Mr _ _) λv a=>tI (λh=>tG (a h) λx _=>tR trivial) λ_=>tR trivial) ?_ ?_) λm=>tI (λh=>M (tB (Mr _ _) λv a=>tI (λh=>tG (a h) λx _=>tR trivial) λ_=>tR trivial) ?_ ?_) λp=> ?_
 . simp_all
 . simp_all
 . simp_all
 . simp_all
 . refine tI (λh=>tB (Zu _ _ _) λv a=>tR λc=>⟨λ_=>a c,λd=> ?_⟩) λn=>tI (λh=>tB (Zu _ _ _) λv a=>tR λc=>⟨λd=> ?_,λ_=>a c⟩) λq=> ?_
   all_goals grind
def lT(o:Int):Bool:=decide (1<=o)&&decide (o<=5)
theorem P6(o:Int):Fp o=some (lT o):=by unfold Fp Fp.J1 lT;grind
variable{l:fq}
theorem xU(b:l.length<=8000000)(a:Int):TT (CJ l a):=by unfold CJ;refine Pw (l.length+1) (λ_ _=>True) (F:=λn s i=>CJ.Aa l n s i) ah trivial λn i s hi _ k=> ?_;unfold CJ.Aa CJ.L1 CJ.J1 CJ.J2 CJ.J3;refine tD (λ_=>tD (λ_=>tR trivial) λ_=>tD (λ_=>tR trivial) λ_=>tG ah λx _=>tE (P6 _) ?_) λ_=>tR trivial;exact tI (λ_=>tR trivial) λ_=>tI (λ_=>k _ ah trivial) λ_=>k _ ah trivial
def Yj(w:AD)(t:Int)(x:Ad):Prop:=if x.Op=28 then x.Site= -1 else∃y,gt w.BU x.Site=some y/\y.Thread=t
structure VI (w:AD) (t R:Int) (x:Ad):Prop where
 o:1<=x.Op/\x.Op<=28
 g:∀y∈rg x,0<=y/\y<R
 s:Yj w t x
 a:(x.Op=7->RG w x.B x.N)/\(x.Op=9->RG w x.A x.N)
structure VT (w:AD) (t:Int) (c:Az):Prop where
 r:0<=c.Ck/\c.Ck<=32
 i:∀x∈c.Br,VI w t c.Ck x
theorem V5(w:AD)(t:Int){c:Az}(D:c.Br.length<=8000000):CD (AX w t c) λb=>b=true->VT w t c:=by
 have N:∀{J:Prop},CD (some false) λb:Bool=>b=true->J:=tR λh=>by cases h
 have j1:∀b,(b=false->0<=c.Ck/\c.Ck<=32)->CD (AX.J1 c t w b) λb=>b=true->VT w t c:=by
  intro b p;unfold AX.J1;refine tI (λ_=>N) λC=>Pw c.Br.length (λi (_:Unit)=>∀x∈c.Br.take i,VI w t c.Ck x) (s0:=()) (F:=λn _ i=>AX.Aa c t w n i) ah ak λn i _ hi q k=> ?_;unfold AX.Aa AX.L1 AX.J6;refine tD (λg=>bR ah ?_) λM=>tR λ_=>⟨p C,Yo ah q⟩;have g:i<c.Br.length:=ah
  generalize E:c.Br[i]=x;have H:∀b,(b=false->(1<=x.Op/\x.Op<=28)/\Yj w t x/\(x.Op=7->RG w x.B x.N)/\(x.Op=9->RG w x.A x.N))->CD (AX.J4 (AX.Aa c t w n) c i x b) λb=>b=true->VT w t c:=by intro b a;unfold AX.J4;refine tI (λ_=>N) λd=>tE (GR x).1 (Pw (rg x).length (λi (_:Unit)=>∀y∈(rg x).take i,0<=y/\y<c.Ck) (s0:=()) (F:=λn _ i=>AX.DF _ c _ (rg x) n i) (by have:=(GR x).2;omega) ak λm j _ K z I=> ?_);unfold AX.DF AX.L2 AX.J5;refine tD (λ_=>bR ah (tB (Mr _ _) λv e=>tI (λ_=>N) λh=>I () ah (take_one ah z (e bg)))) λ_=>k () g (take_one g q (by rw[E];exact⟨(a d).1,Yo ah z,(a d).2.1,(a d).2.2⟩))
  have o:∀b,(b=false->(1<=x.Op/\x.Op<=28)/\Yj w t x/\(x.Op=7->RG w x.B x.N)/\(x.Op=9->RG w x.A x.N))->CD (AX.J3 (AX.Aa c t w n) c i x b) λb=>b=true->VT w t c:=by
   intro b a;unfold AX.J3;refine tI (λ_=>N) λd=> ?_
   repeat' first|exact H _ λ_=>a d|refine tB (Mr _ _) λ_ _=> ?_|refine tI (λ_=> ?_) λ_=> ?_
  have f:∀b,(b=false->(1<=x.Op/\x.Op<=28)/\(x.Op=7->RG w x.B x.N)/\(x.Op=9->RG w x.A x.N))->CD (AX.J2 (AX.Aa c t w n) c i t w x b) λb=>b=true->VT w t c:=by
   intro b a;unfold AX.J2;refine tI (λ_=>N) λd=> ?_;obtain⟨s,u⟩:=a d;have T:∀b,b=true->CD (AX.J3 (AX.Aa c t w n) c i x b) λb=>b=true->VT w t c:=λb p=>o b λh=>am;refine tI (λl=>tI (λ_=>T _ rfl) λr=>tI (λh=>am) λ_=>o _ λ_=>⟨s,?_,u⟩) λl=>tI (λ_=> ?_) λh=>am
   . unfold Yj;simp_all
   . refine tB (Mr _ _) λv e=>tI (λ_=>T _ rfl) λh=> ?_;obtain⟨y,G,_⟩:=Hh (e bg);refine tE G (o _ λL=>⟨s,?_,u⟩);unfold Yj;simp_all
  refine tD (λ_=>f _ λh=>by cases h) λ_=>tD (λ_=>f _ λh=>by cases h) λ_=> ?_;have a:1<=x.Op/\x.Op<=28:=ah
  exact tI (λ_=>f _ λh=>by cases h) λ_=>tB (kE _ _) λv e=>tI (λ_=>f _ λh=>by cases h) λh=>IW (xU D _) λ_=>f _ λ_=>⟨a,e bg⟩
 unfold AX;grind
structure VC (c:BT):Prop where
 w:Ce c.World=true
 n:c.AA.length=c.World.AA.length
 t:∀(i:Nat) t,c.AA[i]? =some t->VT c.World i t
variable{c:BT}
theorem P7(e:CK c):CD (Bz c) λb=>b=true->VC c:=by
 have N:∀{l:Prop},CD (some false) λb:Bool=>b=true->l:=tR λh=>by cases h
 have hn:=e.n;have j1:∀b,(b=false->Ce c.World=true/\c.AA.length=c.World.AA.length)->CD (Bz.J1 c b) λb=>b=true->VC c:=by
  intro b d;unfold Bz.J1;refine tI (λ_=>N) λa=>Pw c.AA.length (λi (_:Unit)=>∀(j:Nat) x,j<i->c.AA[j]? =some x->VT c.World j x) (s0:=()) (F:=λn _ i=>Bz.Aa c n i) ah (λj _ h=>ah) λn i _ hi f k=> ?_;unfold Bz.Aa Bz.L1 Bz.J2;refine tD (λm=>bR ah (tB (V5 _ _ (e.i _ (AAS ah))) λv p=>tI (λ_=>N) λh=>k () ah ?_)) λ_=>tR λ_=>⟨(d a).1,(d a).2,λj x g=>f j x ?_ g⟩
  . grind
  . grind
 unfold Bz;refine tE (Js _) (tI (λ_=>j1 _ λh=>by cases h) λh=>j1 _ λo=>⟨bg,?_⟩);grind
def Lt(o:ABd a)(Q:a->Prop):Prop:=∀r,o=some r->Q r
theorem pR{r:a}{Q:a->Prop}(h:Q r):Lt (some r) Q:=λ_ e=>am
theorem pN{Q:a->Prop}:Lt (none:ABd a) Q:=λ_ e=>by cases e
variable{b:Type}
theorem pB{o:ABd a}{Q:a->Prop}{f:a->ABd b}{R:b->Prop}(h:Lt o Q)(k:∀x,Q x->Lt (f x) R):Lt (o.bind f) R:=by
 intro r e;cases o with
 |none=>cases e
 |some x=>exact k x (h x rfl) r e
def pB'{o:ABd a}{f:a->ABd b}{R:b->Prop}(k:∀x,Lt (f x) R):Lt (o.bind f) R:=pB (Q:=λ_=>True) (λ_ _=>trivial) λx _=>k x
theorem pE{o:ABd a}{y:a}{f:a->ABd b}{R:b->Prop}(h:o=some y)(k:Lt (f y) R):Lt (o.bind f) R:=am
theorem pC{p:Prop}[Decidable p]{a:ABd b}{R:b->Prop}(k:p->Lt a R):Lt (if p then a else none) R:=by
 by_cases h:p
 . simp_all
 . rw[AAK h];exact pN
theorem pI{c:Bool}{d b:ABd a}{R:a->Prop}(e:c=true->Lt d R)(f:c=false->Lt b R):Lt (if c=true then d else b) R:=bg
theorem pD{p:Prop}[Decidable p]{c b:ABd a}{R:a->Prop}(d:p->Lt c R)(e:¬p->Lt b R):Lt (if decide p=true then c else b) R:=bg
def pM{o:ABd a}{Q R:a->Prop}(h:Lt o Q)(k:∀x,Q x->R x):Lt o R:=λr e=>k r (h r e)
theorem pT{o:ABd a}{Q:a->Prop}(h:CD o Q):Lt o Q:=by obtain⟨x,rfl,b⟩:=h;exact pR b
def pA{o:ABd a}{P Q:a->Prop}(h:Lt o P)(k:Lt o Q):Lt o λr=>P r/\Q r:=λr e=>⟨h r e,k r e⟩
theorem tP{o:ABd a}{P Q:a->Prop}(h:CD o P)(k:Lt o Q):CD o λr=>P r/\Q r:=by obtain⟨x,e,b⟩:=h;exact⟨x,e,b,k x e⟩
theorem pLs{Q:b->Prop}(N:Nat)(I:Nat->a->Prop){F:Nat->a->Int->ABd b}(f:∀s i,F 0 s i=none)(k:N<1000000000000){s0:a}(c:I 0 s0)(h:∀n (i:Nat) s,i<=N->I i s->(∀D,i<N->I (i+1) D->Lt (F n D (BA (i+1))) Q)->Lt (F (n+1) s i) Q):Lt (F BW s0 0) Q:=by
 have key:∀n (i:Nat) s,i<=N->I i s->Lt (F n s i) Q:=by
  intro n;induction n with
  |zero=>intro i s _ _;rw[f];exact pN
  |succ n ih=>intro i s d e;refine h n i s d e λD g j=> ?_;rw[Aj ah];grind
 exact key BW 0 s0 ah c
def StI(l:fq)(k m:Nat):Prop:=∃x,l[k]? =some x/\lT x.Op=true/\(x.Op=5/\x.A=(m:Int)\/x.Op≠5/\m=k+1)
def QR(l:fq)(a b:Nat):Nat->Nat->Nat->Prop
 |0,k,m=>k=m
 |n+1,k,m=>(a<=k/\k<b)/\∃j,StI l k j/\QR l a b n j m
def Ev(l:fq)(m:Nat):Prop:=∃x,l[m]? =some x/\lT x.Op=false
variable{l':fq}{u:Nat}
theorem QR.frame{d:Nat}(h:∀i,k<=i->i<E->l[i]? =l'[i]?)(f:u<=k)(g:E<=d):∀{n a m},QR l k E n a m->QR l' u d n a m
 |0,_,_,e=>e
 |n+1,a,m,⟨⟨h1,h2⟩,j,⟨x,x1,x2⟩,h4⟩=>⟨⟨ah,ah⟩,j,⟨x,am,x2⟩,h4.frame h f g⟩
theorem QR.trans:∀{n a m p q},QR l k E n a m->QR l k E p m q->QR l k E (n+p) a q
 |0,_,_,p,_,e,h=>by cases e;simp_all
 |n+1,_,_,p,_,⟨h1,j,h2,h3⟩,h=>by rw[Nat.succ_add];exact⟨h1,j,h2,h3.trans h⟩
def QR.one(h:E<=k/\k<n)(s:StI l k u):QR l E n 1 k u:=⟨h,u,s,rfl⟩
structure LV (w:AD) (lo hi:Int) (c:Nat) (x:Ad):Prop where
 o:1<=x.Op/\x.Op<=27
 ob:AN w x=some true
 g:∀y∈rg x,0<=y/\y<32
 s:lo<=x.Site/\x.Site<hi
 j:x.Op=5->0<=x.A/\x.A<=c
 b:x.Op=10->0<=x.B/\x.B<=c
structure SG (w:AD) (lo hi:Int) (l:List Ad) (a b c:Nat):Prop where
 h:a<=b/\b<=l.length
 i:∀k x,a<=k->k<b->l[k]? =some x->LV w lo hi c x
 f:∀k,a<=k->k<b->(∃n m,QR l a b n k m/\(a<=m/\m<b)/\Ev l m/\n+a+1<=b)\/∃n,QR l a b n k b/\n+k<=b
variable{x:Ad}
section
variable{w:AD}{lo hi lo' hi':Int}{l l':fq}{a b c d:Nat}
theorem LV.mono(h:LV w lo hi c x)(a:lo'<=lo)(f:hi<=hi')(i:c<=d):LV w lo' hi' d x:=
 ⟨h.o,h.ob,h.g,⟨by have:=h.s;omega,by have:=h.s;omega⟩,λe=>by have:=h.j e;omega,λe=>by have:=h.b e;omega⟩
theorem SG.frame(h:SG w lo hi l a b c)(j:∀i,a<=i->i<b->l[i]? =l'[i]?)(s:b<=l'.length)(o:lo'<=lo)(p:hi<=hi')(q:c<=d):SG w lo' hi' l' a b d:=by
 refine⟨⟨h.h.1,s⟩,λk x e g v=>(h.i k x e g am).mono o p q,λk e g=> ?_⟩;rcases h.f k e g with⟨n,m,r,t,⟨x,y,u⟩,hn⟩|⟨n,r,hn⟩
 . exact .inl ⟨n,m,r.frame j ah ah,t,⟨x,am,u⟩,hn⟩
 . exact .inr ⟨n,r.frame j ah ah,hn⟩
def SG.mono(h:SG w lo hi l a b c)(e:lo'<=lo)(f:hi<=hi')(g:c<=d):SG w lo' hi' l a b d:=h.frame (λ_ _ _=>rfl) h.h.2 e f g
theorem SG.nil(h:a<=l.length):SG w lo hi l a a c:=⟨⟨ah,h⟩,λk x _ _=>ah,λk _ _=>ah⟩
theorem SG.app(h:SG w lo hi l a b c)(g:SG w lo hi l b k c):SG w lo hi l a k c:=by
 have B:=h.h;have y:=g.h;refine⟨⟨ah,y.2⟩,λe x p q u=> ?_,λe p q=> ?_⟩
 . by_cases o:e<b
   . exact h.i e x p o u
   . exact g.i e x ah q u
 . have up:∀{n e m},QR l b k n e m->QR l a k n e m:=λr=>r.frame (λ_ _ _=>rfl) ah ah;have d:∀{n e m},QR l a b n e m->QR l a k n e m:=λr=>r.frame (λ_ _ _=>rfl) ah ah;by_cases o:e<b
   . rcases h.f e p o with⟨n,m,r,v,ev,hn⟩|⟨n,r,hn⟩
     . grind
     . by_cases j:b<k
       . rcases g.f b ah j with⟨s,m,t,v,ev,z⟩|⟨s,t,z⟩
         . exact .inl ⟨n+s,m,(d r).trans (up t),ah,ev,ah⟩
         . exact .inr ⟨n+s,(d r).trans (up t),ah⟩
       grind
   . rcases g.f e ah q with⟨n,m,r,v,ev,hn⟩|⟨n,r,hn⟩
     all_goals grind
theorem SG.one(b:l[a]? =some x)(h:LV w lo hi c x)(d:x.Op≠5):SG w lo hi l a (a+1) c:=by
 have g:=(AAE.1 b).1;refine⟨⟨ah,ah⟩,λk y e f i=> ?_,λk e f=> ?_⟩
 . grind
 . obtain rfl:k=a:=ah;cases hs:lT x.Op with
   |false=>exact .inl ⟨0,k,rfl,ah,⟨x,b,hs⟩,ah⟩
   |true=>exact .inr ⟨1,QR.one ah ⟨x,b,hs,.inr ⟨d,rfl⟩⟩,ah⟩
theorem SG.jump(h:SG w lo hi l a k c)(B:l[k]? =some x)(e:LV w lo hi c x)(t:x.Op=5)(z:x.A=(E:Int))(g:SG w lo hi l (k+1) E c):SG w lo hi l a E c:=by
 have D:=h.h;have v:=g.h;have s:StI l k E:=⟨x,B,by rw[t];rfl,.inl ⟨t,z⟩⟩;have up:∀{n j m},QR l (k+1) E n j m->QR l a E n j m:=λr=>r.frame (λ_ _ _=>rfl) ah ah;have p:∀{n j m},QR l a k n j m->QR l a E n j m:=λr=>r.frame (λ_ _ _=>rfl) ah ah;refine⟨⟨ah,v.2⟩,λj y d o u=> ?_,λj d o=> ?_⟩
 . by_cases b:j<k
   . exact h.i j y d b u
   . by_cases q:j=k
     . simp_all
     . exact g.i j y ah o u
 . by_cases b:j<k
   . rcases h.f j d b with⟨n,m,r,C,ev,hn⟩|⟨n,r,hn⟩
     . grind
     . exact .inr ⟨n+1,(p r).trans (QR.one ah s),ah⟩
   . by_cases q:j=k
     . subst q;exact .inr ⟨1,QR.one ah s,ah⟩
     . rcases g.f j ah o with⟨n,m,r,C,ev,hn⟩|⟨n,r,hn⟩
       all_goals grind
theorem SG.back{p j:Nat}{x y:Ad}(h:SG w lo hi l a p c)(L:l[p]? =some y)(M:LV w lo hi c y)(o:lT y.Op=false)(g:SG w lo hi l (p+1) j c)(D:l[j]? =some x)(S:LV w lo hi c x)(C:x.Op=5)(J:x.A=(a:Int)):SG w lo hi l a (j+1) c:=by
 have Q:=h.h;have P:=g.h;have R:=(AAE.1 D).1;have s:StI l j a:=⟨x,D,by rw[C];rfl,.inl ⟨C,J⟩⟩;have up:∀{n k m},QR l (p+1) j n k m->QR l a (j+1) n k m:=λr=>r.frame (λ_ _ _=>rfl) ah ah;have O:∀{n k m},QR l a p n k m->QR l a (j+1) n k m:=λr=>r.frame (λ_ _ _=>rfl) ah ah;have B:Ev l p:=⟨y,L,o⟩
 -- from the beginning on
 have d:∃n m,QR l a (j+1) n a m/\(a<=m/\m<j+1)/\Ev l m/\n+a<=p:=by
  by_cases K:a<p
  . rcases h.f a ah K with⟨n,m,r,G,ev,hn⟩|⟨n,r,hn⟩
    all_goals grind
  . have:a=p:=ah;exact⟨0,p,this,ah,B,ah⟩
 obtain⟨H,F,I,u,v,T⟩:=d;refine⟨⟨ah,ah⟩,λk z q N E=> ?_,λk q N=>.inl ?_⟩
 . by_cases e:k<p
   . exact h.i k z q e E
   . by_cases t:k=p
     . simp_all
     . by_cases b:k<j
       . exact g.i k z ah b E
       grind
 . by_cases e:k<p
   . rcases h.f k q e with⟨n,m,r,G,ev,hn⟩|⟨n,r,hn⟩
     all_goals grind
   . by_cases t:k=p
     . subst t;exact⟨0,k,rfl,ah,B,ah⟩
     . by_cases b:k<j
       . rcases g.f k ah b with⟨n,m,r,G,ev,hn⟩|⟨n,r,hn⟩
         . grind
         . exact⟨n+(1+H),F,(up r).trans ((QR.one ah s).trans I),u,v,ah⟩
       . obtain rfl:k=j:=ah;exact⟨1+H,F,(QR.one ah s).trans I,u,v,ah⟩
end
def TB(E:Int)(x:dc):Prop:=x.Pairwise (· < ·)/\∀y∈x,0<=y/\y<E
theorem TB.len{E:Int}(h:TB E W)(d:0<=E):(W.length:Int)<=E:=by
 have key:∀(W:dc)(a:Int),W.Pairwise (· < ·)->(∀y∈W,a<=y/\y<E)->a<=E->(W.length:Int)<=E-a:=by
  intro W;induction W with
  |nil=>simp_all
  |cons y r ih=>
   intro a e b i;obtain⟨f,g⟩:=List.pairwise_cons.1 e;have j:=b y ABD
   have:=ih (y+1) g (λz c=>⟨f z c,(b z (ABN _ c)).2⟩) ah;grind
 have:=key W 0 h.1 h.2 d;omega
variable{o:Int}
theorem TB.mono(h:TB i W)(b:i<=o):TB o W:=⟨h.1,λy a=>⟨(h.2 y a).1,by have:=(h.2 y a).2;omega⟩⟩
structure TH (E:Nat) (s:AM):Prop where
 r:s.Ck.length<=100
 t:s.Cd.length<=100
 b:∀x∈s.Cd,TB s.AE x
 e:0<=s.AE/\s.AE<=E
theorem TH.zero(E:Nat):TH E ⟨0,[],[],0⟩:=⟨ak,ak,ak,ak,ak⟩
theorem fQ{s:AM}(h:TH E s)(f:E<=100000):E6 s=some s:=by
 have g:=h.r;have j:=h.t;have c:=h.e;have key:CD (E6 s) λr=>r=s:=by
  unfold E6;refine tC (Bm ah) (Pw s.Cd.length (λi o=>o=⟨s.PC,s.Ck,s.Cd.take i,s.AE⟩) (F:=λn o i=>E6.Aa s n o i) ah rfl λn i o hi d k=> ?_);subst d;unfold E6.Aa E6.L1 E6.J1;refine tD (λ_=>bR ah ?_) λ_=>tR (by rw[AAq (by omega)])
  have:=(h.b _ (AAS (show i<s.Cd.length by omega))).len c.1;exact tC (Bm ah) (tC (Bm an) (k _ ah am))
 obtain⟨r,a,rfl⟩:=key;exact a
theorem rg1(h:x.Op=1):rg x=[x.A]:=by unfold rg AZ AZ.J1;simp[h]
theorem rg2(h:x.Op=2):rg x=[x.A,x.B]:=by unfold rg AZ AZ.J1 AZ.J2;simp[h]
theorem rg3(h:x.Op=3):rg x=[x.A,x.B]:=by unfold rg AZ AZ.J1 AZ.J2;simp[h]
theorem rg4(h:x.Op=4):rg x=[x.A,x.B,x.C]:=by unfold rg AZ AZ.J1 AZ.J2;simp[h]
theorem rg6(h:x.Op=6):rg x=[x.A]:=by unfold rg AZ AZ.J1;simp[h]
theorem rg7(h:x.Op=7):rg x=[x.A,x.C]:=by unfold rg AZ AZ.J1 AZ.J2;simp[h]
theorem rg8(h:x.Op=8):rg x=[x.B]:=by unfold rg AZ AZ.J1 AZ.J2 AZ.J3;simp[h]
theorem rg9(h:x.Op=9):rg x=[x.B,x.C]:=by unfold rg AZ AZ.J1 AZ.J2 AZ.J3;simp[h]
theorem rg10{i:Ad}(h:i.Op=10):rg i=[i.A]:=by unfold rg AZ AZ.J1;simp[h]
theorem rg26{i:Ad}(h:i.Op=26):rg i=[i.B]:=by unfold rg AZ AZ.J1 AZ.J2 AZ.J3;simp[h]
theorem rg27{i:Ad}(h:i.Op=27):rg i=[i.A]:=by unfold rg AZ AZ.J1;simp[h]
theorem TE(n:Int):TT (EZ n):=by
 unfold EZ EZ.J1
 repeat' first|exact tR trivial|refine tI (λ_=> ?_) λ_=> ?_
theorem bU(b:Bool):TT (D7 b):=by unfold D7;exact tI (λ_=>tR trivial) λ_=>tR trivial
theorem uJ(o a:Int):TT (Kx o a):=by
 unfold Kx
 repeat' first|exact tR trivial|refine IW (bU _) λ_=> ?_|refine tI (λ_=> ?_) λ_=> ?_
theorem mM(o a b:Int):TT (Fm o a b):=by
 unfold Fm Fm.J1 Fm.J2
 repeat' first|exact tR trivial|refine IW (bU _) λ_=> ?_|refine tD (λ_=>tR trivial) λc=>tC c ?_|refine tI (λ_=> ?_) λ_=> ?_
variable{j:iw}
theorem step_tot{s:AM}(d:TH E s)(m:∀i∈s.Cd,∀k∈i,j k)(S:E<=100000)(G:s.Cd.length=s.Ck.length)(H:lT x.Op=true):CD (ER x s) λr=>r.2=true->(TH E r.1/\r.1.Cd.length=r.1.Ck.length)/\r.1.AE=s.AE/\∀i∈r.1.Cd,∀k∈i,j k:=by
 have N:∀{i} {j:AM×Bool->Prop},CD (some (i,false)) λr:AM×Bool=>r.2=true->j r:=tR λh=>by cases h
 have g:=d.e;have I:=d.r;have J:=d.t;have l:∀v ok t,0<=x.A/\x.A<s.Ck.length->TB s.AE t->(∀k∈t,j k)->CD (ER.J3 x s v ok t) λr=>r.2=true->(TH E r.1/\r.1.Cd.length=r.1.Ck.length)/\r.1.AE=s.AE/\∀i∈r.1.Cd,∀k∈i,j k:=by
  intro v ok t D o K
  have:=o.len g.1;unfold ER.J3;refine tC (Bm ah) (tG D λ_ _=>tG ah λ_ _=>tR λ_=>⟨⟨⟨am,am,?_,g⟩,am⟩,rfl,?_⟩)
  . intro i c;rcases AAh c with c|rfl
    . exact d.b i c
    omega
  . grind
 have L:(∀y∈rg x,0<=y/\y<s.Ck.length)->CD (ER.J2 x s) λr=>r.2=true->(TH E r.1/\r.1.Cd.length=r.1.Ck.length)/\r.1.AE=s.AE/\∀i∈r.1.Cd,∀k∈i,j k:=by
  intro a;unfold ER.J2;refine tI (λ_=>tR λ_=>⟨⟨⟨I,J,d.b,g⟩,G⟩,rfl,m⟩) λR=>tI (λu=> ?_) λM=>tI (λw=> ?_) λO=>tI (λB=> ?_) λQ=> ?_
  . simp only[rg1 (eq_of_beq u),AAl,forall_eq]at a;exact l _ _ _ a ⟨List.Pairwise.nil,ak⟩ ak
  . simp only[rg2 (eq_of_beq w),AAn,AA3,AA2,forall_eq_or_imp,forall_eq]at a;exact tG a.2 λ_ _=>tG ah λi c=>l _ _ _ a.1 (d.b i c) (m i c)
  . simp only[rg3 (eq_of_beq B),AAn,AA3,AA2,forall_eq_or_imp,forall_eq]at a;exact IW (TE _) λ_=>tG a.2 λ_ _=>IW (uJ _ _) λ_=>tG ah λi c=>l _ _ _ a.1 (d.b i c) (m i c)
  . have C:x.Op=4:=(by simp[lT]at H R M O Q;omega);simp only[rg4 C,AAn,AA3,AA2,forall_eq_or_imp,forall_eq]at a;refine IW (TE _) λ_=>tG a.2.1 λ_ _=>tG a.2.2 λ_ _=>IW (mM _ _ _) λ_=>tG ah λi c=>tG ah λy p=> ?_;have U:=(d.b i c).len g.1;have V:=(d.b y p).len g.1;refine tE (fZ i y ah) (l _ _ _ a.1 ⟨LM _,λz f=> ?_⟩ λz f=> ?_)
    . rcases AAW.1 ((Kb _ _).1 f)with f|f
      . exact(d.b i c).2 z f
      . exact(d.b y p).2 z f
    . rcases AAW.1 ((Kb _ _).1 f)with f|f
      all_goals grind
 unfold ER;refine tE (GR x).1 (Pw (rg x).length (λP (_:Unit)=>∀y∈(rg x).take P,0<=y/\y<(s.Ck.length:Int)) (s0:=()) (F:=λn _ P=>ER.Aa x s (rg x) n P) (by have:=(GR x).2;omega) ak λn P _ T q k=> ?_);unfold ER.Aa ER.L1 ER.J1;refine tD (λ_=>bR ah (tD (λ_=>tI (λ_=>N) λh=>by cases h) λ_=>tD (λ_=>N) λ_=>k () ah (take_one ah q ah))) λ_=>L (Yo ah q)
def P5:AM:=⟨0,[],[],0⟩
theorem mW{c:Az}{s:AM}(e:TH E s)(g:∀x∈s.Cd,∀k∈x,j k)(d:E<=100000)(m:c.Br.length<=8000000):CD (Dd c s) λr=>TH E r.1/\(r.1=P5\/r.1.AE=s.AE/\∀x∈r.1.Cd,∀k∈x,j k):=by
 have Z:TH E P5/\(P5=P5\/P5.AE=s.AE/\∀x∈P5.Cd,∀k∈x,j k):=⟨TH.zero E,.inl rfl⟩;have j1:∀b,(b=false->s.Cd.length=s.Ck.length)->CD (Dd.J1 c s b) λr=>TH E r.1/\(r.1=P5\/r.1.AE=s.AE/\∀x∈r.1.Cd,∀k∈x,j k):=by intro b l;unfold Dd.J1;refine tI (λ_=>tR Z) λf=>tE (fQ e d) (Pw (c.Br.length+1) (λ_ t=>(TH E t/\t.Cd.length=t.Ck.length)/\t.AE=s.AE/\∀x∈t.Cd,∀k∈x,j k) (F:=λn s P=>Dd.Aa c n s P) ah ⟨⟨e,l f⟩,rfl,g⟩ λn i t hi a k=> ?_);unfold Dd.Aa Dd.L1 Dd.J2 Dd.J3;refine tD (λ_=>tD (λ_=>tI (λ_=>tR Z) λh=>by cases h) λ_=>tD (λ_=>tR Z) λ_=>tG ah λx _=>tE (P6 _) (tI (λ_=>tR ⟨a.1.1,.inr a.2⟩) λh=>tI (λ_=>tR Z) λ_=> ?_)) λ_=>tR Z;exact tB (step_tot a.1.1 a.2.2 d a.1.2 bg) λv o=>tI (λ_=>tR Z) λh=>k _ ah bg
 unfold Dd;grind
def Xo:List I7:=[⟨⟨#[109]⟩,false⟩,⟨⟨#[110]⟩,false⟩,⟨⟨#[114]⟩,true⟩]
def W9:AD:=⟨K7,[],[],[],[],[]⟩
structure WF (T:ABe->Prop) (w:AD):Prop where
 c:w.Cells=K7
 l:w.AF=Xo
 d:w.Ai=[⟨cN,0⟩]
 f:w.AK=[⟨#[102]⟩]
 t:∀s,T s->s∈w.AA
 n:w.AA.length<=4
structure GW (T:ABe->Prop) (g:BB):Prop where
 w:WF T g.w
 l:g.locals=ZP
theorem MA(h:w.Cells=K7)(s:ABe):Bh w s=Bh W9 s:=by
 unfold Bh;have key:∀n i,Bh.Aa s w n i=Bh.Aa s W9 n i:=by
  intro n;induction n with
  |zero=>exactλ_=>rfl
  |succ n ih=>intro i;unfold Bh.Aa Bh.L1;rw[h,show W9.Cells=K7 from rfl];simp_all
 grind
theorem aE{l:List a}{x:a}(h:gt l i=some x):0<=i/\i<l.length:=by unfold gt at h;grind
theorem Ih(h:0<=i/\i<o):Da i o=some true:=by unfold Da Da.J1;simp_all
theorem p8(h:x.Op∈[(1:Int),2,5,10,17,18,19,20]):AN w x=some true:=by simp only[AAn,AA3,AA2]at h;rcases h with h|h|h|h|h|h|h|h<;>simp[AN,AN.J3,AN.J5,AN.J7,AN.J8,h]
theorem obj4(h:x.Op=4)(hn:6<=x.N/\x.N<=18):AN w x=some true:=by simp[AN,AN.J3,AN.J5,AN.J7,AN.J8,AN.Oz,h,hn.1,hn.2]
variable{y:DR}
theorem obj6(h:x.Op=6)(a:gt w.Cells x.B=some y)(b:y.Bq=0):AN w x=some true:=by simp[AN,AN.J1,h,Ih (aE a),a,b]
theorem obj8(h:x.Op=8)(a:gt w.Cells x.A=some y)(b:y.Bq=0):AN w x=some true:=by simp[AN,AN.J2,h,Ih (aE a),a,b]
theorem gP(a:gt w.Cells i=some y)(hi:y.Index=0)(c:y.Bq≠0)(hn:y.Bq=o):Eo w i o=some true:=by subst hn;simp[Eo,Eo.J1,Ih (aE a),a,hi,c]
theorem obj7(h:x.Op=7)(b:gt w.Cells x.B=some y)(hi:y.Index=0)(a:y.Bq≠0)(hn:y.Bq=x.N):AN w x=some true:=by simp[AN,h,gP b hi a hn]
theorem obj9(h:x.Op=9)(b:gt w.Cells x.A=some y)(hi:y.Index=0)(a:y.Bq≠0)(hn:y.Bq=x.N):AN w x=some true:=by simp[AN,h,gP b hi a hn]
theorem objM{y:I7}(h:x.Op=11\/x.Op=12)(a:gt w.AF x.A=some y)(b:y.RW=false):AN w x=some true:=by rcases h with h|h<;>simp[AN,AN.J3,AN.J4,h,Ih (aE a),a,b]
theorem objR{y:I7}(h:x.Op=13\/x.Op=14\/x.Op=15\/x.Op=16)(a:gt w.AF x.A=some y)(b:y.RW=true):AN w x=some true:=by rcases h with h|h|h|h<;>simp[AN,AN.J3,AN.J5,AN.J6,h,Ih (aE a),a,b]
theorem objC(h:x.Op=21\/x.Op=22\/x.Op=23)(a:0<=x.A/\x.A<w.Ai.length):AN w x=some true:=by rcases h with h|h|h<;>simp[AN,AN.J3,AN.J5,AN.J7,h,Ih a]
theorem objT(h:x.Op=24\/x.Op=25)(a:0<=x.A/\x.A<w.AA.length):AN w x=some true:=by rcases h with h|h<;>simp[AN,AN.J3,AN.J5,AN.J7,AN.J8,h,Ih a]
theorem obj26(h:x.Op=26)(a:0<=x.A/\x.A<w.AK.length):AN w x=some true:=by simp[AN,AN.J3,AN.J5,AN.J7,AN.J8,h,Ih a]
theorem obj27(h:x.Op=27)(a:0<=x.B/\x.B<w.AK.length):AN w x=some true:=by simp[AN,AN.J3,AN.J5,AN.J7,AN.J8,h,Ih a]
theorem rg0(h:x.Op=5\/11<=x.Op/\x.Op<=25\/x.Op=28):rg x=[]:=by have n:∀k:Int,x.Op≠k->(x.Op==k)=false:=λk h=>ABI.2 h;unfold rg AZ AZ.J1 AZ.J2 AZ.J3;simp[n 1 ah,n 2 ah,n 3 ah,n 4 ah,n 6 ah,n 7 ah,n 8 ah,n 9 ah,n 10 ah,n 26 ah,n 27 ah]
def NameF(x:ABe):Prop:=(∃e,CU ZP x=some e/\0<=e/\e<2)\/(∃e,CU ZP x=some e/\e<0)/\∃c y,Bh W9 x=some c/\gt K7 c=some y/\y.Bq=0
theorem name_f{x:ABe}(h:x∈vN):NameF x:=by
 unfold vN at h;simp only[AAn,AA3,AA2]at h;rcases h with rfl|rfl|rfl|rfl|rfl
 . exact .inl ⟨0,by decide +kernel,ah,ah⟩
 . exact .inl ⟨1,by decide +kernel,ah,ah⟩
 . exact .inr ⟨⟨-1,by decide +kernel,ah⟩,0,_,by decide +kernel,rfl,rfl⟩
 . exact .inr ⟨⟨-1,by decide +kernel,ah⟩,1,_,by decide +kernel,rfl,rfl⟩
 . exact .inr ⟨⟨-1,by decide +kernel,ah⟩,2,_,by decide +kernel,rfl,rfl⟩
theorem q_at:Bh W9 qS=some 3:=by decide +kernel
structure GV (g r:BB) (lo hi:Int):Prop where
 w:r.w=g.w
 l:r.locals=g.locals
 n:g.out.length<=r.out.length
 p:∀i,i<g.out.length->r.out[i]? =g.out[i]?
 s:SG g.w lo hi r.out g.out.length r.out.length r.out.length
section
variable{T:fb}{g h r:BB}{lo hi lo' hi':Int}
def GV.refl:GV g g lo hi:=⟨rfl,rfl,AAe _,λ_ _=>rfl,SG.nil (AAe _)⟩
theorem GV.trans(a:GV g h lo hi)(b:GV h r lo hi):GV g r lo hi:=by
 have c:=a.n;have e:=b.n;refine⟨b.w.trans a.w,b.l.trans a.l,ah,λi hi=>(b.p i ah).trans (a.p i hi),(a.s.frame (l':=r.out) (d:=r.out.length) (λi _ hi=>(b.p i hi).symm) ah ah ah ah).app ?_⟩
 have:=b.s;rw[a.w]at this;exact this
def GV.mono(a:GV g r lo hi)(b:lo'<=lo)(c:hi<=hi'):GV g r lo' hi':=⟨a.w,a.l,a.n,a.p,a.s.mono b c (AAe _)⟩
def GV.site(a:GV g r lo hi)(s n:Int):GV g ⟨r.w,r.locals,r.out,s,n⟩ lo hi:=⟨a.w,a.l,a.n,a.p,a.s⟩
theorem GW.next(a:GW T g)(b:GV g r lo hi):GW T r:=⟨by rw[b.w];exact a.w,b.l.trans a.l⟩
def GW.site(a:GW T g)(s n:Int):GW T ⟨g.w,g.locals,g.out,s,n⟩:=⟨a.w,a.l⟩
theorem put_eq(i:Ad):Lt (A6 g i) λr=>r=⟨g.w,g.locals,g.out++[⟨i.Op,i.A,i.B,i.C,i.N,g.site⟩],g.site,g.next⟩:=by unfold A6;exact pC λ_=>pR rfl
theorem GV.put(b:LV g.w lo hi (g.out.length+1) x)(a:x.Op≠5):GV g ⟨g.w,g.locals,g.out++[x],i,o⟩ lo hi:=by refine⟨rfl,rfl,ak,λs hi=>bg,?_⟩;simp only[AAr,AA8,ABK];exact SG.one ak b a
abbrev GK(g r:BB)(lo hi:Int):Prop:=GV g r lo hi/\r.site=g.site/\r.next=g.next
theorem s8(b:LV g.w lo hi (g.out.length+1) ⟨x.Op,x.A,x.B,x.C,x.N,g.site⟩)(a:x.Op≠5):Lt (A6 g x) λr=>GK g r lo hi:=
 pM (put_eq x) λ_ e=>by subst e;exact⟨GV.put b a,rfl,rfl⟩
def IL{i:Ad}(b:LV g.w lo hi (g.out.length+1) ⟨i.Op,i.A,i.B,i.C,i.N,g.site⟩)(a:i.Op≠5):Lt ((A6 g i).bind λv=>some v) λr=>GK g r lo hi:=pB (s8 b a) λ_ h=>pR h
def GK.trans(a:GK g h lo hi)(b:GK h r lo hi):GK g r lo hi:=⟨a.1.trans b.1,b.2.1.trans a.2.1,b.2.2.trans a.2.2⟩
theorem dW{x r:Int}(h:0<=r/\r<32):∀y∈[r],0<=y/\y<32:=λy a=>am
theorem zI(d:Nat):∀(n:Nat)(g:BB)(e:BE)(r:Int),S8 d e->GW T g->(lo<=g.site/\g.site<hi)->0<=r/\r+d<=32->Lt (Cp n g e r) λv=>GK g v lo hi:=by
 induction d with
 |zero=>exactλn g e r h=>h.elim
 |succ d ih=>
  intro n g e r E i m K;cases n with
  |zero=>exact pN
  |succ n=>
  have F:0<=r/\r<32:=ah
  show Lt (GL (Cp n) g e r) _;unfold GL;rcases E with⟨f,_⟩|⟨f,_,hn⟩|⟨f,C,a,q,p⟩|⟨f,a,b,q,p,D⟩
  . simp only[f];exact pI (λ_=>IL ⟨ak,p8 ak,by rw[rg1 rfl];simp_all,m,ak,ak⟩ ak) λh=>by cases h
  . simp only[f];refine pI bk λ_=>pI (λ_=> ?_) λh=>(by cases h);rw[i.l];rcases name_f hn with⟨k,t,I,L⟩|⟨⟨k,t,I⟩,c,y,x,z,B⟩
    . exact pE t (pD (λ_=>IL ⟨ak,p8 ak,by rw[rg2 rfl];grind,m,ak,ak⟩ ak) λh=>ah)
    . refine pE t (pD ck λ_=>pE ((MA i.w.c _).trans x) (IL ⟨ak,obj6 rfl (y:=y) (by rw[i.w.c];exact z) B,by rw[rg6 rfl];simp_all,m,ak,ak⟩ ak))
  . simp only[f,q];refine pI bk λ_=>pI bk λ_=>pI (λ_=>pE (y:=a) rfl ?_) λh=>(by cases h);refine pB (ih n g a r p i m ah) λv o=> ?_;have j:=i.next o.1;rw[C];refine pE ((MA j.w.c _).trans q_at) (pE (y:=⟨⟨#[113]⟩,0,2,false,0⟩) (by rw[j.w.c];rfl) ?_);exact pM (IL ⟨ak,obj7 rfl (y:=⟨⟨#[113]⟩,0,2,false,0⟩) (by rw[j.w.c];rfl) rfl ak rfl,by rw[rg7 rfl];simp_all,am,ak,ak⟩ ak) λ_ h=>o.trans h
  . have M:e.Op≠1:=λh=>am;have N:e.Op≠2:=λh=>am;have O:e.Op≠3:=λh=>am;have J:6<=e.Op/\e.Op<=18:=(by simp only[AAn,AA3,AA2]at f;omega);rw[AAK am,AAK am,AAK am,q];have H:BA (r+1)=r+1:=B9 ah ah;refine pI bk λ_=>pE (y:=a) rfl (pB (ih n g a r p i m ah) λv o=>pE (y:=b) rfl (pB (ih n v b _ D (i.next o.1) ah ah) λu G=> ?_));rw[H];have s:=o.trans G;by_cases hd:d=0
    . subst hd;exact p.elim
    exact pM (IL ⟨ak,obj4 rfl J,by rw[rg4 rfl];grind,am,ak,ak⟩ ak) λ_ h=>s.trans h
theorem Tv(a:S8 2 e)(b:GW T g)(c:lo<=g.site/\g.site<hi){r:Int}(d:0<=r/\r<=30):Lt (Cp BW g e r) λv=>GK g v lo hi:=zI 2 _ g e r a b c ah
theorem nK(f:GW T g)(i:lo<=g.site/\g.site<hi){s:AQ}(m:Hw T (k+1) s)(n:s.Op=1):Lt (Fe g s) λr=>GK g r lo hi:=by
 have o:S8 2 s.Expr:=m.2.2.1.resolve_right λh=>h.1 (by simp[n]);have q:(g.locals.length:Int)=2:=by rw[f.l];rfl
 unfold Fe;rw[q];rcases m.2.1 with h|⟨_,t,a,h,p⟩
 . rw[h];refine pI bk λ_=>pB (Tv o f i ah) λv b=> ?_;have d:=f.next b.1;have j:lo<=v.site/\v.site<hi:=(by rw[b.2.1];exact i);rw[d.l];rcases name_f (m.2.2.2.2.2.2.2.2.2.1 n h)with⟨c,k1,k2,k3⟩|⟨⟨c,k1,k2⟩,c,y,c1,c2,c3⟩
   . exact pE k1 (pD (λ_=>pM (IL ⟨ak,p8 ak,by rw[rg2 rfl];grind,j,ak,ak⟩ ak) λ_ h=>b.trans h) λh=>ah)
   . refine pE k1 (pD ck λ_=>pE ((MA d.w.c _).trans c1) (pM (IL ⟨ak,obj8 rfl (y:=y) (by rw[d.w.c];exact c2) c3,by rw[rg8 rfl];simp_all,j,ak,ak⟩ ak) λ_ h=>b.trans h))
 . rw[h];refine pI (λ_=>pE (y:=a) rfl ?_) λh=>(by cases h);rw[show BA (2+1)=3 from rfl];refine pB (Tv p f i ah) λv b=>pB (Tv o (f.next b.1) (by rw[b.2.1];exact i) ah) λu x=> ?_;have e:=b.trans x;have d:=f.next e.1;have j:lo<=u.site/\u.site<hi:=(by rw[e.2.1];exact i);rw[t];refine pE ((MA d.w.c _).trans q_at) (pE (y:=⟨⟨#[113]⟩,0,2,false,0⟩) (by rw[d.w.c];rfl) ?_);exact pM (IL ⟨ak,obj9 rfl (y:=⟨⟨#[113]⟩,0,2,false,0⟩) (by rw[d.w.c];rfl) rfl ak rfl,by rw[rg9 rfl];simp_all,j,ak,ak⟩ ak) λ_ h=>e.trans h
end
variable{C:fe}{v:dv}{f:List ABe×Bool}
theorem cells_in{l:gw}(m:l.length<=12)(g:1<=y.Bq/\y.Bq<=4)(hi:(k:Int)+y.Bq<=l.length)(p:f.2=true):
 ∀(n t:Nat)(d:DR),d.Bq=y.Bq->(t:Int)<=y.Bq->AY.DF C k l v y n d t=some f->
 (∀i:Nat,t<=i->(i:Int)<y.Bq->∃c,l[k+i]? =some c/\c.Index=i/\c.Bq=y.Bq)/\C (v++[y.Name]) (k+y.Bq)=some f:=by
 intro n;induction n with
 |zero=>intro t d _ _ h;cases h
 |succ n ih=>
  intro t d names o h;unfold AY.DF AY.L2 at h;by_cases e:(t:Int)<y.Bq
  . rw[A9 e,B9 (n:=(k:Int)+t) ah ah,show(k:Int)+t=((k+t:Nat):Int)from by omega,CF ah,AAB]at h;split at h
    . grind
    . rename_i j;rw[Aj ah]at h;obtain⟨a,b⟩:=ih (t+1) ⟨d.Name,t,d.Bq,d.Gz,d.Init⟩ names ah h;grind
  . rw[Ae e]at h;unfold AY.J2 at h;rw[names,B9 ah ah]at h;grind
theorem vM{l:gw}(E:l.length<=12)(m:f.2=true):∀(n i:Nat)(names:dv),names.length<=i->i<=l.length->AY.Aa l n names i=some f->
 ∀(b:Nat)(c:DR),i<=b->l[b]? =some c->c.Index=0->c.Bq≠0->(1<=c.Bq/\c.Bq<=4)/\∀k:Nat,(k:Int)<c.Bq->∃d,l[b+k]? =some d/\d.Bq≠0:=by
 intro n;induction n with
 |zero=>intro i names _ _ h;cases h
 |succ n ih=>
  intro i names hn C h b c K v s g;have B:=(AAE.1 v).1;unfold AY.Aa AY.L1 at h;have hi:i<l.length:=ah
  rw[A9 ah,CF hi,AAB,BV ah]at h;have o:l[i]? =some l[i]:=AAJ hi;generalize l[i]=x at h o;by_cases e:x.Bq=0
  . rw[AAL (by simpa using e)]at h;split at h
    . cases h;cases m
    . rw[Aj ah]at h;by_cases q:b=i
      . subst q;rw[o]at v;cases v;exact absurd e g
      . exact ih (i+1) _ an ah h b c ah v s g
  . rw[AAK (by simpa using e)]at h;have J:∀t,AY.J1 (AY.Aa l n) i l names x t=some f->t=false/\AY.DF (AY.Aa l n) i l names x BW x 0=some f:=by
     intro t j;unfold AY.J1 at j;cases t with
     |true=>cases j;cases m
     |false=>exact⟨rfl,j⟩
    have key:(1<=x.Bq/\x.Bq<=4)/\(i:Int)+x.Bq<=l.length/\AY.DF (AY.Aa l n) i l names x BW x 0=some f:=by
     rw[B9 (n:=(l.length:Int)-i) ah ah]at h;split at h
     . exact absurd (J _ h).1 ak
     . rename_i w;split at h
       . exact absurd (J _ h).1 ak
       . rename_i y;split at h
         . exact absurd (J _ h).1 ak
         . obtain⟨H,I⟩:=J _ h;simp at w y H;exact⟨ah,ah,I⟩
    obtain⟨u,F,G⟩:=key;obtain⟨a,r⟩:=cells_in E u F m BW 0 x rfl ah G;by_cases q:(b:Int)<i+x.Bq
    . obtain⟨d,d1,z,p⟩:=a (b-i) ah ah;rw[show i+(b-i)=b from by omega,v]at d1;cases d1;have:b=i:=ah;subst this;rw[o]at v;cases v;refine⟨u,λk D=> ?_⟩;obtain⟨d,d1,z,p⟩:=a k ah D;exact⟨d,d1,by rw[p];exact g⟩
    . rw[show(i:Int)+x.Bq=((i+x.Bq.toNat:Nat):Int)from by omega]at r;exact ih (i+x.Bq.toNat) _ an ah r b c ah v s g
theorem uQ(f:Ce w=true)(h:RG w i o):(1<=o/\o<=4)/\∀k,0<=k->k<o->∃d,gt w.Cells (i+k)=some d/\d.Bq≠0:=by
 have n:=(DX f).c;obtain⟨x,a,b,p,hn⟩:=h;have s:0<=i:=by
  unfold gt at a;split at a
  . assumption
  . cases a
 obtain⟨m,rfl⟩:∃m:Nat,i=m:=⟨i.toNat,ah⟩;rw[JI]at a;have l:∃v,AY w.Cells=some v/\v.2=true:=by
  unfold Ce at f;cases hv:AY w.Cells with
  |none=>simp_all
  |some v=>simp_all
 obtain⟨v,q,r⟩:=l;obtain⟨e,g⟩:=vM n r BW 0 [] ak ah q m x ah a b p;rw[hn]at e g;refine⟨e,λk t u=> ?_⟩;obtain⟨j,rfl⟩:∃j:Nat,k=j:=⟨k.toNat,ah⟩;rw[show(m:Int)+j=((m+j:Nat):Int)from by omega,JI];grind
structure FT (c:BT) (s:Al):Prop where
 v:VC c
 f:GQ c.World s.Sync=true
 c':s.Cells.length=c.World.Cells.length
 u:s.AK.length=c.World.AK.length
 n:s.AA.length=c.AA.length
 t:∀(i:Nat) x y,s.AA[i]? =some x->c.AA[i]? =some y->(0<=x.PC/\x.PC<y.Br.length)/\(x.Ck.length:Int)=y.Ck/\(x.Cd.length:Int)=y.Ck
theorem fits_tot(l:CK c)(s:Al):CD (Ej c s) λb=>b=true->FT c s:=by
 have N:∀{u:Prop},CD (some false) λb:Bool=>b=true->u:=tR λh=>by cases h
 have hn:=l.n;have j1:∀b,(b=false->VC c/\GQ c.World s.Sync=true/\s.Cells.length=c.World.Cells.length/\s.AK.length=c.World.AK.length/\s.AA.length=c.AA.length)->CD (Ej.J1 c s b) λb=>b=true->FT c s:=by
  intro b p;unfold Ej.J1;refine tI (λ_=>N) λm=> ?_;obtain⟨d,e,f,g,o⟩:=p m;refine Pw c.AA.length (λi (_:Unit)=>∀(j:Nat) x y,j<i->s.AA[j]? =some x->c.AA[j]? =some y->(0<=x.PC/\x.PC<y.Br.length)/\(x.Ck.length:Int)=y.Ck/\(x.Cd.length:Int)=y.Ck) (s0:=()) (F:=λn _ i=>Ej.Aa c s n i) ah (λj _ _ h=>ah) λn i _ hi q k=> ?_;unfold Ej.Aa Ej.L1 Ej.J2 Ej.J3;refine tD (λ_=>bR ah (tD (λ_=>tI (λ_=>N) λh=>by cases h) λz=>bR ah (tD (λ_=>tI (λ_=>N) λh=>by cases h) λB=>tI (λ_=>tI (λ_=>N) λh=>by cases h) λC=>tI (λ_=>N) λD=>k () ah ?_))) λ_=>tR λ_=>⟨d,e,f,g,o,λj x y r t=>q j x y ?_ r t⟩
  . grind
  . grind
 unfold Ej;refine tB (P7 l) λv a=>tI (λ_=>j1 _ λh=>by cases h) λh=> ?_;have a:=a bg;refine tE (LN _ (DX a.w) _) (tI (λ_=>j1 _ λh=>by cases h) λd=>tI (λ_=>j1 _ λh=>by cases h) λe=>tI (λ_=>j1 _ λh=>by cases h) λf=>j1 _ λg=>⟨a,am,?_,?_,?_⟩)
 all_goals grind
theorem Zm(i n:Int):CD (Gc i n) λv=>1<=n/\n<=4->0<=v/\v<n:=by
 unfold Gc Gc.J1;refine tD (λ_=>tR ah) λh=>tC ah (tD (λa=>tR λb=> ?_) λa=>tR λb=> ?_)
 . have:=Int.lt_tmod_of_pos i (show 0<n by omega);rw[B9 ah ah];omega
 . have:=Int.tmod_lt_of_pos i (show 0<n by omega);omega
def kindL:List Int:=[3,3,4,4,5,6,7,8,9,10,11,12,13,14,15,16,18,19,20,21,22,23,2]
def KO(o k:Int):Prop:=((k=3->o=6\/o=7)/\(k=4->o=8\/o=9)/\(k=5->o=10)/\(k=22->o=26)/\(k=23->o=27)/\(k=2↔o=28)/\(k=16->o=21)/\k≠1/\k≠17)/\(o=7->k=3)/\(o=9->k=4)/\(o=10->k=5)/\(o=8->k=4)/\(o=26->k=22)
instance  (o k:Int):Decidable (KO o k):=by unfold KO;infer_instance
theorem jY:∀n:Fin 23,KO ((n.1:Int)+6) kindL[n.1]:=aS
theorem kind_tot(h:1<=o/\o<=28):CD (Hk o) λk=>k=0\/KO o k:=by
 unfold Hk Hk.J1;refine tD (λ_=>tI (λ_=>tR (.inl rfl)) λh=>by cases h) λb=>tD ck λ_=> ?_;rw[B9 ah ah];obtain⟨n,hn⟩:∃n:Nat,o-6=n:=⟨(o-6).toNat,ah⟩;rw[hn];have a:n<23:=ah
 refine bR (l:=kindL) a (tR (.inr ?_))
 have:=jY ⟨n,a⟩;grind
theorem qA{t:AM}(d:x.Op=7\/x.Op=9->0<=x.C/\x.C<t.Ck.length):
 CD (E8 x t) λo=>(x.Op=7->∃v,o=BA (x.B+v)/\(1<=x.N/\x.N<=4->0<=v/\v<x.N))/\(x.Op=9->∃v,o=BA (x.A+v)/\(1<=x.N/\x.N<=4->0<=v/\v<x.N)):=by
 have T:∀{o:i6},TT o->x.Op≠7->x.Op≠9->CD o λo=>(x.Op=7->∃v,o=BA (x.B+v)/\(1<=x.N/\x.N<=4->0<=v/\v<x.N))/\(x.Op=9->∃v,o=BA (x.A+v)/\(1<=x.N/\x.N<=4->0<=v/\v<x.N)):=λh a b=>tM h λ_ _=>⟨λh=>absurd h a,λh=>absurd h b⟩;have j1:∀b,(b=true->x.Op≠7/\x.Op≠9)->CD (E8.J1 x t b) λo=>(x.Op=7->∃v,o=BA (x.B+v)/\(1<=x.N/\x.N<=4->0<=v/\v<x.N))/\(x.Op=9->∃v,o=BA (x.A+v)/\(1<=x.N/\x.N<=4->0<=v/\v<x.N)):=by
  intro b e;unfold E8.J1 E8.J2;refine tI (λh=>T (tR trivial) (e h).1 (e h).2) λ_=>tI (λh=>tG (d (.inl (eq_of_beq h))) λ_ _=>tB (Zm _ _) λv c=>tR ⟨λ_=>⟨v,rfl,c⟩,λf=> ?_⟩) λg=>tI (λh=>tG (d (.inr (eq_of_beq h))) λ_ _=>tB (Zm _ _) λv c=>tR ⟨λf=> ?_,λ_=>⟨v,rfl,c⟩⟩) λj=>T ?_ am am
  . simp_all
  . simp_all
  . repeat' first|exact tR trivial|refine tI (λ_=> ?_) λ_=> ?_
 unfold E8;grind
def rJ(e:AG):Prop:=e.Dw.length<=100000/\e.DM.length<=100000
structure PI (w:AD) (x:AM) (y:Az) (z:Ad) (q:AH) (e:AG):Prop where
 a:e.Kind=3\/e.Kind=23\/e.Kind=5->0<=z.A/\z.A<y.Ck
 b:e.Kind=4\/e.Kind=22->0<=z.B/\z.B<y.Ck
 d:e.Dw=[]\/e.Dw∈x.Cd/\(e.Kind=5\/(e.Kind=3\/e.Kind=4)/\(ix w.Cells e.Obj).Bq≠0)
 r:e.DM=[]\/e.DM∈x.Cd/\(e.Kind=4\/e.Kind=22)
 s:e.Kind=1/\e.Site= -1\/(q.Status=4/\e.Kind=17\/q.Status=2/\(e.Kind=2↔z.Op=28)/\e.Kind≠1/\e.Kind≠17/\(e.Kind=16->z.Op=21))/\e.Site=z.Site
 j:e.Kind=5->z.Op=10
structure PE (c:BT) (s:Al) (th:Int) (e:AG):Prop where
 f:FT c s
 t:0<=th/\th<c.AA.length
 l:rJ e
 h:e.Thread=th
 i:∀x y z q,s.AA[th.toNat]? =some x->c.AA[th.toNat]? =some y->y.Br[x.PC.toNat]? =some z->s.Sync.AA[th.toNat]? =some q->PI c.World x y z q e
theorem sC[Inhabited a]{l:List a}{x:a}(h:gt l i=some x):ix l i=x:=by
 unfold gt at h;split at h
 . unfold ix;rw[h];rfl
 . cases h
variable{s:Al}
theorem fV(hc:CK c)(hs:∀t∈s.AA,TH E t)(hE:E<=100000)(th:Int):CD (Cj c s th) λr=>r.2=true->PE c s th r.1:=by
 have N:∀{x} {P:AG×Bool->Prop},CD (some (x,false)) λr:AG×Bool=>r.2=true->P r:=tR λh=>by cases h
 have j1:∀b,(b=false->FT c s/\0<=th/\th<c.AA.length)->CD (Cj.J1 c s th b) λr=>r.2=true->PE c s th r.1:=by
  intro b L;unfold Cj.J1;refine tI (λ_=>N) λh0=> ?_;obtain⟨G,ht⟩:=L h0;obtain⟨_,_,l3⟩:=D9 G.f;have hn:=G.n;have hn2:=G.v.n;obtain⟨x,x1,x2,x3⟩:=Hh (l:=s.AA) (i:=th) ah;obtain⟨y,y1,y2,y3⟩:=Hh (l:=c.AA) (i:=th) ah;obtain⟨p1,p2,p3⟩:=G.t _ x y x2 y2;obtain⟨z,z1,z2,z3⟩:=Hh (l:=y.Br) (i:=x.PC) ah;obtain⟨q,q1,q2,q3⟩:=Hh (l:=s.Sync.AA) (i:=th) ah;have S:=(G.v.t _ y y2).i z z3;have ho:=S.o;have p:=S.g;have W:=hs x x3;have J:∀q∈x.Cd,q.length<=100000:=λq u=>by have:=(W.b q u).len W.e.1;have:=W.e.2;omega
  refine tE x1 (tE y1 (tE z1 (tE q1 ?_)));have I:∀e:AG,rJ e->e.Thread=th->PI c.World x y z q e->PE c s th e:=by intro e j m K;refine⟨G,ht,j,m,λx' y' z' q' K4 O Q M=> ?_⟩;rw[x2]at K4;rw[y2]at O;rw[q2]at M;obtain rfl:=AAG K4;obtain rfl:=AAG O;obtain rfl:=AAG M;rw[z2]at Q;obtain rfl:=AAG Q;exact K
  refine tI (λ_=>tR λ_=>I _ ⟨ak,ak⟩ rfl ⟨ak,ak,.inl rfl,.inl rfl,.inl ⟨rfl,rfl⟩,ak⟩) λ_=>tI (λh=>tR λ_=>I _ ⟨ak,ak⟩ rfl ⟨ak,ak,.inl rfl,.inl rfl,.inr ⟨.inl ⟨eq_of_beq h,rfl⟩,rfl⟩,ak⟩) λ_=>tI (λT=> ?_) λ_=>N;have T:=eq_of_beq T;refine tB (kind_tot ho) λk V=> ?_;have hC:z.Op=7\/z.Op=9->0<=z.C/\z.C<y.Ck:=by
   rintro(h|h)
   . simp[rg7 h]at p;omega
   . simp[rg9 h]at p;omega
  have hB:z.Op=8\/z.Op=9\/z.Op=26->0<=z.B/\z.B<y.Ck:=by
   rintro(h|h|h)
   . simp[rg8 h]at p;omega
   . simp[rg9 h]at p;omega
   . simp[rg26 h]at p;omega
  have hA:z.Op=6\/z.Op=7\/z.Op=10\/z.Op=27->0<=z.A/\z.A<y.Ck:=by
   rintro(h|h|h|h)
   . simp[rg6 h]at p;omega
   . simp[rg7 h]at p;omega
   . simp[rg10 h]at p;omega
   . simp[rg27 h]at p;omega
  refine tB (qA λh=>ah) λo H=>tI (λ_=>N) λpH=> ?_;have V:=V.resolve_left am;obtain⟨⟨a1,a2,a3,a4,a5,a6,a7,a8,a9⟩,b1,b2,b3,b4,b5⟩:=V;have U:z.Op=7\/z.Op=9->(k=3\/k=4)/\(ix c.World.Cells o).Bq≠0:=by
   have key:∀b v,RG c.World b z.N->o=BA (b+v)->(1<=z.N/\z.N<=4->0<=v/\v<z.N)->(ix c.World.Cells o).Bq≠0:=by
    intro b v j m K;obtain⟨n1,n2⟩:=uQ G.v.w j;obtain⟨d,d1,d2⟩:=n2 v (K n1).1 (K n1).2;have hd:=d1;unfold gt at hd;split at hd
    . have:=(AAE.1 hd).1
      have:=(DX G.v.w).c;rw[m,B9 ah ah,sC d1];exact d2
    . cases hd
   rintro(h|h)
   . obtain⟨v,v1,v2⟩:=H.1 h;exact⟨.inl (b1 h),key _ v (S.a.1 h) v1 v2⟩
   . obtain⟨v,v1,v2⟩:=H.2 h;exact⟨.inr (b2 h),key _ v (S.a.2 h) v1 v2⟩
  have mk:∀D F,(D=[]\/D∈x.Cd/\(k=5\/(k=3\/k=4)/\(ix c.World.Cells o).Bq≠0))->(F=[]\/F∈x.Cd/\(k=4\/k=22))->D.length<=100000->F.length<=100000->PE c s th ⟨th,k,o,0,z.Site,D,F⟩:=
   λD F j m K h4=>I _ ⟨K,h4⟩ rfl ⟨λh=>hA bg,λh=>hB bg,j,m,.inr ⟨.inr ⟨T,a6,a8,a9,a7⟩,rfl⟩,a3⟩
  have X:∀D,(D=[]\/D∈x.Cd/\(k=5\/(k=3\/k=4)/\(ix c.World.Cells o).Bq≠0))->D.length<=100000->CD (Cj.J3 x z ⟨th,k,o,0,z.Site,D,[]⟩) λr=>r.2=true->PE c s th r.1:=by
   intro D j m;have Z:∀b,(b=true->z.Op=8\/z.Op=9\/z.Op=26)->CD (Cj.J4 ⟨th,k,o,0,z.Site,D,[]⟩ x z b) λr=>r.2=true->PE c s th r.1:=by
    intro b L;unfold Cj.J4 Cj.J5;refine tI (λh=>tG am λq u=> ?_) λ_=>tR λ_=>mk _ _ j (.inl rfl) m ak;have R:=J q u;refine tC (Bm an) (tR λ_=>mk _ _ j (.inr ⟨am,?_⟩) m am)
    have:=L h;omega
   unfold Cj.J3;exact tI (λh=>Z _ λ_=>.inl (eq_of_beq h)) λ_=>tI (λh=>Z _ λ_=>.inr (.inl (eq_of_beq h))) λ_=>Z _ λh=>.inr (.inr (eq_of_beq h))
  have j2:∀b,(b=true->z.Op=7\/z.Op=9)->CD (Cj.J2 th k o x z b) λr=>r.2=true->PE c s th r.1:=by intro b h;unfold Cj.J2;refine tI (λL=>tG am λq u=> ?_) λ_=>X _ (.inl rfl) ak;have R:=J q u;exact tC (Bm ah) (X _ (.inr ⟨u,.inr (U (h L))⟩) R)
  refine tI (λh=>tG am λq u=> ?_) λ_=>tI (λh=>j2 _ λ_=>.inl (eq_of_beq h)) λ_=>j2 _ λh=>.inr (eq_of_beq h);have R:=J q u;exact tC (Bm ah) (X _ (.inr ⟨u,.inl (b3 (eq_of_beq h))⟩) R)
 unfold Cj;refine tB (fits_tot hc s) λv hv=>tI (λ_=>j1 _ λh=>by cases h) λh=>tD (λ_=>j1 _ λh=>by cases h) λj=>j1 _ λm=>⟨hv bg,ah,?_⟩;simp_all
def SI(N:Nat)(s:Al):Prop:=RB N s.Sync/\∀t∈s.AA,TH N t
theorem TH.mono{t:AM}(h:TH E t)(a:E<=k):TH k t:=⟨h.r,h.t,h.b,h.e.1,by have:=h.e.2;omega⟩
theorem Copy9_eq(h:∀t∈s.AA,TH E t)(b:E<=100000)(c:VL s.Sync)(e:s.Cells.length<=1000)(g:s.AK.length<=1000)(f:s.AA.length<=1000):Fg s=some s:=by
 have key:CD (Fg s) λr=>r=s:=by unfold Fg;refine tE (rF _ c) (tC (Bm ah) (tC (Bm ah) (Pw s.AA.length (λi o=>o=⟨s.Sync,s.Cells,s.AK,s.AA.take i⟩) (F:=λn o i=>Fg.Aa s n o i) ah rfl λn i o hi d k=> ?_)));subst d;unfold Fg.Aa Fg.L1 Fg.J1;refine tD (λ_=>bR ah ?_) λ_=>tR (by rw[AAq (by omega)]);exact tE (fQ (h _ (AAS ah)) b) (tC (Bm an) (k _ ah am))
 obtain⟨r,a,rfl⟩:=key;exact a
structure SR (c:BT) (s:Al) (ch:C5) (s':Al) (e:AG):Prop where
 p:PE c s ch.Thread e
 en:Bx c.World s.Sync ch.Thread e.Kind e.Obj=true
 sy:s'.Sync=(DH c.World s.Sync ch.Thread e.Kind e.Obj ch.UB).1
 va:(e.Kind=3->gt s.Cells e.Obj=some e.Value)/\(e.Kind=23->gt s.AK e.Obj=some e.Value)/\(e.Kind=5->e.Value=0\/e.Value=1)/\(e.Kind≠3->e.Kind≠23->e.Kind≠5->e.Kind≠4->e.Kind≠22->e.Value=(DH c.World s.Sync ch.Thread e.Kind e.Obj ch.UB).2)
 ce:s'.Cells=if e.Kind=4 then s.Cells.set e.Obj.toNat e.Value else s.Cells
 fu:s'.AK=if e.Kind=22 then s.AK.set e.Obj.toNat e.Value else s.AK
 th:∃x x',s.AA[ch.Thread.toNat]? =some x/\s'.AA=s.AA.set ch.Thread.toNat x'/\(e.Kind=16->x'.PC=x.PC)/\(x'=P5\/x'.AE=x.AE+1/\∀l∈x'.Cd,∀k∈l,(∃m∈x.Cd,k∈m)\/k=x.AE/\(e.Kind=3\/e.Kind=23))
theorem uI(hc:CK c)(O:SI E s)(hE:E<=10000)(g:C5):CD (DK c s g) λr=>r.2.2=true->(SI (E+1) r.1/\rJ r.2.1)/\SR c s g r.1 r.2.1:=by
 obtain⟨hr,O⟩:=O;have N:∀{x y} {P:Al×AG×Bool->Prop},CD (some (x,y,false)) λr:Al×AG×Bool=>r.2.2=true->P r:=tR λh=>by cases h
 unfold DK;refine tB (fV hc O ah g.Thread) λv hv=>tI (λ_=>N) λh=> ?_;have hv:=hv (by simpa using h);obtain⟨D,ht,J,hh,hi⟩:=hv;have S:=DX D.v.w;have w1:=S.c;have w2:=S.f;have w3:=S.t;have c1:=D.c';have c2:=D.u;have c3:=D.n;have c4:=D.v.n;refine tE (NT _ S _ (hr.mono ah) _ _ _ _) (tI (λ_=>N) λB=> ?_);have M:Bx c.World s.Sync g.Thread v.1.Kind v.1.Obj=true:=by
  cases I:Bx c.World s.Sync g.Thread v.1.Kind v.1.Obj with
  |true=>rfl
  |false=>simp[NA,I]at B
 have Z:Bi c.World v.1.Kind v.1.Obj=true:=by have M:=M;unfold Bx at M;simp only[AAD]at M;exact M.2.2.1
 have hap:NA c.World s.Sync g.Thread v.1.Kind v.1.Obj g.UB=((DH c.World s.Sync g.Thread v.1.Kind v.1.Obj g.UB).1,(DH c.World s.Sync g.Thread v.1.Kind v.1.Obj g.UB).2,true):=by simp[NA,M]
 rw[hap];have hR:=hr.apply c.World g.Thread v.1.Kind v.1.Obj g.UB;refine tE (Copy9_eq O ah (VL.of S D.f (hr.mono ah)) ah ah ah) ?_;obtain⟨x,x1,x2,x3⟩:=Hh (l:=s.AA) (i:=g.Thread) ah;obtain⟨y,y1,y2,y3⟩:=Hh (l:=c.AA) (i:=g.Thread) ah;obtain⟨p1,p2,p3⟩:=D.t _ x y x2 y2;obtain⟨z,z1,z2,z3⟩:=Hh (l:=y.Br) (i:=x.PC) ah;obtain⟨q,q1,q2,q3⟩:=Hh (l:=s.Sync.AA) (i:=g.Thread) (by have:=(D9 D.f).2.2;omega);have iA:=(hi x y z q x2 y2 z2 q2).a;have iB:=(hi x y z q x2 y2 z2 q2).b;have K:=O x x3;refine tE x1 (tE y1 (tE z1 ?_));have hpe:∀val,PE c s g.Thread ⟨v.1.Thread,v.1.Kind,v.1.Obj,val,v.1.Site,v.1.Dw,v.1.DM⟩:=λval=>⟨D,ht,J,hh,λx y z q a b c d=>by have h:=hi x y z q a b c d;exact⟨h.a,h.b,h.d,h.r,h.s,h.j⟩⟩;generalize H:DH c.World s.Sync g.Thread v.1.Kind v.1.Obj g.UB=ap at hR |-
 let VAC:Int->List Int->List Int->Prop:=λval C F=>((v.1.Kind=3->gt s.Cells v.1.Obj=some val)/\(v.1.Kind=23->gt s.AK v.1.Obj=some val)/\(v.1.Kind=5->val=0\/val=1)/\(v.1.Kind≠3->v.1.Kind≠23->v.1.Kind≠5->v.1.Kind≠4->v.1.Kind≠22->val=ap.2))/\C=(if v.1.Kind=4 then s.Cells.set v.1.Obj.toNat val else s.Cells)/\F=(if v.1.Kind=22 then s.AK.set v.1.Obj.toNat val else s.AK)
 let TX:AM->Prop:=λt=>t=P5\/t.AE=x.AE+1/\∀l∈t.Cd,∀k∈l,(∃m∈x.Cd,k∈m)\/k=x.AE/\(v.1.Kind=3\/v.1.Kind=23)
 have j6:∀val C F t,VAC val C F->TX t->(v.1.Kind=16->t.PC=x.PC)->TH (E+1) t->CD (DK.J6 g ⟨v.1.Thread,v.1.Kind,v.1.Obj,val,v.1.Site,v.1.Dw,v.1.DM⟩ C F (ap.1,ap.2,true) s t) λr=>r.2.2=true->(SI (E+1) r.1/\rJ r.2.1)/\SR c s g r.1 r.2.1:=by
  intro val C F t p B X h4;unfold DK.J6;refine tE x1 (tR λ_=>⟨⟨⟨hR,?_⟩,J⟩,hpe val,M,by rw[H],?_,p.2.1,p.2.2,x,t,x2,rfl,X,B⟩)
  . intro q G;rcases AAh G with G|rfl
    . exact(O q G).mono ah
    . exact h4
  . rw[H];exact p.1
 have W:BA (x.AE+1)=x.AE+1:=by have:=K.e;exact B9 ah ah
 have j5:∀val n C F t b,VAC val C F->(v.1.Kind=16->n=x.PC/\b=false)->t.AE=x.AE->(∀l∈t.Cd,∀k∈l,(∃m∈x.Cd,k∈m)\/k=x.AE/\(v.1.Kind=3\/v.1.Kind=23))->TH (E+1) ⟨0,t.Ck,t.Cd,BA (t.AE+1)⟩->
  CD (DK.J5 c g ⟨v.1.Thread,v.1.Kind,v.1.Obj,val,v.1.Site,v.1.Dw,v.1.DM⟩ n C F t (ap.1,ap.2,true) s b) λr=>r.2.2=true->(SI (E+1) r.1/\rJ r.2.1)/\SR c s g r.1 r.2.1:=by
  intro val n C F t b p hn I R B;unfold DK.J5;have X:∀n,TH (E+1) ⟨n,t.Ck,t.Cd,BA (t.AE+1)⟩:=λn=>⟨B.r,B.t,B.b,B.e⟩;refine tI (λo=>tE y1 (tB (mW (X n) R ah (hc.i y y3)) λu hu=>j6 _ _ _ _ p ?_ (λh=>by rw[(hn h).2]at o;cases o) hu.1)) λ_=>j6 _ _ _ _ p (.inr ⟨by rw[I,W],R⟩) (λh=>(hn h).1) (X n);exact hu.2.imp id λh=>⟨by rw[h.1,I,W],h.2⟩
 have j3:∀val n C F b,VAC val C F->(v.1.Kind=16->n=x.PC)->(b=true->(v.1.Kind=3\/v.1.Kind=23))->CD (DK.J3 c g ⟨v.1.Thread,v.1.Kind,v.1.Obj,val,v.1.Site,v.1.Dw,v.1.DM⟩ n C F (ap.1,ap.2,true) s x z b) λr=>r.2.2=true->(SI (E+1) r.1/\rJ r.2.1)/\SR c s g r.1 r.2.1:=by
  intro val n C F b p hn B;unfold DK.J3 DK.J4;have I:=K.e;have T:∀{t},(∀l∈t.Cd,∀k∈l,(∃m∈x.Cd,k∈m)\/k=x.AE/\(v.1.Kind=3\/v.1.Kind=23))->t.AE=x.AE->TH (E+1) ⟨0,t.Ck,t.Cd,BA (t.AE+1)⟩->CD (if(v.1.Kind != 16)=true then DK.J5 c g ⟨v.1.Thread,v.1.Kind,v.1.Obj,val,v.1.Site,v.1.Dw,v.1.DM⟩ n C F t (ap.1,ap.2,true) s (v.1.Kind != 2)else DK.J5 c g ⟨v.1.Thread,v.1.Kind,v.1.Obj,val,v.1.Site,v.1.Dw,v.1.DM⟩ n C F t (ap.1,ap.2,true) s false) λr=>r.2.2=true->(SI (E+1) r.1/\rJ r.2.1)/\SR c s g r.1 r.2.1:=λR I hT=>
   tI (λh=>j5 _ _ _ _ _ _ p (λQ=>by rw[Q]at h;cases h) I R hT) λ_=>j5 _ _ _ _ _ _ p (λh=>⟨hn h,rfl⟩) I R hT
  refine tI (λo=> ?_) λ_=> ?_
  . have B:=B o;have hA:=iA ah;refine tG ah λ_ _=>tG ah λ_ _=>T ?_ rfl ?_
    . intro l J k hk;rcases AAh J with J|rfl
      . exact .inl ⟨l,J,hk⟩
      . exact .inr ⟨AAl.1 hk,B⟩
    . simp only[W];refine⟨by simpa using K.r,by simpa using K.t,?_,aA⟩;intro q G;rcases AAh G with G|rfl
      . exact(K.b q G).mono aA
      . exact⟨ak,an⟩
  . refine T (λl J k hk=>.inl ⟨l,J,hk⟩) rfl ?_;simp only[W];exact⟨K.r,K.t,λq G=>(K.b q G).mono aA,aA⟩
 have L:∀C F val n,VAC val C F->(v.1.Kind=16->n=x.PC)->CD (DK.J2 c g (ap.1,ap.2,true) s x z C F ⟨v.1.Thread,v.1.Kind,v.1.Obj,val,v.1.Site,v.1.Dw,v.1.DM⟩ n) λr=>r.2.2=true->(SI (E+1) r.1/\rJ r.2.1)/\SR c s g r.1 r.2.1:=by intro C F val n p hn;unfold DK.J2;exact tI (λh=>j3 _ _ _ _ _ p hn λ_=>.inl (eq_of_beq h)) λ_=>j3 _ _ _ _ _ p hn λh=>.inr (eq_of_beq h)
 have j1:∀b,(b=true->v.1.Kind=1\/v.1.Kind=16\/v.1.Kind=2)->(b=false->v.1.Kind≠16)->CD (DK.J1 c g v (ap.1,ap.2,true) s x z b) λr=>r.2.2=true->(SI (E+1) r.1/\rJ r.2.1)/\SR c s g r.1 r.2.1:=by
  intro b o hb2;unfold DK.J1;refine tI (λh=>L _ _ _ _ ⟨⟨by have:=o h;omega,by have:=o h;omega,by have:=o h;omega,λ_ _ _ _ _=>rfl⟩,by rw[AAK (by have:=o h;omega)],by rw[AAK (by have:=o h;omega)]⟩ λ_=>rfl) λh0=>tI (λh=> ?_) λn3=>tI (λh=> ?_) λV=>tI (λh=> ?_) λn4=>tI (λh=> ?_) λU=>tI (λh=> ?_) λn5=> ?_
  . have h:=eq_of_beq h
    have:=BF.1 (show Cu v.1.Obj c.World.Cells.length=true by simpa[Bi,h]using Z);obtain⟨d,d1,_⟩:=Hh (l:=s.Cells) (i:=v.1.Obj) ah;exact tE d1 (L _ _ _ _ ⟨⟨λ_=>d1,ah,ah,ah⟩,by rw[AAK ah],by rw[AAK ah]⟩ ah)
  . have h:=eq_of_beq h
    have:=BF.1 (show Cu v.1.Obj c.World.AK.length=true by simpa[Bi,h]using Z);obtain⟨d,d1,_⟩:=Hh (l:=s.AK) (i:=v.1.Obj) ah;exact tE d1 (L _ _ _ _ ⟨⟨ah,λ_=>d1,ah,ah⟩,by rw[AAK ah],by rw[AAK ah]⟩ ah)
  . have h:=eq_of_beq h
    have:=BF.1 (show Cu v.1.Obj c.World.Cells.length=true by simpa[Bi,h]using Z);have o:=iB (.inl h);exact tG ah λ_ _=>tG ah λ_ _=>L _ _ _ _ ⟨⟨ah,ah,ah,ah⟩,by rw[AAL h],by rw[AAK ah]⟩ ah
  . have h:=eq_of_beq h
    have:=BF.1 (show Cu v.1.Obj c.World.AK.length=true by simpa[Bi,h]using Z);have o:=iB (.inr h);exact tG ah λ_ _=>tG ah λ_ _=>L _ _ _ _ ⟨⟨ah,ah,ah,ah⟩,by rw[AAK ah],by rw[AAL h]⟩ ah
  . have h:=eq_of_beq h;have o:=iA (.inr (.inr h));exact tG ah λ_ _=>tI (λ_=>L _ _ _ _ ⟨⟨ah,ah,λ_=>.inl rfl,ah⟩,by rw[AAK ah],by rw[AAK ah]⟩ ah) λ_=>L _ _ _ _ ⟨⟨ah,ah,λ_=>.inr rfl,ah⟩,by rw[AAK ah],by rw[AAK ah]⟩ ah
  . simp only[ABI,ne_eq]at n3 V n4 U n5;exact L _ _ _ _ ⟨⟨λh=>absurd h n3,λh=>absurd h V,λh=>absurd h n5,λ_ _ _ _ _=>rfl⟩,by rw[AAK n4],by rw[AAK U]⟩ λh=>absurd h (hb2 h0)
 exact tI (λh=>j1 _ (λ_=>.inl (eq_of_beq h)) λQ=>by rw[Q]at h;cases h) λ_=>tI (λh=>j1 _ (λ_=>.inr (.inl (eq_of_beq h))) λQ=>by rw[Q]at h;cases h) λn16=>j1 _ (λh=>.inr (.inr (eq_of_beq h))) λ_=>by simpa using n16
structure TM (n:Nat) (t:CC):Prop where
 n:t.AE.length<=n
 e:∀e∈t.AE,rJ e
 w:t.AE≠[]->Ce t.World=true
theorem rJ.ok{e:AG}(h:rJ e):I6 e:=⟨by have:=h.1;omega,by have:=h.2;omega⟩
variable{z:AH->AH}{q:AH}
theorem getT{s:AP}(hi:0<=i/\i<s.AA.length)(h:(KH s i z).AA[u]? =some q):(u:Int)=i/\q=z (ix s.AA i)\/(u:Int)≠i/\s.AA[u]? =some q:=by unfold KH at h;grind
theorem sV[Inhabited a]{l:List a}{x:a}(h:l[u]? =some x)(hi:(u:Int)=i):ix l i=x:=by subst hi;unfold ix;simp[h]
variable{t:Int}
theorem yP{s:AP}{k:Int}(h:Bx w s t k o=true)(a:k≠1)(b:k≠17):(ix s.AA t).Status=2:=by unfold Bx I0 at h;grind
variable{wake:Int}
theorem Nn(h:W≠[]):Es wake W∈W:=by
 unfold Es;rw[AAK h];split
 . simp_all
 . cases W with
   |nil=>simp_all
   |cons a r=>simp
theorem q9(o:Int)(T:ep):∀(i:Nat)(u:Int),u∈CQ o i T->∃x,T[(u-i).toNat]? =some x/\x.Status=3:=by
 induction T with
 |nil=>intro i u h;cases h
 |cons x r ih=>
  intro i u h;unfold CQ at h;have key:u∈CQ o (i+1) r->∃y,(x::r)[(u-i).toNat]? =some y/\y.Status=3:=by intro h;have b:=(Ij o r (i+1) u h).1;obtain⟨y,y1,y2⟩:=ih (i+1) u h;refine⟨y,?_,y2⟩;rw[show(u-(i:Int)).toNat=(u-((i+1:Nat):Int)).toNat+1 from by omega,AAu];exact y1
  split at h
  . rename_i a;rcases AAn.1 h with rfl|h
    . refine⟨x,ak,?_⟩;unfold I3 at a;simp_all
    simp_all
  simp_all
theorem qY{s:AP}{k:Int}(h:Bx w s t k o=true)(c:(DH w s t k o wake).1.AA[u]? =some q):
 ((u:Int)=t->k=16\/q.Status=2\/q.Status=5)/\((u:Int)≠t->q.Status=1\/∃i,s.AA[u]? =some i/\(q=i\/i.Status=3/\q.Status=4)):=by
 have m:=λa b=>yP h (k:=k) a b;have D:=h;unfold Bx at D;simp only[AAD]at D;obtain⟨M,B,L,H⟩:=D;obtain⟨_,_,N⟩:=D9 M;have B:=BF.1 B;rw[<- N]at B
 -- a thread's own place
 have own:∀(j:AP)(f:AH->AH),j.AA=s.AA->(KH j t f).AA[u]? =some q->(k=16\/(f (ix s.AA t)).Status=2\/(f (ix s.AA t)).Status=5)->
  ((u:Int)=t->k=16\/q.Status=2\/q.Status=5)/\((u:Int)≠t->q.Status=1\/∃i,s.AA[u]? =some i/\(q=i\/i.Status=3/\q.Status=4)):=by
  intro j f F wv y;rcases getT (by rw[F];exact B) wv with⟨e,rfl⟩|⟨e,p⟩
  . rw[F];exact⟨λ_=>y,λh=>absurd e h⟩
  . rw[F]at p;exact⟨λh=>absurd h e,λ_=>.inr ⟨q,p,.inl rfl⟩⟩
 -- nobody's place
 have g:∀(T:ep),T=s.AA->T[u]? =some q->(ix s.AA t).Status=2->((u:Int)=t->k=16\/q.Status=2\/q.Status=5)/\((u:Int)≠t->q.Status=1\/∃i,s.AA[u]? =some i/\(q=i\/i.Status=3/\q.Status=4)):=by rintro _ rfl wv y;exact⟨λe=>.inr (.inl (by rw[sV wv e]at y;exact y)),λ_=>.inr ⟨q,wv,.inl rfl⟩⟩
 unfold DH at c;by_cases l:k=1
 . rw[AAL l]at c;exact own s _ rfl c (.inr (.inl rfl))
 rw[AAK l]at c;by_cases K:k=2
 . rw[AAL K]at c;exact own s _ rfl c (.inr (.inr rfl))
 rw[AAK K]at c;by_cases e:k=6\/k=10
 . rw[AAL e]at c;exact g _ rfl c (m l ah)
 rw[AAK e]at c;by_cases e:k=7\/k=11
 . rw[AAL e]at c;exact g _ rfl c (m l ah)
 rw[AAK e]at c;by_cases e:k=8
 . rw[AAL e]at c;exact g _ rfl c (m l ah)
 rw[AAK e]at c;by_cases e:k=9
 . rw[AAL e]at c;exact g _ rfl c (m l ah)
 rw[AAK e]at c;by_cases e:k=12
 . rw[AAL e]at c;exact g _ rfl c (m l ah)
 rw[AAK e]at c;by_cases e:k=13
 . rw[AAL e]at c;exact g _ rfl c (m l ah)
 rw[AAK e]at c;by_cases e:k=14
 . rw[AAL e]at c;exact own s _ rfl c (.inr (.inl (m l ah)))
 rw[AAK e]at c;by_cases e:k=15
 . rw[AAL e]at c;exact own s _ rfl c (.inr (.inl (m l ah)))
 rw[AAK e]at c;by_cases G:k=16
 . rw[AAL G]at c;exact own (KG s (ix w.Ai o).Mutex λx=>⟨-1,x.Ak⟩) _ rfl c (.inl G)
 rw[AAK G]at c;by_cases n:k=17
 . rw[AAL n]at c;exact own (KG s (ix w.Ai o).Mutex λx=>⟨t,x.Ak⟩) _ rfl c (.inr (.inl rfl))
 rw[AAK n]at c;have j:=m l n;by_cases e:k=18
 . rw[AAL e]at c;by_cases z:CQ o 0 s.AA=[]
   . rw[AAL z]at c;exact g _ rfl c j
   . rw[AAK z]at c;obtain⟨x,v,O⟩:=q9 o s.AA 0 _ (Nn (wake:=wake) z);have I:=Ij o s.AA 0 _ (Nn (wake:=wake) z);generalize Es wake (CQ o 0 s.AA)=d at c v I;have v:s.AA[d.toNat]? =some x:=(by simpa using v);have hd:ix s.AA d=x:=sV v ah;rcases getT (by simp at I;omega) c with⟨e,rfl⟩|⟨e,p⟩
     . refine⟨λh=> ?_,λ_=>.inr ⟨x,?_,.inr ⟨O,rfl⟩⟩⟩
       . rw[<- h,e,hd]at j;omega
       . rw[show u=d.toNat from by omega];exact v
     . exact g _ rfl p j
 rw[AAK e]at c;by_cases e:k=19
 . rw[AAL e]at c;have c:(s.AA.map (Iv o))[u]? =some q:=c;rw[AAN]at c;cases hx:s.AA[u]? with
   |none=>rw[hx]at c;cases c
   |some x=>
    rw[hx]at c;obtain rfl:=AAG c;unfold Iv;by_cases r:I3 x o=true
    . have:x.Status=3:=(by unfold I3 at r;simp only[AAD]at r;exact eq_of_beq r.1);rw[AAL r];refine⟨λe=> ?_,λ_=>.inr ⟨x,rfl,.inr ⟨this,rfl⟩⟩⟩;rw[sV hx e]at j;omega
    . rw[AAK r];exact⟨λe=>.inr (.inl (by rw[sV hx e]at j;exact j)),λ_=>.inr ⟨x,rfl,.inl rfl⟩⟩
 rw[AAK e]at c;by_cases C:k=20
 . rw[AAL C]at c;have J:Cu o w.AA.length=true:=(by simpa[Bi,C]using L);have E:o≠t:=(by simp[I0,C]at H;exact H.2.1);have J:=BF.1 J;rcases getT ah c with⟨e,rfl⟩|⟨e,p⟩
   . exact⟨λh=>absurd (e.symm.trans h) E,λ_=>.inl rfl⟩
   . exact g _ rfl p j
 rw[AAK C]at c;by_cases e:k=22
 . rw[AAL e]at c;exact g _ rfl c j
 . rw[AAK e]at c;exact g _ rfl c j
theorem Wt(wv:AD)(s:AP)(t k o wake:Int):(DH wv s t k o (if k=18 then(DH wv s t k o wake).2 else -1)).1=(DH wv s t k o wake).1:=by
 by_cases h:k=18
 . rw[AAL h,h];have key:∀w,(DH wv s t 18 o w)=(if CQ o 0 s.AA=[]then s else KH s (Es w (CQ o 0 s.AA)) IY,Es w (CQ o 0 s.AA)):=λw=>by simp[DH]
   rw[key,key];by_cases a:CQ o 0 s.AA=[]
   . simp[a]
   . have:=Nn (wake:=wake) a;simp only[a,AAT];rw[show Es (Es wake (CQ o 0 s.AA)) (CQ o 0 s.AA)=Es wake (CQ o 0 s.AA)from ?_];generalize Es wake (CQ o 0 s.AA)=d at this |-;unfold Es;simp_all
 . rw[AAK h];unfold DH;simp only[AAK h]
theorem nums_of(D:dc):∀a:Int,D.Pairwise (· < ·)->(∀k∈D,a<k/\k<i)->Fi i a D=true:=by
 induction D with
 |nil=>exactλ_ _ _=>rfl
 |cons x r ih=>intro a f b;obtain⟨g,h⟩:=List.pairwise_cons.1 f;have e:=b x ABD;unfold Fi;simp only[AAD,AAV];exact⟨e.1,e.2,ih x h λk d=>⟨g k d,(b k (ABN _ d)).2⟩⟩
theorem isIn_app{l:eb}{b:Bool}(h:JL l i=true):JL (l++[b]) i=true:=by
 unfold JL at h |-;simp only[AAD]at h |-;have hi:=BF.1 h.1;refine⟨BF.2 an,?_⟩
 have:=h.2;unfold ix at this |-;rw[AAg ah];exact this
theorem xK{l:eb}:JL (l++[true]) (l.length:Int)=true:=by unfold JL;simp only[AAD];exact⟨BF.2 an,by unfold ix;simp⟩
structure GT (pre:List AG) (u:Int) (cnt:Int) (x:AM):Prop where
 c:cnt=x.AE
 n:x.AE=((Hr pre u).length:Int)
 k:∀l∈x.Cd,∀k∈l,JL (Hr pre u) k=true/\1<=k
structure LK (c:BT) (pre:List AG) (S:AB) (s:Al):Prop where
 y:S.Sync=s.Sync
 ce:S.Cells=s.Cells
 f:S.AK=s.AK
 n:S.Count.length=c.World.AA.length
 t:∀(u:Nat) x y,s.AA[u]? =some x->c.AA[u]? =some y->y.Ck=0\/x=P5\/GT pre u (ix S.Count u) x
 w:∀(u:Nat) x y q,s.AA[u]? =some x->c.AA[u]? =some y->s.Sync.AA[u]? =some q->q.Status=3\/q.Status=4->∃z,gt y.Br x.PC=some z/\z.Op=21
 e:∀(u:Nat) x q,s.AA[u]? =some x->s.Sync.AA[u]? =some q->2<=q.Status->x=P5\/1<=x.AE
theorem apply_v0{s:AP}(c:i≠18)(d:i≠19):(DH w s t i o wake).2=0:=by
 have key:∀(P:Prop) [Decidable P] (a b:AP×Int),a.2=0->b.2=0->(if P then a else b).2=0:=λP _ a b e f=>by
  by_cases h:P
  . rw[AAL h];exact e
  . rw[AAK h];exact f
 unfold DH;rw[AAK c,AAK d]
 repeat' first|rfl|apply key
variable{s':Al}{m:dx}{B:AB}
theorem sim{g:C5}{e:AG}(hE:E<=10000)(L:SI E s)(p:LK c m B s)(hr:SR c s g s' e):
 HG c.World B e=true/\N8 m e=true/\LK c (m++[e]) (Ef c.World B e) s':=by
 obtain⟨hp,P,hsy,hva,hce,hfu,x,x',W,hth,h16,K4⟩:=hr;obtain⟨O,ht,_,U,hi⟩:=hp;have c1:=O.c';have c2:=O.u;have c3:=O.n;have c4:=O.v.n;have l3:=(D9 O.f).2.2;obtain⟨y,_,y2,_⟩:=Hh (l:=c.AA) (i:=g.Thread) ah;obtain⟨p1,p2,p3⟩:=O.t _ x y W y2;obtain⟨z,z1,z2,z3⟩:=Hh (l:=y.Br) (i:=x.PC) ah;obtain⟨q,_,q2,_⟩:=Hh (l:=s.Sync.AA) (i:=g.Thread) ah;have C:=hi x y z q W y2 z2 q2;have hz:=(O.v.t _ y y2).i z z3;have hx:=L.2 x (AAP W);have G:((g.Thread.toNat:Nat):Int)=g.Thread:=ah
 -- a thread with registers shows what its trace shows
 have hgt:y.Ck=0\/GT m g.Thread (ix B.Count g.Thread) x:=by
  rcases p.t _ x y W y2 with h|h|h
  . exact .inl h
  . rw[h]at p2;exact .inl p2.symm
  . rw[G]at h;exact .inr h
 have J:∀D,D=[]\/D∈x.Cd->Fi (ix B.Count e.Thread) 0 D=true/\D.all (JL (Hr m e.Thread))=true:=by
  rintro D (rfl|J)
  . exact⟨rfl,rfl⟩
  . rcases hgt with h|h
    . have:x.Cd.length=0:=ah;rw[List.length_eq_zero_iff.1 this]at J;cases J
    . rw[U];refine⟨nums_of D 0 (hx.b D J).1 λk V=>⟨by have:=(h.k D J k V).2;omega,?_⟩,AAH.2 λk V=>(h.k D J k V).1⟩;rw[h.c];exact((hx.b D J).2 k V).2
 have hdp:=J e.Dw (C.d.imp id λh=>h.1);have mE:=J e.DM (C.r.imp id λh=>h.1);have o:Bi c.World e.Kind e.Obj=true:=by have P:=P;unfold Bx at P;simp only[AAD]at P;exact P.2.2.1
 have UI:MY c.World e=true:=by
  unfold MY;have site:z.Op≠28->e.Site=z.Site->(Cu e.Site c.World.BU.length&&(ix c.World.BU e.Site).Thread==e.Thread)=true:=by
   intro Z I;have L:=hz.s;unfold Yj at L;rw[AAK Z,G]at L;obtain⟨b,X,b2⟩:=L;have S:=X;unfold gt at S;split at S
   . have:=(AAE.1 S).1;rw[I,sC X,b2,U];simp only[AAD,AA4,and_true];exact BF.2 ah
   . cases S
  rcases C.s with⟨k1,k2⟩|⟨⟨q4,k17⟩|⟨q2',k2,n1,n17,R⟩,F⟩
  . rw[AAL (.inl k1),k2];rfl
  . obtain⟨z',X,b2⟩:=p.w _ x y q W y2 q2 (.inr q4);rw[z1]at X;obtain rfl:=AAG X;rw[AAK ah];exact site ah F
  . by_cases I:e.Kind=2
    . have L:=hz.s;unfold Yj at L;rw[AAL (k2.1 I)]at L;rw[AAL (.inr I),F,L];rfl
    . rw[AAK ah];exact site (λh=>I (k2.2 h)) F
 have hdet:ES c.World B e=true:=by unfold ES;rw[hdp.1,mE.1];simp only[Bool.and_true,AAD,AAk];refine⟨C.d.imp (λh=>by rw[h];rfl) λh=>h.2.imp (λh=>by rw[h];rfl) λh=> ?_,C.r.imp (λh=>by rw[h];rfl) λh=>h.2.imp (λh=>by rw[h];rfl) λh=>by rw[h];rfl⟩;unfold OO;rw[AAL h.1];simpa using h.2
 have Bg:G9 B e=true:=by
  unfold G9;rw[p.ce,p.f,p.y];obtain⟨v1,v2,v3,v4⟩:=hva;by_cases k3:e.Kind=3
  . rw[AAL k3,sC (v1 k3)];simp
  rw[AAK k3];by_cases fL:e.Kind=23
  . rw[AAL fL,sC (v2 fL)];simp
  rw[AAK fL];by_cases k5:e.Kind=5
  . rw[AAL k5];rcases v3 k5 with h|h<;>rw[h]<;>rfl
  rw[AAK k5];by_cases k4:e.Kind=4\/e.Kind=22
  . rw[AAL k4]
  rw[AAK k4];have hv:=v4 k3 fL k5 ah ah;by_cases T:e.Kind=18
  . rw[AAL T];have:e.Value=Es g.UB (CQ e.Obj 0 s.Sync.AA):=(by rw[hv,T];simp[DH]);by_cases hW:CQ e.Obj 0 s.Sync.AA=[]
    . rw[this,hW];rfl
    . have hm:=Nn (wake:=g.UB) hW;rw[<- this]at hm;simp only[AAk];exact .inl (by simpa using hm)
  rw[AAK T];by_cases M:e.Kind=19
  . rw[AAL M,hv,M];simp[DH]
  rw[AAK M,hv];simp[apply_v0 T M]
 have Q:HG c.World B e=true:=by unfold HG IG;rw[p.y,p.ce,p.f,O.f,U,P,UI,hdet,Bg,p.n,c1,c2];simp only[AA4,Bool.and_true,AAY];exact BF.2 ah
 have K:N8 m e=true:=by unfold N8;rw[hdp.2,mE.2];rfl
 refine⟨Q,K,?_⟩;have hsy':(Ef c.World B e).Sync=s'.Sync:=by
  show(DH c.World B.Sync e.Thread e.Kind e.Obj (if e.Kind=18 then e.Value else -1)).1=_
  rw[p.y,hsy,U];by_cases T:e.Kind=18
  . have hv:=hva.2.2.2 ah ah ah ah ah
    have:=Wt c.World s.Sync g.Thread e.Kind e.Obj g.UB;rw[AAL T]at this |-;rw[hv];exact this
  . have:=Wt c.World s.Sync g.Thread e.Kind e.Obj g.UB;rw[AAK T]at this |-;exact this
 have H:∀(u:Nat) a,s'.AA[u]? =some a->(u:Int)=g.Thread/\a=x'\/(u:Int)≠g.Thread/\s.AA[u]? =some a:=by
  intro u a o;rw[hth]at o;by_cases j:(u:Int)=g.Thread
  . rw[show g.Thread.toNat=u from by omega,AAF ah]at o;exact .inl ⟨j,(AAG o).symm⟩
  . rw[AAI ah]at o;exact .inr ⟨j,o⟩
 have N:∀u:Nat,ix (Ef c.World B e).Count (u:Int)=if(u:Int)=g.Thread then BA (ix B.Count g.Thread+1)else ix B.Count u:=by
  intro u;show ix (B.Count.set e.Thread.toNat (BA (ix B.Count e.Thread+1))) u=_;rw[U];by_cases j:(u:Int)=g.Thread
  . rw[AAL j];have Dz:u<B.Count.length:=(by rw[p.n];omega);rw[show g.Thread.toNat=u from by omega];unfold ix;simp[Dz]
  . rw[AAK j];unfold ix;rw[AAI ah]
 have SF:∀u:Int,Hr (m++[e]) u=if g.Thread=u then Hr m u++[ZL e]else Hr m u:=λu=>by rw[Lm,U]
 have CP:∀(u:Nat) b,s'.Sync.AA[u]? =some b->((u:Int)=g.Thread->e.Kind=16\/b.Status=2\/b.Status=5)/\((u:Int)≠g.Thread->b.Status=1\/∃q,s.Sync.AA[u]? =some q/\(b=q\/q.Status=3/\b.Status=4)):=by intro u b S;rw[hsy]at S;exact qY P S
 refine⟨hsy',?_,?_,?_,?_,?_,?_⟩
 . rw[hce,<- p.ce];rfl
 . rw[hfu,<- p.f];rfl
 . show(B.Count.set _ _).length=_;rw[List.length_set];exact p.n
 . intro u a b o S;rcases H u a o with⟨j,rfl⟩|⟨j,o⟩
   . rw[show u=g.Thread.toNat from by omega,y2]at S;obtain rfl:=AAG S;rcases hgt with h|h
     . exact .inl h
     . rcases K4 with K4|⟨e1,e2⟩
       . exact .inr (.inl K4)
       . by_cases hR:y.Ck=0
         . exact .inl hR
         . refine .inr (.inr ⟨?_,?_,?_⟩)
           . rw[N,AAL j,h.c,e1]
             have:=hx.e;exact B9 ah ah
           . rw[SF,j,AAL rfl,e1,h.n];simp
           . intro l hl' k V;rw[SF,j,AAL rfl];rcases e2 l hl' k V with⟨pre,m1,m2⟩|⟨rfl,hk3⟩
             . exact⟨isIn_app (h.k pre m1 k m2).1,(h.k pre m1 k m2).2⟩
             . have hr:ZL e=true:=(by unfold ZL;rcases hk3 with h|h<;>simp[h]);rw[hr]
               have:=xK (l:=Hr m g.Thread);rw[<- h.n]at this;refine⟨this,?_⟩;have hq:2<=q.Status:=(by rcases C.s with⟨k1,_⟩|⟨⟨_,k17⟩|⟨q2',_⟩,_⟩<;>omega);rcases p.e _ x q W q2 hq with h0|h0
               . rw[h0]at p2;exact absurd p2.symm hR
               . exact h0
   . rcases p.t u a b o S with h|h|h
     . exact .inl h
     . exact .inr (.inl h)
     . refine .inr (.inr ⟨?_,?_,?_⟩)
       . rw[N,AAK j];exact h.c
       . rw[SF,AAK (λh=>j h.symm)];exact h.n
       . rw[SF,AAK (λh=>j h.symm)];exact h.k
 . intro u a b d o S hd hs34;rcases H u a o with⟨j,rfl⟩|⟨j,o⟩
   . rw[show u=g.Thread.toNat from by omega,y2]at S;obtain rfl:=AAG S;have R:e.Kind=16:=(by rcases(CP u d hd).1 j with h|h|h<;>omega);rw[h16 R];refine⟨z,z1,?_⟩;rcases C.s with⟨k1,_⟩|⟨⟨_,k17⟩|⟨_,_,_,_,h⟩,_⟩
     . omega
     . omega
     . exact h R
   . rcases(CP u d hd).2 j with h|⟨q',Z,I⟩
     . omega
     . refine p.w u a b q' o S Z ?_;rcases I with rfl|I
       . exact hs34
       . exact .inl I.1
 . intro u a d o hd I;rcases H u a o with⟨j,rfl⟩|⟨j,o⟩
   . rcases K4 with h|⟨e1,_⟩
     . exact .inl h
     . have:=hx.e;exact .inr ah
   . rcases(CP u d hd).2 j with h|⟨q',Z,h3⟩
     . omega
     . refine p.e u a q' o Z ?_;rcases h3 with rfl|h3<;>omega
theorem Ts(h:(JP w).AA[k]? =some q):q.Status=0\/q.Status=1:=by have h:=AAP h;unfold JP at h;grind
theorem uH(E:CK c)(b:Bz c=some true):CD (C0 c) λs=>SI 0 s/\LK c [] (Gx c.World) s:=by
 unfold C0;obtain⟨v,C,D⟩:=P7 E;rw[b]at C;have P:=D (AAG C).symm;rw[b,AAB];refine tI bk λ_=> ?_;have b:=P;have p:=DX b.w;have W:=p.c;have X:=p.f;have Z:=E.n;refine tE (Pp _ p) (Pw c.World.Cells.length (λi s=>s.Sync=JP c.World/\s.Cells=(c.World.Cells.take i).map (·.Init)/\s.AK=[]/\s.AA=[]) (F:=λn s i=>C0.Aa c n s i) ah ⟨rfl,rfl,rfl,rfl⟩ λn i s hi e k=> ?_);obtain⟨H,g,I,J⟩:=e;have R:s.Cells.length=i:=by rw[g];simp;omega
 unfold C0.Aa C0.L1 C0.J1;refine tD (λ_=>bR ah (tC (Bm ah) (k _ ah ⟨H,by simp only;rw[g,<- AAX ah,AAp];rfl,I,J⟩))) λ_=> ?_;have g:s.Cells=c.World.Cells.map (·.Init):=by rw[g,AAq ah]
 refine Pw c.World.AK.length (λi t=>t.Sync=JP c.World/\t.AK=List.replicate i 0/\t.AA=[]/\t.Cells=s.Cells) (F:=λn s i=>C0.DF c n s i) ah ⟨H,by simp[I],J,rfl⟩ λn i t hi e k=> ?_;obtain⟨K,m,B,L⟩:=e;have R:t.AK.length=i:=by rw[m];simp
 unfold C0.DF C0.L2 C0.J2;refine tD (λ_=>tC (Bm ah) (k _ ah ⟨K,by simp only;rw[m,<- ABY],B,L⟩)) λ_=> ?_;have m:t.AK=List.replicate c.World.AK.length 0:=by rw[m,show i=c.World.AK.length by omega]
 refine Pw c.AA.length (λi u=>u.Sync=JP c.World/\u.AA.length=i/\(∀x∈u.AA,TH 0 x/\x.AE=0/\∀l∈x.Cd,l=[])/\u.Cells=s.Cells/\u.AK=t.AK) (F:=λn s i=>C0.Gg c n s i) ah ⟨K,by simp[B],by simp[B],L,rfl⟩ λn i u hi e k=> ?_;obtain⟨o,V,M,N,O⟩:=e;unfold C0.Gg C0.L3 C0.J3;refine tD (λ_=>bR ah ?_) λ_=>tR ⟨⟨by rw[o];exact RB.start _,λx a=>(M x a).1⟩,by rw[o];rfl,by rw[N,g];rfl,by rw[O,m];rfl,by have:=b.n;simp[Gx],?_,?_,?_⟩
 . have U:=(b.t i _ (AAJ ah)).r;refine tC ⟨ah,ah,Bm ah⟩ (tC ⟨ah,ah,Bm ah⟩ (tC (Bm ah) (k _ ah ⟨o,an,?_,N,O⟩)));intro x a;rcases AAW.1 a with a|a
   . grind
   . rw[AAl.1 a];refine⟨⟨an,an,?_,ak⟩,rfl,λl G=>List.eq_of_mem_replicate G⟩;intro y z;have z:=List.eq_of_mem_replicate z;rw[z];exact⟨List.Pairwise.nil,ak⟩
 . intro j x y a _;have a:=M x (AAP a);refine .inr (.inr ⟨?_,by rw[a.2.1];rfl,λl G k T=>bg⟩);rw[a.2.1];show ix (List.replicate c.World.AA.length 0) (j:Int)=0;unfold ix;simp only[AAz];by_cases S:j<c.World.AA.length
   . grind
   . rw[ABU an];rfl
 . intro j x y q _ _ d Q;rw[o]at d
   have:=Ts d;omega
 . intro j x q _ d D;rw[o]at d
   have:=Ts d;omega
def Acc(wv:AD)(l:dx)(S:AB):Prop:=∀r,Ex wv [] (Gx wv) (l++r)=Ex wv l S r
theorem Acc.step{wv:AD}{l:dx}{S:AB}(h:Acc wv l S){e:AG}(a:HG wv S e=true)(b:N8 l e=true):Acc wv (l++[e]) (Ef wv S e):=by intro r;rw[ABG,h,List.singleton_append,Ex,a,b];rfl
theorem from_ok(p:CK c)(f:SI 0 s)(q:LK c [] (Gx c.World) s){l:List C5}(B:l.length<=1000):CD (E7 c s [] l) λr=>(r.1.length<=l.length/\∀e∈r.1,rJ e)/\∃S,Acc c.World r.1 S/\LK c r.1 S r.2:=by unfold E7;refine Pw l.length (λi (s:List AG×Al)=>(SI i s.2/\s.1.length<=i/\∀e∈s.1,rJ e)/\∃S,Acc c.World s.1 S/\LK c s.1 S s.2) (F:=λn s i=>E7.Aa c l n s.1 s.2 i) (s0:=([],s)) ah ⟨⟨f,ak,ak⟩,_,λ_=>rfl,q⟩ λn i s hi f k=> ?_;obtain⟨⟨d,C,g⟩,S,a,b⟩:=f;have up:SI (i+1) s.2:=⟨d.1.mono ah,λt u=>(d.2 t u).mono ah⟩;unfold E7.Aa E7.L1 E7.J1 E7.J2 E7.J3;refine tD (λ_=>tI (λ_=>tG ah λx _=> ?_) λ_=>tR ⟨⟨bg,g⟩,S,a,b⟩) λ_=>tI bk λ_=>tR ⟨⟨bg,g⟩,S,a,b⟩;refine tB (uI p d ah x) λv w=>tI (λh=> ?_) λ_=>k (_,_) ah ⟨⟨up,bg,g⟩,S,a,b⟩;obtain⟨⟨y,D⟩,z⟩:=w h;obtain⟨j,m,o⟩:=sim ah d b z;refine tC (Bm ah) (k (_,_) ah ⟨⟨y,an,?_⟩,_,a.step j m,o⟩);grind
structure TA (n:Nat) (t:CC):Prop where
 m:TM n t
 c:Ex t.World [] (Gx t.World) t.AE=(0,0)
theorem Run_ok(a:CK c){l:List C5}(j:l.length<=1000):CD (LS c l) λr=>TA l.length r.1:=by
 unfold LS;obtain⟨v,d,i⟩:=P7 a;rw[d,AAB];refine tI (λ_=>tR ⟨⟨ak,ak,λh=>absurd rfl h⟩,rfl⟩) λh=> ?_;have f:v=true:=by simpa using h
 refine tB (uH a (by rw[d,f])) λs e=>tB (from_ok a e.1 e.2 j) λr b=>tR ⟨⟨b.1.1,b.1.2,λ_=>(i f).w⟩,?_⟩;obtain⟨S,g,_⟩:=b.2
 have:=g [];rw[ABc]at this;exact this
end Go.Abs
