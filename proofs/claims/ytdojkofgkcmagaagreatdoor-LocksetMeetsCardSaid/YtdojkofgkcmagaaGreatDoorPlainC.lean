/- What the typed programs give, in plain Lean. -/
import Derived.Test.YtdojkofgkcmagaaGreatDoorWalkR
import Derived.Test.YtdojkofgkcmagaaGreatDoorPlainB
import Derived.KernelRfl
set_option linter.defProp false
set_option linter.unusedSimpArgs false
set_option linter.unusedVariables false
namespace Go.Abs
set_option maxHeartbeats 4000000
variable{p:AU}{wv:BX}{e:BO}{k E:Nat}
section
variable{T:kp}
theorem S9(l:ml)(s:ABv)(a:l.length<1000000):B5 (DD l s) λr=> -1<=r/\r<l.length:=by unfold DD;refine tL l.length ah λn i hi k=> ?_;unfold DD.AW DD.L1 DD.J1;exact tD (λ_=>tG ah λx _=>tI (λ_=>tR ah) λ_=>k ah) λ_=>tR ah
theorem MY(l:List C7)(s:ABv)(a:l.length<1000000):B5 (DB l s) λr=> -1<=r/\r<l.length:=by unfold DB;refine tL l.length ah λn i hi k=> ?_;unfold DB.AW DB.L1 DB.J1;exact tD (λ_=>tG ah λx _=>tI (λ_=>tR ah) λ_=>k ah) λ_=>tR ah
theorem eM(h:MP p):TT (Ie p.d9):=by have hd:=h.dl;have key:B5 (E7.bind Ie) λ_=>True:=⟨(0,0),by decide +kernel,trivial⟩;rw[h.d]at key;exact key
theorem W7(h:MP p):TT (CY p):=by
 have hd:=h.dl;have g:=h.t;have j1:∀{F:ka}{i:Int}{x:C7}(b:Bool),TT (F (A6 (i+1)))->TT (CY.J1 F i x b):=by intro F i x b k;unfold CY.J1;exact tI (λ_=>tR trivial) λ_=>k
 have a:∀{F:ka}{i:Int}{x:C7}(b:Bool),TT (F (A6 (i+1)))->TT (CY.J3 F i x b):=by intro F i x b k;unfold CY.J3;exact tI (λ_=>tR trivial) λ_=>k
 unfold CY;refine tL p.AA.length ah λn i hi k=> ?_;unfold CY.AW CY.L1 CY.J2;refine tD (λ_=>tG ah λx d=>tB (S9 _ _ ah) λ_ _=>tI (λ_=>j1 _ (k ah)) λ_=>tC ah (tB (MY _ _ an) λ_ _=>j1 _ (k ah))) λ_=> ?_;refine tL p.AA.length ah λn i hi k=> ?_;unfold CY.CC CY.L2;refine tD (λ_=>tG ah λx d=>tI (λ_=>tR trivial) λ_=>tL x.G0.length aS λm j e c=> ?_) λ_=>tR trivial;have f:=h.l x d;unfold CY.Gc CY.L3 CY.J4;refine tD (λ_=>tG ah λy o=>tB (S9 _ _ ah) λ_ _=>tI (λ_=>a _ (c ah)) λ_=>tB (MY _ _ ah) λ_ _=>tI (λ_=>a _ (c ah)) λ_=>tC ah (tB (Ow _ _ an) λ_ _=>a _ (c ah))) λ_=>k ah
theorem x9(d:Nat):∀(n:Nat)(l:ju),d+1<=n->Uq T d l->TT (HE n l):=by
 induction d with
 |zero=>intro n l hn ⟨_,h⟩;obtain⟨n,rfl⟩:∃k,n=k+1:=⟨n-1,ah⟩;have:l=[]:=ABB.2 λx a=>(h x a).elim;subst this;show TT (DG (HE n) []);exact tR trivial
 |succ d ih=>intro n l hn ⟨h1,h2⟩;obtain⟨n,rfl⟩:∃k,n=k+1:=⟨n-1,ah⟩;show TT (DG (HE n) l);unfold DG;refine RI l.length (λ_ _=>True) (F:=λn s i=>DG.AW _ l n s i) ah trivial λm i s hi _ k=> ?_;unfold DG.AW DG.L1 DG.J1;exact tD (λ_=>tG ah λx a=>JQ (ih n _ ah (h2 x a).body) λ_=>JQ (ih n _ ah (h2 x a).els) λ_=>k _ ah trivial) λ_=>tR trivial
theorem uB(h:wv.G3.length<=100)(a b:Int)(s:ABv):B5 (Bn wv a b s) λr=>r.2=wv:=by
 have j1:∀{F:nl}{i:Int}(b:Bool),B5 (F (A6 (i+1))) (λr=>r.2=wv)->B5 (Bn.J1 F i wv b) λr=>r.2=wv:=by intro F i b k;unfold Bn.J1;exact tI (λ_=>tR rfl) λ_=>k
 unfold Bn;refine tL wv.G3.length ah λn i hi k=> ?_;unfold Bn.AW Bn.L1 Bn.J2;refine tD (λ_=>tG ah λx c=> ?_) λ_=>tR rfl;grind
theorem q6(h:MP p)(t:Int)(s:ABv):TT (E2 p t s):=by
 have hd:=h.dl;have d:=h.t;have j1:∀b,TT (E2.J1 p s b):=by
  intro b;unfold E2.J1;refine tI (λ_=>tR trivial) λ_=>tB (S9 _ _ ah) λv e=>tD (λ_=>tB (MY _ _ ah) λ_ _=>tI (λ_=>tR trivial) λ_=>tR trivial) λ_=>tG ah λx _=> ?_;have c:∀b,TT (E2.J2 p v b):=by intro b;unfold E2.J2;exact tI (λ_=>tG ah λ_ _=>tR trivial) λ_=>tR trivial
  repeat' first|exact tR trivial|exact c _|refine tI (λ_=> ?_) λ_=> ?_
 unfold E2;exact tD (λ_=>tD (λ_=>tG ah λx a=>tB (Ow _ _ (by have:=h.l x a;omega)) λ_ _=>j1 _) λ_=>j1 _) λ_=>j1 _
theorem MF(h:MP p)(t:Int)(s:ABv)(a b:Int):TT (Dk p t s a b):=by
 unfold Dk Dk.J1;refine JQ (q6 h t s) λ_=> ?_
 repeat' first|exact tR trivial|refine tI (λ_=> ?_) λ_=> ?_
theorem yE(d:Nat):∀(n:Nat)(e:BO),d<=n->dE d e->TT (K3 n e):=by
 induction d with
 |zero=>exactλn e _ h=>h.elim
 |succ d ih=>intro n e hn ⟨h1,h2⟩;obtain⟨n,rfl⟩:∃k,n=k+1:=⟨n-1,ah⟩;show TT (GC (K3 n) e);unfold GC;refine RI e.L.length (λ_ _=>True) (F:=λn (s:Int×Int) i=>GC.AW _ e n s.1 s.2 i) ah (s0:=(1,0)) trivial λm i s hi _ k=> ?_;unfold GC.AW GC.L1 GC.J1;exact tD (λ_=>tG ah λx a=>JQ (ih n x ah (h2 x a)) λv=>k (_,_) ah trivial) λ_=>tR trivial
theorem names_tot(h:MP p)(t:Int)(d:Nat):∀(n:Nat)(e:BO),d<=n->dE d e->TT (Jc n p t e):=by
 induction d with
 |zero=>exactλn e _ h=>h.elim
 |succ d ih=>
  intro n e hn ⟨h1,h2⟩;obtain⟨n,rfl⟩:∃k,n=k+1:=⟨n-1,ah⟩;show TT (EU (Jc n) p t e);have j1:∀r,TT (EU.J1 (Jc n) e p t r):=by intro r;unfold EU.J1;refine RI e.L.length (λ_ _=>True) (F:=λm s i=>EU.AW _ e p t m s i) ah trivial λm i s hi _ k=> ?_;unfold EU.AW EU.L1 EU.J2 EU.J3;exact tD (λ_=>tI (λ_=>tG ah λx a=>JQ (ih n x ah (h2 x a)) λv=>k _ ah trivial) λ_=>tR trivial) λ_=>tI bm λ_=>tR trivial
  unfold EU;exact tI (λ_=>JQ (MF h _ _ _ _) λ_=>j1 _) λ_=>tI (λ_=>JQ (MF h _ _ _ _) λ_=>j1 _) λ_=>j1 _
theorem lZ(h:MP p)(t:Int)(a:dE 2 e):TT (Fl p t e):=by
 have j1:∀b,TT (Fl.J1 e p t b):=by intro b;unfold Fl.J1;exact tI (λ_=>tR trivial) λ_=>JQ (names_tot h t 2 _ e (NT ah) a) λ_=>tR trivial
 unfold Fl;exact JQ (rA a) λ_=>tI (λ_=>tR trivial) λ_=>JQ (yE 2 _ e (NT ah) a) λ_=>tI (λ_=>j1 _) λ_=>j1 _
theorem PV(a b:Int):TT (Fm a b):=by unfold Fm;exact tI (λ_=>tR trivial) λ_=>tR trivial
theorem JG(b:Bool):TT (CM b):=by unfold CM;exact tI (λ_=>tR trivial) λ_=>tR trivial
structure WK (p:AU) (A K:Nat) (wv:BX):Prop where
 p:wv.p=p
 a:wv.G3.length=A
 s:wv.NG.length<=K
 t:wv.aQ.length<=K
theorem WK.mono{A:Nat}(h:WK p A k wv)(b:k<=E):WK p A E wv:=⟨h.p,h.a,by have:=h.s;omega,by have:=h.t;omega⟩
theorem one_tot(h:MP p){A:Nat}(f:WK p A E wv)(H:A<=100)(J:E<=900000){s:AR}(o:Iz T (k+1) s):B5 (BV wv s) λr=>WK p A (E+1) r.2:=by
 have hd:=h.dl;have n:=h.t;have m:=f.a;have F:=f.s;have G:=f.t;obtain rfl:=f.p;have W:WK wv.p A (E+1) wv:=f.mono ah;have I:=λa b s=>uB (wv:=wv) ah a b s;have K:=lZ h wv.Bt o.e;have j:∀(b:Bool) e,B5 (BV.vY s (b,wv) wv e) λr=>WK wv.p A (E+1) r.2:=by intro b e;unfold BV.vY;exact tC (Bs aS) (JQ K λ_=>JQ (PV _ _) λ_=>tR ⟨rfl,m,W.s,an⟩)
 have g:∀(b c:Bool) e,B5 (BV.bT e s (b,wv) wv c) λr=>WK wv.p A (E+1) r.2:=by intro b c e;unfold BV.bT;exact tI (λ_=>j _ _) λ_=>j _ _
 have q:∀(b:Bool) e,B5 (BV.QP s (b,wv) wv e) λr=>WK wv.p A (E+1) r.2:=by intro b e;unfold BV.QP;exact tI (λ_=>tB (Ow _ _ aS) λ_ _=>g _ _ _) λ_=>g _ _ _
 have D:∀(b c:Bool),B5 (BV.J8 s (b,wv) c) λr=>WK wv.p A (E+1) r.2:=by intro b c;unfold BV.J8;exact tI (λ_=>tR W) λ_=>tB (Ow _ _ aS) λ_ _=>tI (λ_=>tR W) λ_=>tC (Bs aS) (tR ⟨rfl,m,an,W.t⟩)
 have z:s.Op∈[(9:Int),10,11]->B5 (DD wv.p.d9 s.di) λr=>0<=r/\r<9:=by
  intro B;rw[o.2.2.2.1 B];have key:E7.bind (λl=>DD l cN)=some 7:=by decide +kernel
  rw[h.d]at key;exact⟨7,key,ah⟩
 have C:∀(b c d t:Bool),(t=true->s.Op∈[(9:Int),10,11])->B5 (BV.J6 s (b,wv) (c,wv) (d,wv) wv t) λr=>WK wv.p A (E+1) r.2:=by
  intro b c d t v;unfold BV.J6 BV.J7 BV.J9;refine tI (λn=>JQ (MF h _ _ _ _) λ_=>tI (λ_=>tR W) λ_=>tB (z (v n)) λ_ _=>tG ah λx _=>tB (I _ _ _) ?_) λ_=> ?_
  . rintro⟨e,_⟩ rfl
    repeat' first|exact tR W|refine JQ (JG _) λ_=> ?_|refine tI (λ_=> ?_) λ_=> ?_
  . repeat' first|exact tR W|refine JQ (MF h _ _ _ _) λ_=> ?_|refine JQ (JG _) λ_=> ?_|refine JQ (PV _ _) λ_=> ?_|exact D _ _|exact q _ _|refine tB (MY _ _ ah) λ_ _=> ?_|refine tI (λ_=> ?_) λ_=> ?_
 have u:∀(b c d t:Bool),B5 (BV.J3 s (b,wv) (c,wv) (d,wv) wv t) λr=>WK wv.p A (E+1) r.2:=by
  intro b c d t;unfold BV.J3 BV.J4 BV.J5;refine tI (λn=>JQ (MF h _ _ _ _) λ_=>tI (λ_=>JQ (JG _) λ_=>JQ (PV _ _) λ_=>tR W) λ_=>tB (I _ _ _) ?_) λ_=> ?_
  . rintro⟨e,_⟩ rfl;exact JQ (JG _) λ_=>JQ (PV _ _) λ_=>tR W
  . repeat' first|exact tR W|refine JQ (JG _) λ_=> ?_|exact C _ _ _ _ (λh=>am)|refine tI (λ_=> ?_) λ_=> ?_
 have j1:∀(b c d t:Bool),B5 (BV.J1 s (b,wv) (c,wv) (d,wv) wv t) λr=>WK wv.p A (E+1) r.2:=by intro b c d t;unfold BV.J1 BV.J2;refine tI (λn=>JQ K λ_=>tR W) λ_=>tI (λ_=>JQ (MF h _ _ _ _) λ_=>tI (λ_=>JQ (JG _) λ_=>JQ (PV _ _) λ_=>tR W) λ_=>tB (I _ _ _) ?_) λ_=>tI (λ_=>u _ _ _ _) λ_=>u _ _ _ _;rintro⟨e,_⟩ rfl;exact JQ (JG _) λ_=>JQ (PV _ _) λ_=>tR W
 unfold BV;refine tB (I _ _ _) ?_;rintro⟨b,w⟩ e;obtain rfl:wv=w:=e.symm;refine tB (I _ _ _) ?_;rintro⟨c,w⟩ e;obtain rfl:wv=w:=e.symm;refine tB (I _ _ _) ?_;rintro⟨d,w⟩ e;obtain rfl:wv=w:=e.symm;refine tI (λ_=> ?_) λ_=>tI (λ_=>j1 _ _ _ _) λ_=>j1 _ _ _ _;refine tI (λ_=>JQ (MF h _ _ _ _) λ_=>JQ K λ_=>JQ (PV _ _) λ_=>tR W) λhi=>JQ (MF h _ _ _ _) λ_=> ?_;rcases o.i with e|⟨a,e,m⟩
 . simp_all
 . rw[e];exact tE (y:=a) rfl (JQ (lZ h wv.Bt m) λ_=>JQ K λ_=>JQ (PV _ _) λ_=>JQ (PV _ _) λ_=>tR W)
def II:Nat->Nat
 |0=>0
 |d+1=>1+20*II d
theorem v7(h:MP p)(d:Nat):∀(n A K:Nat)(wv:BX)(l:ju),d+1<=n->A+d<=50->K+10*II d<=900000->WK p A K wv->Uq T d l->B5 (E3 n wv l) λr=>WK p A (K+10*II d) r.2.2:=by
 induction d with
 |zero=>intro n A K wv l hn z B b ⟨_,h⟩;obtain⟨n,rfl⟩:∃k,n=k+1:=⟨n-1,ah⟩;have:l=[]:=ABB.2 λx j=>(h x j).elim;subst this;show B5 (CP (E3 n) wv []) _;exact tR b
 |succ d ih=>
  intro n A K wv l hn z B b ⟨h1,h2⟩;obtain⟨n,rfl⟩:∃k,n=k+1:=⟨n-1,ah⟩;show B5 (CP (E3 n) wv l) _;unfold CP;have H:II (d+1)=1+20*II d:=rfl;refine RI l.length (λi wv=>WK p A (K+i*II (d+1)) wv) (F:=λn s i=>CP.AW _ l n s i) ah am λm i s hi q k=> ?_;have J:i*II (d+1)<=10*II (d+1):=ABC _ ah;have o:∀{w},WK p A (K+i*II (d+1)) w->WK p A (K+10*II (d+1)) w:=λh=>h.mono ah;unfold CP.AW CP.L1 CP.J3;refine tD (λE=>tG ah λx j=>tB (one_tot h q ah ah (h2 x j)) λv f=> ?_) λ_=>tR (o q);have G:(i+1)*II (d+1)<=10*II (d+1):=ABC _ ah;have I:(i+1)*II (d+1)=i*II (d+1)+II (d+1):=ABm _ _;have u:∀(w:BX)(e c:Int),WK p (A+1) (K+(i+1)*II (d+1)) w->B5 (CP.J2 (CP.AW (E3 n) l m) i w e c) λr=>WK p A (K+10*II (d+1)) r.2.2:=by intro w e c b;have C:=b.a;unfold CP.J2;rw[CG (n:=(w.G3.length:Int)-1) ah ah];have y:WK p A (K+(i+1)*II (d+1)) (BX.mk w.p w.Bt (w.G3.take ((w.G3.length:Int)-1).toNat) w.NG w.aQ):=⟨b.p,an,b.s,b.t⟩;exact tC ah (tI (λ_=>tR (y.mono ah)) λ_=>k _ ah y)
  have j1:∀e,B5 (CP.J1 (CP.AW (E3 n) l m) (E3 n) i v x e) λr=>WK p A (K+10*II (d+1)) r.2.2:=by intro e;have C:=f.a;unfold CP.J1;refine tI (λ_=>tR (f.mono ah)) λ_=>tC (Bs ah) (tG an λ_ _=> ?_);refine tB (ih n (A+1) (K+i*II (d+1)+1) _ _ ah ah ah ⟨f.p,an,f.s,f.t⟩ (h2 x j).body) λL g=> ?_;refine tI (λ_=> ?_) λ_=>u _ _ _ (g.mono ah);exact tB (ih n (A+1) _ _ _ ah ah ah g (h2 x j).els) λM D=>u _ _ _ (D.mono ah)
  grind
theorem eG(h:MP p):TT (BF p):=by have hd:=h.dl;have j:=h.t;have g:II 4=8421:=rfl;unfold BF;refine JQ (YY h) λ_=>tI (λ_=>tR trivial) λ_=>JQ (eM h) λ_=>tI (λ_=>tR trivial) λ_=>tI (λ_=>tR trivial) λ_=>JQ (W7 h) λ_=>tI (λ_=>tR trivial) λ_=> ?_;refine RI p.AA.length (λ_ _=>True) (F:=λn s i=>BF.AW p n s i) ah trivial λm i s hi _ k=> ?_;unfold BF.AW BF.L1 BF.J1;refine tD (λ_=>tG ah λx d=>JQ (x9 4 _ _ (NT ah) (h.b x d)) λ_=>k _ ah trivial) λ_=>tI (λ_=>tR trivial) λ_=> ?_;refine RI p.AA.length (λi w=>WK p 0 (i*84210) w) (F:=λn s i=>BF.CC p n s i) ah ⟨rfl,rfl,ak,ak⟩ λm i s hi c k=> ?_;unfold BF.CC BF.L2 BF.J2;refine tD (λf=>tG ah λx d=> ?_) λ_=>tR trivial;refine tB (v7 h 4 _ 0 (i*84210) _ _ (NT ah) ah ah ⟨c.p,c.a,c.s,c.t⟩ (h.b x d)) λv e=>tI (λ_=>tR trivial) λ_=>k _ ah (e.mono ah)
end
variable{W:iq}
section
variable{T:kp}
structure MK1 (N i:Nat) (m:AP) (p:AU):Prop where
 t:DX m.t
 h:m.d6=[]
 d:E7=some p.d9
 n:p.AA.length=i
 b:∀t∈p.AA,Uq (λs=>s∈QM.take N) 4 t.dx
 nm:p.AA.map (·.di)=QM.take i
 lo:∀t∈p.AA,t.G0=cL
abbrev MPO(p:AU):Prop:=MP p/\∃l,BF p=some (0,l)
theorem l8{l:iq}(R:l.length<=4000000000000000000)(S:∀x∈l,0<=x/\x<256):B5 (CD l) MPO:=by
 have hd:∃D,E7=some D:=⟨_,rfl⟩;obtain⟨D,r⟩:=hd;have I:QM.length=4:=rfl;unfold CD;refine tE r (tB (HU (t:=⟨l,0⟩) ⟨R,ak,S⟩ ah) ?_);rintro⟨v,G⟩ ⟨U,u⟩;simp only at U u;have M:A6 (2+v)=2+v:=CG ah ah;refine RI (2+v).toNat (λi (s:AP×AU)=>MK1 (2+v).toNat i s.1 s.2) (F:=λn s i=>CD.AW (v,G) n s.1 s.2 i) ah (s0:=(_,_)) ⟨u,rfl,r,rfl,ak,rfl,ak⟩ λn i s hi f k=> ?_;unfold CD.AW CD.L1;simp only[M]
 -- the end
 have V:¬(i:Int)<2+v->B5 (CD.J5 s.2) MPO:=by
  intro qK;have hi:i=(2+v).toNat:=ah
  have L:MP s.2:=⟨f.d,by have:=f.n;omega,λt C=>by rw[f.lo t C];simp[cL],by rw[f.nm,hi];exact f.b,⟨i,ah,ah,f.nm⟩,f.lo⟩;unfold CD.J5 Ku FH;obtain⟨q,B,_⟩:=eG L;refine tE B (tI (λ_=>tE r ?_) λh=>tR ⟨L,q.2,B.trans (congrArg some (Prod.ext aS rfl))⟩);simp only[AAS];have key:E7.bind (λD=>BF ⟨D,[⟨⟨#[109,97,105,110]⟩,0,[⟨#[97]⟩,⟨#[98]⟩],[⟨1,0,⟨#[120]⟩,⟨#[]⟩,[],⟨1,1,⟨#[]⟩,[]⟩,[],[]⟩]⟩]⟩)=some (0,0):=by decide +kernel
  rw[r,AAS]at key;refine tR ⟨⟨r,ak,ak,?_,⟨1,ah,ah,rfl⟩,by simp[cL]⟩,0,key⟩;simp only[AAw,forall_eq];refine⟨ak,?_⟩;simp only[AAw,forall_eq];exact Mi (.inl ⟨rfl,rfl⟩) (ZZ bg) _
 have E:∀m t,(hi:i<(2+v).toNat)->DX m.t->m.d6=[]->(t.G0=cL/\t.di=QM[i]' ah)->Uq (λs=>s∈QM.take (2+v).toNat) 4 t.dx->B5 (CD.J3 (λm p i=>CD.AW (v,G) n m p i) i s.2 m t) MPO:=by
  intro m t j o H y I;unfold CD.J3 CD.J4;have hn:=f.n;refine tC (Bs ah) (k (m,_) j ⟨o,H,f.d,an,?_,?_,?_⟩)
  . simp only[AAo,AAw];rintro x (e|rfl)
    . exact f.b x e
    . exact I
  . simp only[AA5,f.nm,AAm,AA2,y.2];simp_all
  . simp only[AAo,AAw];rintro x (e|rfl)
    . exact f.lo x e
    grind
 have j1:∀t,(hi:i<(2+v).toNat)->(t.G0=cL/\t.di=QM[i]' ah)->t.dx.length<=3->(∀x∈t.dx,Iz (λs=>s∈QM.take (2+v).toNat) 4 x)->B5 (CD.J1 (λm p i=>CD.AW (v,G) n m p i) i s.1 s.2 t) MPO:=by
  intro t j o H y;have Q:s.1.d6=[]:=f.h;unfold CD.J1;refine tB (HU f.t ah) λa P=> ?_;rw[CG (n:=1+a.1) ah ah];have J:=BP;obtain⟨O,z⟩:∃n,BT=n+1:=⟨BT-1,ah⟩;rw[z];refine tB ((made_tot (T:=λs=>s∈QM.take (2+v).toNat) 2 0 O ah ah ah).2 (AP.mk a.2 i s.1.left s.1.IQ s.1.tx s.1.d5 s.1.ea s.1.d6) (1+a.1) ⟨P.2,am⟩ ah) λb J=> ?_;obtain⟨⟨Z,g2⟩,w⟩:=J;have g:b.2.d6=[]:=w.h.trans Q;have g0:∀x∈t.dx++b.1,Iz (λs=>s∈QM.take (2+v).toNat) 4 x:=λx e=>(AAo.1 e).elim (y x) (g2 x);refine tC (Bs ah) (tI (λ_=>tB (HU w.t ah) λc K=> ?_) λ_=> ?_)<;>unfold CD.J2
  . refine tI (λ_=>tC (Bs an) (E _ _ j K.2 g o ⟨an,?_⟩)) λ_=>E _ _ j K.2 g o ⟨an,g0⟩;intro x e;rcases AAo.1 e with e|e
    . grind
    . rw[AAw.1 e];refine Qs bg bg bg ⟨ak,ak,ak,λ_=> ?_,ak,ak⟩;exact List.mem_take_iff_getElem.2 ⟨1,ah,rfl⟩
  . exact tI bm λ_=>E _ _ j w.t g o ⟨an,g0⟩
 refine tD (λh=>gC (l:=QM) ah (tI (λ_=> ?_) λ_=>j1 _ ah ⟨rfl,rfl⟩ ak ak)) V;refine tLk (2+v).toNat 1 (λk (t:C7)=>(t.G0=cL/\t.di=QM[i]' ah)/\t.dx.length+1<=k/\∀x∈t.dx,Iz (λs=>s∈QM.take (2+v).toNat) 4 x) (F:=λn t k=>CD.CC _ _ _ _ _ n t k) ah ah ⟨⟨rfl,rfl⟩,ak,ak⟩ λm q t B C W=> ?_;obtain⟨N,t2,X⟩:=C;unfold CD.CC CD.L2;simp only[M];refine tD (λ_=>gC (l:=QM) ah (tC (Bs ah) (W _ ah ⟨N,an,?_⟩))) λ_=>j1 _ ah N ah X;intro x e;rcases AAo.1 e with e|e
 . grind
 . rw[AAw.1 e];refine Qs bg bg ak ⟨ak,ak,ak,λ_=> ?_,ak,ak⟩;exact List.mem_take_iff_getElem.2 ⟨q,ah,rfl⟩
theorem lW(a:W.length<=1000):B5 (E0 W) λr=>r.length<=W.length:=by unfold E0;refine RI W.length (λi (s:kv)=>s.length<=i) (F:=λn s i=>E0.AW W n s i) ah ak λn i s hi b k=> ?_;unfold E0.AW E0.L1 E0.J1;exact tD (λ_=>tG ah λx _=>tC (Bs ah) (k _ ah an)) λ_=>tR ah
theorem sites_tot(d:Nat):∀(n K:Nat)(o:mu)(t a:Int)(l:ju),d+1<=n->K+10*II d<=900000->o.length<=K->Uq T d l->B5 (HG n o t a l) λr=>r.1.length<=K+10*II d:=by
 induction d with
 |zero=>intro n K o t a l hn e c ⟨_,h⟩;obtain⟨n,rfl⟩:∃k,n=k+1:=⟨n-1,ah⟩;have:l=[]:=ABB.2 λx b=>(h x b).elim;subst this;show B5 (DH (HG n) o t a []) _;exact tR c
 |succ d ih=>intro n K o t a l hn e c ⟨h1,h2⟩;obtain⟨n,rfl⟩:∃k,n=k+1:=⟨n-1,ah⟩;show B5 (DH (HG n) o t a l) _;unfold DH;have p:II (d+1)=1+20*II d:=rfl;refine RI l.length (λi (s:List EG×Int)=>s.1.length<=K+i*II (d+1)) (F:=λm s i=>DH.AW _ l t m s.1 s.2 i) (s0:=(o,a)) ah am λm i s hi y k=> ?_;have u:i*II (d+1)<=10*II (d+1):=ABC _ ah;unfold DH.AW DH.L1 DH.J1;refine tD (λg=>tG ah λx b=>tC (Bs ah) ?_) λ_=>tR aS;have j:(i+1)*II (d+1)<=10*II (d+1):=ABC _ ah;have q:(i+1)*II (d+1)=i*II (d+1)+II (d+1):=ABm _ _;refine tB (ih n (K+i*II (d+1)+1) _ _ _ _ ah ah an (h2 x b).body) λv f=> ?_;refine tB (ih n _ _ _ _ _ ah ah f (h2 x b).els) λw c=>k (_,_) ah aS
structure MW (w:AF):Prop where
 q:B5 (Bz w qS) λr=>0<=r/\r<w.df.length
 c:w.df.length<=100
 l:w.AK.length<=100
 d:w.Ak.length<=100
 f:w.AL.length<=100
 t:w.AA.length<=4
def MM:List Du:=[⟨⟨#[120]⟩,0,0,false,0⟩,⟨⟨#[121]⟩,0,0,false,1⟩,⟨⟨#[118]⟩,0,0,true,0⟩,⟨⟨#[113]⟩,0,2,false,0⟩,⟨⟨#[113]⟩,1,2,false,0⟩]
theorem dX(h:MP p)(j:∃l,BF p=some (0,l)):B5 (CA p) MW:=by
 obtain⟨l,j⟩:=j;have B:=h.t;have z:II 4=8421:=rfl;unfold CA;refine tE j (tI bm λ_=> ?_);have key:∀D T,E7=some D->CA.AW ⟨D,T⟩ BT (AF.mk [] [] [] [] [] []) 0=CA.J4 ⟨D,T⟩ ⟨MM,[⟨⟨#[109]⟩,false⟩,⟨⟨#[110]⟩,false⟩,⟨⟨#[114]⟩,true⟩],[⟨⟨#[99]⟩,0⟩],[⟨#[102]⟩],[],[]⟩:=by
  intro D T m;unfold E7 at m;obtain rfl:=AAW m
  kernel_rfl
 rw[show CA.AW p BT (AF.mk [] [] [] [] [] []) 0=_ from key p.d9 p.AA h.d];unfold CA.J4;rw[show AU.mk p.d9 p.AA=p from rfl];refine RI p.AA.length (λi w=>w.Be.length<=i*84210/\w.AA.length=i/\w.df=MM/\w.AK.length=3/\w.Ak.length=1/\w.AL.length=1) (F:=λn s i=>CA.Gc _ n s i) ah ⟨ak,rfl,rfl,rfl,rfl,rfl⟩ λn i w hi e k=> ?_;obtain⟨q,E,g,r,u,y⟩:=e;unfold CA.Gc CA.L3 CA.J5;refine tD (λ_=>tG ah λx o=>tC (Bs ah) (tB (sites_tot 4 _ (i*84210) _ _ _ _ (NT ah) ah q (h.b x o)) λv C=>k _ ah ⟨aS,an,g,r,u,y⟩)) λ_=>tR ⟨?_,by rw[g];decide,ah,ah,ah,ah⟩;rw[g];have a:∀w:AF,w.df=MM->Bz w qS=some 3:=by
  intro w e;obtain⟨c,l,d,f,t,s⟩:=w;simp only at e;subst e
  kernel_rfl
 exact⟨3,a w g,ah,bg⟩
end
variable{g r:BL}{n:Nat}{w:AF}{a:Type}
section
variable{T:kp}
structure GS (g:BL) (n:Nat) (r:BL):Prop where
 w:r.w=g.w
 l:r.dq=g.dq
 a:g.dr.length<=r.dr.length
 b:r.dr.length<=g.dr.length+n
structure GB (g:BL) (n:Nat):Prop where
 w:MW g.w
 l:g.dq.length<=2
 n:g.dr.length+n<=8000000
theorem GS.refl(g:BL)(n:Nat):GS g n g:=⟨rfl,rfl,ah,ah⟩
theorem GS.trans{h:BL}(a:GS g E h)(b:GS h n r)(c:E+n<=k):GS g k r:=⟨b.w.trans a.w,b.l.trans a.l,by have:=a.a;have:=b.a;omega,by have:=a.b;have:=b.b;omega⟩
theorem GB.next{h:BL}(a:GB g k)(s:GS g E h)(c:E+n<=k):GB h n:=⟨by rw[s.w];exact a.w,by rw[s.l];exact a.l,by have:=s.b;have:=a.n;omega⟩
theorem GB.less(a:GB g k)(b:n<=k):GB g n:=a.next (GS.refl g 0) ah
theorem Ro(h:GB g 1)(i:Ai):B5 (BH g i) λr=>GS g 1 r/\r.dr.length=g.dr.length+1:=by have:=h.n;unfold BH;exact tC (Bs ah) (tR ⟨⟨rfl,rfl,ak,ak⟩,ak⟩)
def JI(h:GB g 1)(i:Ai):B5 ((BH g i).bind λv=>some v) (GS g 1):=tB (Ro h i) λ_ h=>tR h.1
theorem YP(h:MW w)(s:ABv):TT (Bz w s):=by have a:=h.c;unfold Bz;refine tL w.df.length ah λn i hi k=> ?_;unfold Bz.AW Bz.L1 Bz.J1;exact tD (λ_=>tG ah λx _=>tI (λ_=>tR trivial) λ_=>k ah) λ_=>tR trivial
theorem uE(h:MW w)(s:ABv):TT (EL w.AK s):=by have a:=h.l;unfold EL;refine tL w.AK.length ah λn i hi k=> ?_;unfold EL.AW EL.L1 EL.J1;exact tD (λ_=>tG ah λx _=>tI (λ_=>tR trivial) λ_=>k ah) λ_=>tR trivial
theorem cond_tot(h:MW g.w)(s:ABv):B5 (Cj g s) λr=>r.2=g:=by have a:=h.d;unfold Cj;refine tL g.w.Ak.length ah λn i hi k=> ?_;unfold Cj.AW Cj.L1 Cj.J1;exact tD (λ_=>tG ah λx _=>tI (λ_=>tR rfl) λ_=>k ah) λ_=>tR rfl
theorem mU(h:MW w){s:ABv}(b:s=qS){f:Int->Du->ABu a}{Q:a->Prop}(k:∀i c,B5 (f i c) Q):B5 ((Bz w s).bind λi=>(gt w.df i).bind (f i)) Q:=by rw[b];exact tB h.q λi hi=>tG hi λc _=>k i c
theorem value_tot(d:Nat):∀(n:Nat)(g:BL)(e:BO)(r:Int),d<=n->Up d e->GB g (3^d)->B5 (C6 n g e r) (GS g (3^d)):=by
 induction d with
 |zero=>exactλn g e r _ h=>h.elim
 |succ d ih=>
  intro n g e r hn z f;obtain⟨n,rfl⟩:∃k,n=k+1:=⟨n-1,ah⟩;have C:3^(d+1)=3*3^d:=by rw[Nat.pow_succ];omega
  have B:0<3^d:=Nat.pow_pos ah;show B5 (G5 (C6 n) g e r) _;have up:∀{r},GS g 1 r->GS g (3^(d+1)) r:=λh=>h.trans (GS.refl _ 0) ah;unfold G5;rcases z with⟨j,_⟩|⟨j,_⟩|⟨j,t,a,p,q⟩|⟨j,a,b,p,q,x⟩
  . simp only[j];exact tI (λ_=>tM (JI (f.less ah) _) λ_=>up) λh=>by cases h
  . simp only[j];refine tI bm λ_=>tI (λ_=>tB (Ow _ _ (by have:=f.l;omega)) λ_ _=>tI (λ_=>tM (JI (f.less ah) _) λ_=>up) λ_=> ?_) λh=>(by cases h);exact JQ (YP f.w _) λ_=>tM (JI (f.less ah) _) λ_=>up
  . simp only[j,p];refine tI bm λ_=>tI bm λ_=>tI (λ_=>tE (y:=a) rfl ?_) λh=>(by cases h);refine tB (ih n g a r ah q (f.less ah)) λv m=> ?_;have o:GB v 1:=f.next m ah;exact mU o.w t λi c=>tM (JI o _) λ_ h=>m.trans h ah
  . have D:e.Op≠1:=λh=>am;have E:e.Op≠2:=λh=>am;have F:e.Op≠3:=λh=>am;rw[AAa am,AAa am,AAa am,p];refine tI bm λ_=>tE (y:=a) rfl (tB (ih n g a r ah q (f.less ah)) λv m=>tE (y:=b) rfl (tB (ih n v b _ ah x (f.next m ah)) λu s=> ?_));exact tM (JI (f.next (m.trans s (AAv _)) ah) _) λ_ h=>(m.trans s (AAv _)).trans h ah
theorem Vb(a:Up 2 e)(b:GB g 9)(r:Int):B5 (C6 BT g e r) (GS g 9):=value_tot 2 _ g e r (NT ah) a b
theorem rN(e:GB g 30){s:AR}(j:Iz T (k+1) s)(o:s.Op=1):B5 (Ga g s) (GS g 30):=by
 have f:Up 2 s.dv:=j.2.2.1.resolve_right λh=>h.1 (by simp[o]);unfold Ga;rcases j.2.1 with h|⟨_,p,a,h,n⟩
 . rw[h];refine tI bm λ_=>tB (Vb f (e.less ah) _) λv d=> ?_;have b:GB v 1:=e.next d ah;refine tB (Ow _ _ (by have:=b.l;omega)) λ_ _=>tI (λ_=>tM (JI b _) λ_ h=>d.trans h ah) λ_=>JQ (YP b.w _) λ_=>tM (JI b _) λ_ h=>d.trans h ah
 . rw[h];refine tI (λ_=>tE (y:=a) rfl ?_) λh=>(by cases h);refine tB (Vb n (e.less ah) _) λv d=>tB (Vb f (e.next d ah) _) λu m=> ?_;have b:GB u 1:=e.next (d.trans m (AAv _)) ah;exact mU b.w p λi c=>tM (JI b _) λ_ h=>(d.trans m (AAv _)).trans h ah
def cg:Nat->Nat
 |0=>0
 |d+1=>40+20*cg d
def GS.dt(h:GS g n r)(a b:Int):GS g n ⟨r.w,r.dq,r.dr,a,b⟩:=⟨h.w,h.l,h.a,h.b⟩
theorem GS.set(h:GS g n r)(i:Nat)(x:Ai)(a b:Int):GS g n ⟨r.w,r.dq,r.dr.set i x,a,b⟩:=⟨h.w,h.l,by simpa using h.a,by simpa using h.b⟩
section
variable{R:lx}{g:BL}{s:AR}{n:Nat}
theorem rK(d:GB g (n+2))(i:∀g,GB g n->B5 (R g s.dx) (GS g n))(a b c:Int):B5 (DP R g s a b c) (GS g (n+2)):=by unfold DP;refine tB (Ro (d.less ah) _) λv f=>tB (i v (d.next f.1 ah)) λu j=> ?_;have e:GS g (n+1) ⟨u.w,u.dq,u.dr,g.dt,u.next⟩:=(f.1.trans j ah).dt _ _;exact tM (JI (d.next e ah) _) λ_ h=>e.trans h ah
theorem gZ(b:GB g (2*n+11))(p:Up 2 s.dv)(o:∀g,GB g n->B5 (R g s.dx) (GS g n))(m:∀g,GB g n->B5 (R g s.d7) (GS g n)):B5 (DC R g s) (GS g (2*n+11)):=by
 unfold DC;refine tB (Vb p (b.less ah) _) λv j=>tB (Ro (b.next j ah) _) λu i=> ?_;have e:GS g 10 u:=j.trans i.1 ah;refine tB (o u (b.next e ah)) λx k=> ?_;have f:GS g (n+10) x:=e.trans k ah;have q:=i.2;have r:=k.a;have c:=f.dt g.dt x.next;refine tI (λ_=>tB (Ro (b.next c ah) _) λy d=>tG ?_ λ_ _=>tR ?_) λ_=>tI (λ_=>tG ?_ λ_ _=>tR ?_) λ_=>tB (Ro (b.next c ah) _) λy d=>tG ?_ λ_ _=> ?_
 . grind
 . exact((c.trans d.1 (AAv _)).set _ _ _ _).trans (GS.refl _ 0) ah
 . omega
 . exact(f.set _ _ _ _).trans (GS.refl _ 0) ah
 . grind
 . have h:=(c.trans d.1 (AAv _)).set v.dr.length (Ai.mk (‹Ai›).Op (‹Ai›).A (y.dr.length:Int) (‹Ai›).C (‹Ai›).N (‹Ai›).d3) y.dt y.next;refine tB (m _ (b.next h ah)) λz l=>tG ?_ λ_ _=>tR (((h.trans l (AAv _)).set _ _ _ _).trans (GS.refl _ 0) ah);have t:=d.2;have w:=l.a;grind
variable{R1:lr}{R2:lj}
theorem AAQ(hn:30<=n)(j:GB g n)(o:Iz T (k+1) s)(u:Up 2 s.dv->∀g,GB g n->B5 (R1 g s) (GS g n))(x:∀g a b c,GB g n->B5 (R2 g s a b c) (GS g n)):B5 (Cw R1 R2 g s) (GS g n):=by
  have D:=j.l;have C:=j.w.f;have E:=j.w.t;have d:GB (BL.mk g.w g.dq g.dr g.next (A6 (g.next+1))) n:=j.next ((GS.refl g 0).dt _ _) ah;have up:∀{r},GS (BL.mk g.w g.dq g.dr g.next (A6 (g.next+1))) n r->GS g n r:=λh=>⟨h.w,h.l,h.a,h.b⟩;have e:∀{m r},m<=n->GS (BL.mk g.w g.dq g.dr g.next (A6 (g.next+1))) m r->GS g n r:=λy h=>up (h.trans (GS.refl _ 0) y);have A:∀a b c,B5 ((R2 (BL.mk g.w g.dq g.dr g.next (A6 (g.next+1))) s a b c).bind λv=>some v) (GS g n):=λa b c=>tB (x _ a b c d) λ_ h=>tR (up h);have P:∀i,B5 ((BH (BL.mk g.w g.dq g.dr g.next (A6 (g.next+1))) i).bind λv=>some v) (GS g n):=λi=>tM (JI (d.less ah) i) λ_ h=>e ah h;have j1:∀b,(b=true->s.Op∈[(2:Int),3])->B5 (Cw.J1 R1 R2 g s b) (GS g n):=by
    intro b B;unfold Cw.J1;refine tI (λh=>tB (u (o.2.2.1.resolve_right λq=>q.1 ?_) _ d) λ_ h=>tR (up h)) λ_=> ?_
    . simp_all
    repeat' first
      |exact A _ _ _
      |exact P _
      |exact tR (up (GS.refl _ _))
      |refine tI (λz=>tB (Vb (o.2.2.1.resolve_right λq=>q.1 (by have:=eq_of_beq z;simp[this])) (d.less ah) _) λv p=>tB (Ow _ _ (by rw[p.w];grind)) λ_ _=>tM (JI (d.next p ah) _) λ_ h=>e ah (p.trans h (AAv _))) λ_=> ?_
      |refine tI (λ_=> ?_) λ_=> ?_
      |refine JQ (uE j.w _) λ_=> ?_
      | (refine tB (cond_tot d.w _) ?_
         rintro⟨i,w⟩ rfl)
      |refine tB (Ow _ _ ah) λ_ _=> ?_
  unfold Cw;refine tI (λh=>tB (rN (d.less ah) o (eq_of_beq h)) λ_ h=>tR (e ah h)) λ_=>tI (λh=>j1 _ λ_=> ?_) λ_=>j1 _ λh=> ?_
  all_goals simp_all
end
theorem Y5(d:Nat):∀(n:Nat)(g:BL)(l:ju),3*d+1<=n->GB g (10*cg d)->Uq T d l->B5 (Dl n g l) (GS g (10*cg d)):=by
 induction d with
 |zero=>intro n g l hn e ⟨_,h⟩;obtain⟨n,rfl⟩:∃k,n=k+1:=⟨n-1,ah⟩;have:l=[]:=ABB.2 λx f=>(h x f).elim;subst this;show B5 (CV (P1 n) g []) _;exact tR (GS.refl _ _)
 |succ d ih=>
  intro n g l hn e ⟨h1,h2⟩;obtain⟨n,rfl⟩:∃k,n=k+3:=⟨n-3,ah⟩;show B5 (CV (Cw (DC (Dl n)) (DP (Dl n))) g l) _;have w:cg (d+1)=40+20*cg d:=rfl;unfold CV;refine RI l.length (λi s=>GS g (i*cg (d+1)) s) (F:=λm s i=>CV.AW _ l m s i) ah (GS.refl _ _) λm i s hi j k=> ?_;have y:i*cg (d+1)<=10*cg (d+1):=ABC _ ah;unfold CV.AW CV.L1;refine tD (λt=>tG ah λx f=> ?_) λ_=>tR (j.trans (GS.refl _ 0) ah);have u:(i+1)*cg (d+1)<=10*cg (d+1):=ABC _ ah;have p:(i+1)*cg (d+1)=i*cg (d+1)+cg (d+1):=ABm _ _;have o:∀g,GB g (10*cg d)->B5 (Dl n g x.dx) (GS g (10*cg d)):=λg e=>ih n g _ ah e (h2 x f).body;have q:∀g,GB g (10*cg d)->B5 (Dl n g x.d7) (GS g (10*cg d)):=λg e=>ih n g _ ah e (h2 x f).els;refine tB (AAQ (n:=cg (d+1)) ah (e.next j ah) (h2 x f) (λp g e=> ?_) λg a b c e=> ?_) λv r=>k _ ah (j.trans r ah)
  . exact tM (gZ (n:=10*cg d) (e.less ah) p o q) λ_ h=>h.trans (GS.refl _ 0) ah
  . exact tM (rK (n:=10*cg d) (e.less ah) o a b c) λ_ h=>h.trans (GS.refl _ 0) ah
def rg(i:Ai):List Int:=(Ab i).getD []
theorem HC(i:Ai):Ab i=some (rg i)/\(rg i).length<=3:=by
 have key:B5 (Ab i) λr=>r.length<=3:=by
  unfold Ab Ab.J1 Ab.J2 Ab.J3
  repeat' first|exact tR ak|refine tI (λ_=> ?_) λ_=> ?_
 obtain⟨r,a,b⟩:=key;unfold rg;simp_all
structure CK (c:Bj):Prop where
 n:c.AA.length<=4
 i:∀t∈c.AA,t.B8.length<=8000000
theorem nA(h:MP p):B5 (A2 p) λr=>CK r.1:=by
 have a:=h.t;have I:cg 4=336840:=rfl;unfold A2;obtain⟨v,c,_⟩:=eG h;refine tE c (tI (λ_=>tR ⟨ak,ak⟩) λz=>tB (dX h ⟨v.2,?_⟩) λw J=> ?_)
 . grind
 refine RI p.AA.length (λi (s:Bj×Int)=>s.1.cT=w/\s.1.AA.length=i/\∀t∈s.1.AA,t.B8.length<=8000000) (F:=λn s i=>A2.AW p n s.1 s.2 i) (s0:=(_,_)) ah ⟨rfl,rfl,ak⟩ λn i s hi j k=> ?_;obtain⟨G,L,H⟩:=j;unfold A2.AW A2.L1 A2.J4;refine tD (λ_=>tG ah λx e=> ?_) λ_=>tR ⟨aS,H⟩;have f:=h.l x e;have g0:GB (BL.mk s.1.cT x.G0 [] 0 s.2) 4000000:=⟨am,f,ak⟩;refine tB (Y5 4 _ _ _ (NT ah) (g0.less ah) (h.b x e)) λv c=> ?_;refine tB (Ro (g0.next (c.dt (-1) v.next) ah) _) λu o=> ?_;have d:=o.2;have D:=c.b;simp only[ABc]at d D;refine RI u.dr.length (λ_ (t:A5)=>t.B8=u.dr) (F:=λn t k=>A2.CC _ _ _ _ _ n t k) ah rfl λm q t g a B=> ?_;unfold A2.CC A2.L2 A2.J2 A2.J3;refine tD (λ_=>tG ah λy _=> ?_) λ_=>tC (Bs ah) (k (_,_) ah ⟨G,an,?_⟩)
 . obtain⟨E,K⟩:=HC y;refine tE E (RI (rg y).length (λ_ (t:A5)=>t.B8=u.dr) (F:=λn t k=>A2.Gc _ _ _ n t k) ah a λm q t g a C=> ?_);unfold A2.Gc A2.L3 A2.J1;exact tD (λ_=>tG ah λ_ _=>C _ ah a) λ_=>B _ ah a
 grind
end
theorem take_one{l:List a}(h:k<l.length){P:a->Prop}(c:∀x∈l.take k,P x)(d:P l[k]):∀x∈l.take (k+1),P x:=by intro x b;rw[<- AAp h]at b;grind
theorem aZ{l:List a}(h:l.length<=k){P:a->Prop}(b:∀x∈l.take k,P x):∀x∈l,P x:=by rwa [AA3 h]at b
variable{i:Int}
theorem Ij{l:List a}(h:0<=i/\i<l.length):∃x,gt l i=some x/\l[i.toNat]? =some x/\x∈l:=by
 have:i.toNat<l.length:=ah
 exact⟨l[i.toNat],by simp[gt,h.1,this],by simp[this],AAi this⟩
theorem OA(i n:Int):B5 (Dw i n) λb=>b=true->0<=i/\i<n:=by unfold Dw Dw.J1;exact tD (λh=>tR λa=>⟨h,AAc a⟩) λ_=>tR λh=>by cases h
def TG(w:AF)(b n:Int):Prop:=∃x,gt w.df b=some x/\x.dz=0/\x.B3≠0/\x.B3=n
theorem eA(w:AF)(b n:Int):B5 (FK w b n) λr=>r=true->TG w b n:=by
 have N:∀{f:Prop},B5 (some false) λb:Bool=>b=true->f:=tR λh=>by cases h
 unfold FK FK.J1;refine tB (OA _ _) λv e=>tI (λh=> ?_) λ_=>N;obtain⟨x,a,_⟩:=Ij (e h);exact tE a (tI (λc=>tI (λg=>tR λd=>⟨x,a,eq_of_beq c,am,eq_of_beq d⟩) λ_=>N) λ_=>N)
theorem oM(w:AF)(i:Ai):B5 (AO w i) λb=>b=true->(i.Op=7->TG w i.B i.N)/\(i.Op=9->TG w i.A i.N):=by
 have g:∀b,TT (AO.J8 i w b):=by
  intro b;unfold AO.J8 AO.J9 AO.QP
  repeat' first|exact tR trivial|refine tB (OA _ _) λ_ _=> ?_|refine tI (λ_=> ?_) λ_=> ?_
 have l:∀b,TT (AO.J7 i w b):=by
  intro b;unfold AO.J7
  repeat' first|exact tR trivial|exact g _|refine tB (OA _ _) λ_ _=> ?_|refine tI (λ_=> ?_) λ_=> ?_
 have k:∀b,TT (AO.J5 i w b):=by
  intro b;unfold AO.J5 AO.J6;refine tI (λ_=>tB (OA _ _) λv a=>tI (λh=>tG (a h) λx _=>tR trivial) λ_=>tR trivial) λ_=> ?_
  repeat' grind
 have j:∀b,TT (AO.J3 i w b):=by
  intro b;unfold AO.J3 AO.J4;refine tI (λ_=>tB (OA _ _) λv a=>tI (λh=>tG (a h) λx _=>tR trivial) λ_=>tR trivial) λ_=> ?_
  repeat' grind
 unfold AO AO.J1 AO.J2;have M:∀{o:ABu Bool},TT o->i.Op≠7->i.Op≠9->B5 o λb=>b=true->(i.Op=7->TG w i.B i.N)/\(i.Op=9->TG w i.A i.N):=λh e f=>tM h λ_ _ _=>⟨λh=>absurd h e,λh=>absurd h f⟩;refine tI (λh=>M (tB (OA _ _) λv a=>tI (λh=>tG (a h) λx _=>tR trivial) λ_=>tR trivial) ?_ ?_) λm=>tI (λh=>M (tB (OA _ _) λv a=>tI (λh=>tG (a h) λx _=>tR trivial) λ_=>tR trivial) ?_ ?_) λp=> ?_
 . simp_all
 . simp_all
 . simp_all
 . simp_all
 . refine tI (λh=>tB (eA _ _ _) λv a=>tR λc=>⟨λ_=>a c,λd=> ?_⟩) λn=>tI (λh=>tB (eA _ _ _) λv a=>tR λc=>⟨λd=> ?_,λ_=>a c⟩) λq=> ?_
   all_goals grind
def pY(o:Int):Bool:=decide (1<=o)&&decide (o<=5)
theorem RT(o:Int):Gg o=some (pY o):=by unfold Gg Gg.J1 pY;grind
variable{l:li}
theorem lands_tot(b:l.length<=8000000)(a:Int):TT (CW l a):=by unfold CW;refine RI (l.length+1) (λ_ _=>True) (F:=λn s i=>CW.AW l n s i) ah trivial λn i s hi _ k=> ?_;unfold CW.AW CW.L1 CW.J1 CW.J2 CW.J3;refine tD (λ_=>tD (λ_=>tR trivial) λ_=>tD (λ_=>tR trivial) λ_=>tG ah λx _=>tE (RT _) ?_) λ_=>tR trivial;exact tI (λ_=>tR trivial) λ_=>tI (λ_=>k _ ah trivial) λ_=>k _ ah trivial
def aT(w:AF)(t:Int)(x:Ai):Prop:=if x.Op=28 then x.d3= -1 else∃y,gt w.Be x.d3=some y/\y.cr=t
structure VI (w:AF) (t R:Int) (x:Ai):Prop where
 o:1<=x.Op/\x.Op<=28
 g:∀y∈rg x,0<=y/\y<R
 s:aT w t x
 a:(x.Op=7->TG w x.B x.N)/\(x.Op=9->TG w x.A x.N)
structure VT (w:AF) (t:Int) (c:A5):Prop where
 r:0<=c.C3/\c.C3<=32
 i:∀x∈c.B8,VI w t c.C3 x
theorem X2(w:AF)(t:Int){c:A5}(D:c.B8.length<=8000000):B5 (AZ w t c) λb=>b=true->VT w t c:=by
 have N:∀{J:Prop},B5 (some false) λb:Bool=>b=true->J:=tR λh=>by cases h
 have j1:∀b,(b=false->0<=c.C3/\c.C3<=32)->B5 (AZ.J1 c t w b) λb=>b=true->VT w t c:=by
  intro b p;unfold AZ.J1;refine tI (λ_=>N) λC=>RI c.B8.length (λi (_:Unit)=>∀x∈c.B8.take i,VI w t c.C3 x) (s0:=()) (F:=λn _ i=>AZ.AW c t w n i) ah ak λn i _ hi q k=> ?_;unfold AZ.AW AZ.L1 AZ.J6;refine tD (λg=>gC ah ?_) λM=>tR λ_=>⟨p C,aZ ah q⟩;have g:i<c.B8.length:=ah
  generalize E:c.B8[i]=x;have H:∀b,(b=false->(1<=x.Op/\x.Op<=28)/\aT w t x/\(x.Op=7->TG w x.B x.N)/\(x.Op=9->TG w x.A x.N))->B5 (AZ.J4 (AZ.AW c t w n) c i x b) λb=>b=true->VT w t c:=by intro b a;unfold AZ.J4;refine tI (λ_=>N) λd=>tE (HC x).1 (RI (rg x).length (λi (_:Unit)=>∀y∈(rg x).take i,0<=y/\y<c.C3) (s0:=()) (F:=λn _ i=>AZ.CC _ c _ (rg x) n i) (by have:=(HC x).2;omega) ak λm j _ K s I=> ?_);unfold AZ.CC AZ.L2 AZ.J5;refine tD (λ_=>gC ah (tB (OA _ _) λv e=>tI (λ_=>N) λh=>I () ah (take_one ah s (e aS)))) λ_=>k () g (take_one g q (by rw[E];exact⟨(a d).1,aZ ah s,(a d).2.1,(a d).2.2⟩))
  have o:∀b,(b=false->(1<=x.Op/\x.Op<=28)/\aT w t x/\(x.Op=7->TG w x.B x.N)/\(x.Op=9->TG w x.A x.N))->B5 (AZ.J3 (AZ.AW c t w n) c i x b) λb=>b=true->VT w t c:=by
   intro b a;unfold AZ.J3;refine tI (λ_=>N) λd=> ?_
   repeat' first|exact H _ λ_=>a d|refine tB (OA _ _) λ_ _=> ?_|refine tI (λ_=> ?_) λ_=> ?_
  have f:∀b,(b=false->(1<=x.Op/\x.Op<=28)/\(x.Op=7->TG w x.B x.N)/\(x.Op=9->TG w x.A x.N))->B5 (AZ.J2 (AZ.AW c t w n) c i t w x b) λb=>b=true->VT w t c:=by
   intro b a;unfold AZ.J2;refine tI (λ_=>N) λd=> ?_;obtain⟨u,z⟩:=a d;have T:∀b,b=true->B5 (AZ.J3 (AZ.AW c t w n) c i x b) λb=>b=true->VT w t c:=λb p=>o b λh=>am;refine tI (λl=>tI (λ_=>T _ rfl) λr=>tI (λh=>am) λ_=>o _ λ_=>⟨u,?_,z⟩) λl=>tI (λ_=> ?_) λh=>am
   . unfold aT;simp_all
   . refine tB (OA _ _) λv e=>tI (λ_=>T _ rfl) λh=> ?_;obtain⟨y,G,_⟩:=Ij (e aS);refine tE G (o _ λL=>⟨u,?_,z⟩);unfold aT;simp_all
  refine tD (λ_=>f _ λh=>by cases h) λ_=>tD (λ_=>f _ λh=>by cases h) λ_=> ?_;have a:1<=x.Op/\x.Op<=28:=ah
  exact tI (λ_=>f _ λh=>by cases h) λ_=>tB (oM _ _) λv e=>tI (λ_=>f _ λh=>by cases h) λh=>JQ (lands_tot D _) λ_=>f _ λ_=>⟨a,e aS⟩
 unfold AZ;grind
structure VC (c:Bj):Prop where
 w:Cy c.cT=true
 n:c.AA.length=c.cT.AA.length
 t:∀(i:Nat) t,c.AA[i]? =some t->VT c.cT i t
variable{c:Bj}
theorem RU(e:CK c):B5 (CJ c) λb=>b=true->VC c:=by
 have N:∀{l:Prop},B5 (some false) λb:Bool=>b=true->l:=tR λh=>by cases h
 have hn:=e.n;have j1:∀b,(b=false->Cy c.cT=true/\c.AA.length=c.cT.AA.length)->B5 (CJ.J1 c b) λb=>b=true->VC c:=by
  intro b d;unfold CJ.J1;refine tI (λ_=>N) λa=>RI c.AA.length (λi (_:Unit)=>∀(j:Nat) x,j<i->c.AA[j]? =some x->VT c.cT j x) (s0:=()) (F:=λn _ i=>CJ.AW c n i) ah (λj _ h=>ah) λn i _ hi f k=> ?_;unfold CJ.AW CJ.L1 CJ.J2;refine tD (λm=>gC ah (tB (X2 _ _ (e.i _ (AAi ah))) λv p=>tI (λ_=>N) λh=>k () ah ?_)) λ_=>tR λ_=>⟨(d a).1,(d a).2,λj x g=>f j x ?_ g⟩
  . grind
  . grind
 unfold CJ;refine tE (Ky _) (tI (λ_=>j1 _ λh=>by cases h) λh=>j1 _ λo=>⟨aS,?_⟩);grind
def NJ(o:ABu a)(Q:a->Prop):Prop:=∀r,o=some r->Q r
theorem pR{r:a}{Q:a->Prop}(h:Q r):NJ (some r) Q:=λ_ e=>am
theorem pN{Q:a->Prop}:NJ (none:ABu a) Q:=λ_ e=>by cases e
variable{b:Type}
theorem pB{o:ABu a}{Q:a->Prop}{f:a->ABu b}{R:b->Prop}(h:NJ o Q)(k:∀x,Q x->NJ (f x) R):NJ (o.bind f) R:=by
 intro r e;cases o with
 |none=>cases e
 |some x=>exact k x (h x rfl) r e
def pB'{o:ABu a}{f:a->ABu b}{R:b->Prop}(k:∀x,NJ (f x) R):NJ (o.bind f) R:=pB (Q:=λ_=>True) (λ_ _=>trivial) λx _=>k x
theorem pE{o:ABu a}{y:a}{f:a->ABu b}{R:b->Prop}(h:o=some y)(k:NJ (f y) R):NJ (o.bind f) R:=am
theorem pC{p:Prop}[Decidable p]{a:ABu b}{R:b->Prop}(k:p->NJ a R):NJ (if p then a else none) R:=by
 by_cases h:p
 . simp_all
 . rw[AAa h];exact pN
theorem pI{c:Bool}{d b:ABu a}{R:a->Prop}(e:c=true->NJ d R)(f:c=false->NJ b R):NJ (if c=true then d else b) R:=aS
theorem pD{p:Prop}[Decidable p]{c b:ABu a}{R:a->Prop}(d:p->NJ c R)(e:¬p->NJ b R):NJ (if decide p=true then c else b) R:=aS
def pM{o:ABu a}{Q R:a->Prop}(h:NJ o Q)(k:∀x,Q x->R x):NJ o R:=λr e=>k r (h r e)
theorem pT{o:ABu a}{Q:a->Prop}(h:B5 o Q):NJ o Q:=by obtain⟨x,rfl,b⟩:=h;exact pR b
def pA{o:ABu a}{P Q:a->Prop}(h:NJ o P)(k:NJ o Q):NJ o λr=>P r/\Q r:=λr e=>⟨h r e,k r e⟩
theorem tP{o:ABu a}{P Q:a->Prop}(h:B5 o P)(k:NJ o Q):B5 o λr=>P r/\Q r:=by obtain⟨x,e,b⟩:=h;exact⟨x,e,b,k x e⟩
theorem pLs{Q:b->Prop}(N:Nat)(I:Nat->a->Prop){F:Nat->a->Int->ABu b}(f:∀s i,F 0 s i=none)(k:N<1000000000000){s0:a}(c:I 0 s0)(h:∀n (i:Nat) s,i<=N->I i s->(∀D,i<N->I (i+1) D->NJ (F n D (A6 (i+1))) Q)->NJ (F (n+1) s i) Q):NJ (F BT s0 0) Q:=by
 have key:∀n (i:Nat) s,i<=N->I i s->NJ (F n s i) Q:=by
  intro n;induction n with
  |zero=>intro i s _ _;rw[f];exact pN
  |succ n ih=>intro i s d e;refine h n i s d e λD g j=> ?_;rw[Af ah];grind
 exact key BT 0 s0 ah c
def StI(l:li)(k m:Nat):Prop:=∃x,l[k]? =some x/\pY x.Op=true/\(x.Op=5/\x.A=(m:Int)\/x.Op≠5/\m=k+1)
def Rx(l:li)(a b:Nat):Nat->Nat->Nat->Prop
 |0,k,m=>k=m
 |n+1,k,m=>(a<=k/\k<b)/\∃j,StI l k j/\Rx l a b n j m
def Ev(l:li)(m:Nat):Prop:=∃x,l[m]? =some x/\pY x.Op=false
variable{l':li}{u:Nat}
theorem Rx.frame{d:Nat}(h:∀i,k<=i->i<E->l[i]? =l'[i]?)(f:u<=k)(g:E<=d):∀{n a m},Rx l k E n a m->Rx l' u d n a m
 |0,_,_,e=>e
 |n+1,a,m,⟨⟨h1,h2⟩,j,⟨x,x1,x2⟩,h4⟩=>⟨⟨ah,ah⟩,j,⟨x,am,x2⟩,h4.frame h f g⟩
theorem Rx.trans:∀{n a m p q},Rx l k E n a m->Rx l k E p m q->Rx l k E (n+p) a q
 |0,_,_,p,_,e,h=>by cases e;simp_all
 |n+1,_,_,p,_,⟨h1,j,h2,h3⟩,h=>by rw[Nat.succ_add];exact⟨h1,j,h2,h3.trans h⟩
def Rx.one(h:E<=k/\k<n)(s:StI l k u):Rx l E n 1 k u:=⟨h,u,s,rfl⟩
structure LV (w:AF) (lo hi:Int) (c:Nat) (x:Ai):Prop where
 o:1<=x.Op/\x.Op<=27
 ob:AO w x=some true
 g:∀y∈rg x,0<=y/\y<32
 s:lo<=x.d3/\x.d3<hi
 j:x.Op=5->0<=x.A/\x.A<=c
 b:x.Op=10->0<=x.B/\x.B<=c
structure SG (w:AF) (lo hi:Int) (l:List Ai) (a b c:Nat):Prop where
 h:a<=b/\b<=l.length
 i:∀k x,a<=k->k<b->l[k]? =some x->LV w lo hi c x
 f:∀k,a<=k->k<b->(∃n m,Rx l a b n k m/\(a<=m/\m<b)/\Ev l m/\n+a+1<=b)\/∃n,Rx l a b n k b/\n+k<=b
variable{x:Ai}
section
variable{w:AF}{lo hi lo' hi':Int}{l l':li}{a b c d:Nat}
theorem LV.mono(h:LV w lo hi c x)(a:lo'<=lo)(f:hi<=hi')(i:c<=d):LV w lo' hi' d x:=
 ⟨h.o,h.ob,h.g,⟨by have:=h.s;omega,by have:=h.s;omega⟩,λe=>by have:=h.j e;omega,λe=>by have:=h.b e;omega⟩
theorem SG.frame(h:SG w lo hi l a b c)(j:∀i,a<=i->i<b->l[i]? =l'[i]?)(s:b<=l'.length)(o:lo'<=lo)(p:hi<=hi')(q:c<=d):SG w lo' hi' l' a b d:=by
 refine⟨⟨h.h.1,s⟩,λk x e g v=>(h.i k x e g am).mono o p q,λk e g=> ?_⟩;rcases h.f k e g with⟨n,m,r,t,⟨x,y,u⟩,hn⟩|⟨n,r,hn⟩
 . exact .inl ⟨n,m,r.frame j ah ah,t,⟨x,am,u⟩,hn⟩
 . exact .inr ⟨n,r.frame j ah ah,hn⟩
def SG.mono(h:SG w lo hi l a b c)(e:lo'<=lo)(f:hi<=hi')(g:c<=d):SG w lo' hi' l a b d:=h.frame (λ_ _ _=>rfl) h.h.2 e f g
theorem SG.nil(h:a<=l.length):SG w lo hi l a a c:=⟨⟨ah,h⟩,λk x _ _=>ah,λk _ _=>ah⟩
theorem SG.app(h:SG w lo hi l a b c)(g:SG w lo hi l b k c):SG w lo hi l a k c:=by
 have B:=h.h;have z:=g.h;refine⟨⟨ah,z.2⟩,λe x q s v=> ?_,λe q s=> ?_⟩
 . by_cases o:e<b
   . exact h.i e x q o v
   . exact g.i e x ah s v
 . have up:∀{n e m},Rx l b k n e m->Rx l a k n e m:=λr=>r.frame (λ_ _ _=>rfl) ah ah;have d:∀{n e m},Rx l a b n e m->Rx l a k n e m:=λr=>r.frame (λ_ _ _=>rfl) ah ah;by_cases o:e<b
   . rcases h.f e q o with⟨n,m,r,y,ev,hn⟩|⟨n,r,hn⟩
     . grind
     . by_cases j:b<k
       . rcases g.f b ah j with⟨t,m,u,y,ev,p⟩|⟨t,u,p⟩
         . exact .inl ⟨n+t,m,(d r).trans (up u),ah,ev,ah⟩
         . exact .inr ⟨n+t,(d r).trans (up u),ah⟩
       grind
   . rcases g.f e ah s with⟨n,m,r,y,ev,hn⟩|⟨n,r,hn⟩
     all_goals grind
theorem SG.one(b:l[a]? =some x)(h:LV w lo hi c x)(d:x.Op≠5):SG w lo hi l a (a+1) c:=by
 have g:=(AAV.1 b).1;refine⟨⟨ah,ah⟩,λk y e f i=> ?_,λk e f=> ?_⟩
 . grind
 . obtain rfl:k=a:=ah;cases hs:pY x.Op with
   |false=>exact .inl ⟨0,k,rfl,ah,⟨x,b,hs⟩,ah⟩
   |true=>exact .inr ⟨1,Rx.one ah ⟨x,b,hs,.inr ⟨d,rfl⟩⟩,ah⟩
theorem SG.jump(h:SG w lo hi l a k c)(B:l[k]? =some x)(e:LV w lo hi c x)(t:x.Op=5)(z:x.A=(E:Int))(g:SG w lo hi l (k+1) E c):SG w lo hi l a E c:=by
 have D:=h.h;have v:=g.h;have s:StI l k E:=⟨x,B,by rw[t];rfl,.inl ⟨t,z⟩⟩;have up:∀{n j m},Rx l (k+1) E n j m->Rx l a E n j m:=λr=>r.frame (λ_ _ _=>rfl) ah ah;have p:∀{n j m},Rx l a k n j m->Rx l a E n j m:=λr=>r.frame (λ_ _ _=>rfl) ah ah;refine⟨⟨ah,v.2⟩,λj y d o u=> ?_,λj d o=> ?_⟩
 . by_cases b:j<k
   . exact h.i j y d b u
   . by_cases q:j=k
     . simp_all
     . exact g.i j y ah o u
 . by_cases b:j<k
   . rcases h.f j d b with⟨n,m,r,C,ev,hn⟩|⟨n,r,hn⟩
     . grind
     . exact .inr ⟨n+1,(p r).trans (Rx.one ah s),ah⟩
   . by_cases q:j=k
     . subst q;exact .inr ⟨1,Rx.one ah s,ah⟩
     . rcases g.f j ah o with⟨n,m,r,C,ev,hn⟩|⟨n,r,hn⟩
       all_goals grind
theorem SG.back{p j:Nat}{x y:Ai}(h:SG w lo hi l a p c)(L:l[p]? =some y)(M:LV w lo hi c y)(o:pY y.Op=false)(g:SG w lo hi l (p+1) j c)(D:l[j]? =some x)(S:LV w lo hi c x)(C:x.Op=5)(J:x.A=(a:Int)):SG w lo hi l a (j+1) c:=by
 have Q:=h.h;have P:=g.h;have R:=(AAV.1 D).1;have s:StI l j a:=⟨x,D,by rw[C];rfl,.inl ⟨C,J⟩⟩;have up:∀{n k m},Rx l (p+1) j n k m->Rx l a (j+1) n k m:=λr=>r.frame (λ_ _ _=>rfl) ah ah;have O:∀{n k m},Rx l a p n k m->Rx l a (j+1) n k m:=λr=>r.frame (λ_ _ _=>rfl) ah ah;have B:Ev l p:=⟨y,L,o⟩
 -- from the beginning on
 have d:∃n m,Rx l a (j+1) n a m/\(a<=m/\m<j+1)/\Ev l m/\n+a<=p:=by
  by_cases K:a<p
  . rcases h.f a ah K with⟨n,m,r,G,ev,hn⟩|⟨n,r,hn⟩
    all_goals grind
  . have:a=p:=ah;exact⟨0,p,this,ah,B,ah⟩
 obtain⟨H,F,I,u,v,T⟩:=d;refine⟨⟨ah,ah⟩,λk z q N E=> ?_,λk q N=>.inl ?_⟩
 . by_cases e:k<p
   . exact h.i k z q e E
   . by_cases t:k=p
     . simp_all
     . by_cases b:k<j
       . exact g.i k z ah b E
       grind
 . by_cases e:k<p
   . rcases h.f k q e with⟨n,m,r,G,ev,hn⟩|⟨n,r,hn⟩
     all_goals grind
   . by_cases t:k=p
     . subst t;exact⟨0,k,rfl,ah,B,ah⟩
     . by_cases b:k<j
       . rcases g.f k ah b with⟨n,m,r,G,ev,hn⟩|⟨n,r,hn⟩
         . grind
         . exact⟨n+(1+H),F,(up r).trans ((Rx.one ah s).trans I),u,v,ah⟩
       . obtain rfl:k=j:=ah;exact⟨1+H,F,(Rx.one ah s).trans I,u,v,ah⟩
end
def TB(E:Int)(x:iq):Prop:=x.Pairwise (· < ·)/\∀y∈x,0<=y/\y<E
theorem TB.len{E:Int}(h:TB E W)(d:0<=E):(W.length:Int)<=E:=by
 have key:∀(W:iq)(a:Int),W.Pairwise (· < ·)->(∀y∈W,a<=y/\y<E)->a<=E->(W.length:Int)<=E-a:=by
  intro W;induction W with
  |nil=>simp_all
  |cons y r ih=>
   intro a e b i;obtain⟨f,g⟩:=List.pairwise_cons.1 e;have j:=b y ABT
   have:=ih (y+1) g (λz c=>⟨f z c,(b z (ABg _ c)).2⟩) ah;grind
 have:=key W 0 h.1 h.2 d;omega
variable{o:Int}
theorem TB.mono(h:TB i W)(b:i<=o):TB o W:=⟨h.1,λy a=>⟨(h.2 y a).1,by have:=(h.2 y a).2;omega⟩⟩
structure TH (E:Nat) (s:AN):Prop where
 r:s.C3.length<=100
 t:s.Cx.length<=100
 b:∀x∈s.Cx,TB s.AB x
 e:0<=s.AB/\s.AB<=E
theorem TH.zero(E:Nat):TH E ⟨0,[],[],0⟩:=⟨ak,ak,ak,ak,ak⟩
theorem lX{s:AN}(h:TH E s)(f:E<=100000):Fp s=some s:=by
 have g:=h.r;have j:=h.t;have c:=h.e;have key:B5 (Fp s) λr=>r=s:=by
  unfold Fp;refine tC (Bs ah) (RI s.Cx.length (λi o=>o=⟨s.PC,s.C3,s.Cx.take i,s.AB⟩) (F:=λn o i=>Fp.AW s n o i) ah rfl λn i o hi d k=> ?_);subst d;unfold Fp.AW Fp.L1 Fp.J1;refine tD (λ_=>gC ah ?_) λ_=>tR (by rw[AA3 (by omega)])
  have:=(h.b _ (AAi (show i<s.Cx.length by omega))).len c.1;exact tC (Bs ah) (tC (Bs an) (k _ ah am))
 obtain⟨r,a,rfl⟩:=key;exact a
theorem rg1(h:x.Op=1):rg x=[x.A]:=by unfold rg Ab Ab.J1;simp[h]
theorem rg2(h:x.Op=2):rg x=[x.A,x.B]:=by unfold rg Ab Ab.J1 Ab.J2;simp[h]
theorem rg3(h:x.Op=3):rg x=[x.A,x.B]:=by unfold rg Ab Ab.J1 Ab.J2;simp[h]
theorem rg4(h:x.Op=4):rg x=[x.A,x.B,x.C]:=by unfold rg Ab Ab.J1 Ab.J2;simp[h]
theorem rg6(h:x.Op=6):rg x=[x.A]:=by unfold rg Ab Ab.J1;simp[h]
theorem rg7(h:x.Op=7):rg x=[x.A,x.C]:=by unfold rg Ab Ab.J1 Ab.J2;simp[h]
theorem rg8(h:x.Op=8):rg x=[x.B]:=by unfold rg Ab Ab.J1 Ab.J2 Ab.J3;simp[h]
theorem rg9(h:x.Op=9):rg x=[x.B,x.C]:=by unfold rg Ab Ab.J1 Ab.J2 Ab.J3;simp[h]
theorem rg10{i:Ai}(h:i.Op=10):rg i=[i.A]:=by unfold rg Ab Ab.J1;simp[h]
theorem rg26{i:Ai}(h:i.Op=26):rg i=[i.B]:=by unfold rg Ab Ab.J1 Ab.J2 Ab.J3;simp[h]
theorem rg27{i:Ai}(h:i.Op=27):rg i=[i.A]:=by unfold rg Ab Ab.J1;simp[h]
theorem Ut(n:Int):TT (Ez n):=by
 unfold Ez Ez.J1
 repeat' first|exact tR trivial|refine tI (λ_=> ?_) λ_=> ?_
theorem gE(b:Bool):TT (EV b):=by unfold EV;exact tI (λ_=>tR trivial) λ_=>tR trivial
theorem yH(o a:Int):TT (Ly o a):=by
 unfold Ly
 repeat' first|exact tR trivial|refine JQ (gE _) λ_=> ?_|refine tI (λ_=> ?_) λ_=> ?_
theorem qV(o a b:Int):TT (Gf o a b):=by
 unfold Gf Gf.J1 Gf.J2
 repeat' first|exact tR trivial|refine JQ (gE _) λ_=> ?_|refine tD (λ_=>tR trivial) λc=>tC c ?_|refine tI (λ_=> ?_) λ_=> ?_
variable{j:nq}
theorem step_tot{s:AN}(d:TH E s)(m:∀i∈s.Cx,∀k∈i,j k)(S:E<=100000)(G:s.Cx.length=s.C3.length)(H:pY x.Op=true):B5 (Ep x s) λr=>r.2=true->(TH E r.1/\r.1.Cx.length=r.1.C3.length)/\r.1.AB=s.AB/\∀i∈r.1.Cx,∀k∈i,j k:=by
 have N:∀{i} {j:AN×Bool->Prop},B5 (some (i,false)) λr:AN×Bool=>r.2=true->j r:=tR λh=>by cases h
 have g:=d.e;have I:=d.r;have J:=d.t;have l:∀v ok t,0<=x.A/\x.A<s.C3.length->TB s.AB t->(∀k∈t,j k)->B5 (Ep.J3 x s v ok t) λr=>r.2=true->(TH E r.1/\r.1.Cx.length=r.1.C3.length)/\r.1.AB=s.AB/\∀i∈r.1.Cx,∀k∈i,j k:=by
  intro v ok t D o K
  have:=o.len g.1;unfold Ep.J3;refine tC (Bs ah) (tG D λ_ _=>tG ah λ_ _=>tR λ_=>⟨⟨⟨am,am,?_,g⟩,am⟩,rfl,?_⟩)
  . intro i c;rcases AA7 c with c|rfl
    . exact d.b i c
    omega
  . grind
 have L:(∀y∈rg x,0<=y/\y<s.C3.length)->B5 (Ep.J2 x s) λr=>r.2=true->(TH E r.1/\r.1.Cx.length=r.1.C3.length)/\r.1.AB=s.AB/\∀i∈r.1.Cx,∀k∈i,j k:=by
  intro a;unfold Ep.J2;refine tI (λ_=>tR λ_=>⟨⟨⟨I,J,d.b,g⟩,G⟩,rfl,m⟩) λR=>tI (λu=> ?_) λM=>tI (λw=> ?_) λO=>tI (λB=> ?_) λQ=> ?_
  . simp only[rg1 (eq_of_beq u),AAw,forall_eq]at a;exact l _ _ _ a ⟨List.Pairwise.nil,ak⟩ ak
  . simp only[rg2 (eq_of_beq w),AAr,ABL,ABK,forall_eq_or_imp,forall_eq]at a;exact tG a.2 λ_ _=>tG ah λi c=>l _ _ _ a.1 (d.b i c) (m i c)
  . simp only[rg3 (eq_of_beq B),AAr,ABL,ABK,forall_eq_or_imp,forall_eq]at a;exact JQ (Ut _) λ_=>tG a.2 λ_ _=>JQ (yH _ _) λ_=>tG ah λi c=>l _ _ _ a.1 (d.b i c) (m i c)
  . have C:x.Op=4:=(by simp[pY]at H R M O Q;omega);simp only[rg4 C,AAr,ABL,ABK,forall_eq_or_imp,forall_eq]at a;refine JQ (Ut _) λ_=>tG a.2.1 λ_ _=>tG a.2.2 λ_ _=>JQ (qV _ _ _) λ_=>tG ah λi c=>tG ah λy p=> ?_;have U:=(d.b i c).len g.1;have V:=(d.b y p).len g.1;refine tE (mB i y ah) (l _ _ _ a.1 ⟨MI _,λz f=> ?_⟩ λz f=> ?_)
    . rcases AAo.1 ((Kg _ _).1 f)with f|f
      . exact(d.b i c).2 z f
      . exact(d.b y p).2 z f
    . rcases AAo.1 ((Kg _ _).1 f)with f|f
      all_goals grind
 unfold Ep;refine tE (HC x).1 (RI (rg x).length (λP (_:Unit)=>∀y∈(rg x).take P,0<=y/\y<(s.C3.length:Int)) (s0:=()) (F:=λn _ P=>Ep.AW x s (rg x) n P) (by have:=(HC x).2;omega) ak λn P _ T q k=> ?_);unfold Ep.AW Ep.L1 Ep.J1;refine tD (λ_=>gC ah (tD (λ_=>tI (λ_=>N) λh=>by cases h) λ_=>tD (λ_=>N) λ_=>k () ah (take_one ah q ah))) λ_=>L (aZ ah q)
def RS:AN:=⟨0,[],[],0⟩
theorem rB{c:A5}{s:AN}(e:TH E s)(g:∀x∈s.Cx,∀k∈x,j k)(d:E<=100000)(m:c.B8.length<=8000000):B5 (Dz c s) λr=>TH E r.1/\(r.1=RS\/r.1.AB=s.AB/\∀x∈r.1.Cx,∀k∈x,j k):=by
 have Z:TH E RS/\(RS=RS\/RS.AB=s.AB/\∀x∈RS.Cx,∀k∈x,j k):=⟨TH.zero E,.inl rfl⟩;have j1:∀b,(b=false->s.Cx.length=s.C3.length)->B5 (Dz.J1 c s b) λr=>TH E r.1/\(r.1=RS\/r.1.AB=s.AB/\∀x∈r.1.Cx,∀k∈x,j k):=by intro b l;unfold Dz.J1;refine tI (λ_=>tR Z) λf=>tE (lX e d) (RI (c.B8.length+1) (λ_ t=>(TH E t/\t.Cx.length=t.C3.length)/\t.AB=s.AB/\∀x∈t.Cx,∀k∈x,j k) (F:=λn s P=>Dz.AW c n s P) ah ⟨⟨e,l f⟩,rfl,g⟩ λn i t hi a k=> ?_);unfold Dz.AW Dz.L1 Dz.J2 Dz.J3;refine tD (λ_=>tD (λ_=>tI (λ_=>tR Z) λh=>by cases h) λ_=>tD (λ_=>tR Z) λ_=>tG ah λx _=>tE (RT _) (tI (λ_=>tR ⟨a.1.1,.inr a.2⟩) λh=>tI (λ_=>tR Z) λ_=> ?_)) λ_=>tR Z;exact tB (step_tot a.1.1 a.2.2 d a.1.2 aS) λv o=>tI (λ_=>tR Z) λh=>k _ ah aS
 unfold Dz;grind
def ZY:List Kj:=[⟨⟨#[109]⟩,false⟩,⟨⟨#[110]⟩,false⟩,⟨⟨#[114]⟩,true⟩]
def W9:AF:=⟨MM,[],[],[],[],[]⟩
structure WF (T:ABv->Prop) (w:AF):Prop where
 c:w.df=MM
 l:w.AK=ZY
 d:w.Ak=[⟨cN,0⟩]
 f:w.AL=[⟨#[102]⟩]
 t:∀s,T s->s∈w.AA
 n:w.AA.length<=4
structure GW (T:ABv->Prop) (g:BL):Prop where
 w:WF T g.w
 l:g.dq=cL
theorem NR(h:w.df=MM)(s:ABv):Bz w s=Bz W9 s:=by
 unfold Bz;have key:∀n i,Bz.AW s w n i=Bz.AW s W9 n i:=by
  intro n;induction n with
  |zero=>exactλ_=>rfl
  |succ n ih=>intro i;unfold Bz.AW Bz.L1;rw[h,show W9.df=MM from rfl];simp_all
 grind
theorem eW{l:List a}{x:a}(h:gt l i=some x):0<=i/\i<l.length:=by unfold gt at h;grind
theorem JW(h:0<=i/\i<o):Dw i o=some true:=by unfold Dw Dw.J1;simp_all
theorem uJ(h:x.Op∈[(1:Int),2,5,10,17,18,19,20]):AO w x=some true:=by simp only[AAr,ABL,ABK]at h;rcases h with h|h|h|h|h|h|h|h<;>simp[AO,AO.J3,AO.J5,AO.J7,AO.J8,h]
theorem obj4(h:x.Op=4)(hn:6<=x.N/\x.N<=18):AO w x=some true:=by simp[AO,AO.J3,AO.J5,AO.J7,AO.J8,AO.QP,h,hn.1,hn.2]
variable{y:Du}
theorem obj6(h:x.Op=6)(a:gt w.df x.B=some y)(b:y.B3=0):AO w x=some true:=by simp[AO,AO.J1,h,JW (eW a),a,b]
theorem obj8(h:x.Op=8)(a:gt w.df x.A=some y)(b:y.B3=0):AO w x=some true:=by simp[AO,AO.J2,h,JW (eW a),a,b]
theorem mM(a:gt w.df i=some y)(hi:y.dz=0)(c:y.B3≠0)(hn:y.B3=o):FK w i o=some true:=by subst hn;simp[FK,FK.J1,JW (eW a),a,hi,c]
theorem obj7(h:x.Op=7)(b:gt w.df x.B=some y)(hi:y.dz=0)(a:y.B3≠0)(hn:y.B3=x.N):AO w x=some true:=by simp[AO,h,mM b hi a hn]
theorem obj9(h:x.Op=9)(b:gt w.df x.A=some y)(hi:y.dz=0)(a:y.B3≠0)(hn:y.B3=x.N):AO w x=some true:=by simp[AO,h,mM b hi a hn]
theorem objM{y:Kj}(h:x.Op=11\/x.Op=12)(a:gt w.AK x.A=some y)(b:y.RW=false):AO w x=some true:=by rcases h with h|h<;>simp[AO,AO.J3,AO.J4,h,JW (eW a),a,b]
theorem objR{y:Kj}(h:x.Op=13\/x.Op=14\/x.Op=15\/x.Op=16)(a:gt w.AK x.A=some y)(b:y.RW=true):AO w x=some true:=by rcases h with h|h|h|h<;>simp[AO,AO.J3,AO.J5,AO.J6,h,JW (eW a),a,b]
theorem objC(h:x.Op=21\/x.Op=22\/x.Op=23)(a:0<=x.A/\x.A<w.Ak.length):AO w x=some true:=by rcases h with h|h|h<;>simp[AO,AO.J3,AO.J5,AO.J7,h,JW a]
theorem objT(h:x.Op=24\/x.Op=25)(a:0<=x.A/\x.A<w.AA.length):AO w x=some true:=by rcases h with h|h<;>simp[AO,AO.J3,AO.J5,AO.J7,AO.J8,h,JW a]
theorem obj26(h:x.Op=26)(a:0<=x.A/\x.A<w.AL.length):AO w x=some true:=by simp[AO,AO.J3,AO.J5,AO.J7,AO.J8,h,JW a]
theorem obj27(h:x.Op=27)(a:0<=x.B/\x.B<w.AL.length):AO w x=some true:=by simp[AO,AO.J3,AO.J5,AO.J7,AO.J8,h,JW a]
theorem rg0(h:x.Op=5\/11<=x.Op/\x.Op<=25\/x.Op=28):rg x=[]:=by have n:∀k:Int,x.Op≠k->(x.Op==k)=false:=λk h=>ABZ.2 h;unfold rg Ab Ab.J1 Ab.J2 Ab.J3;simp[n 1 ah,n 2 ah,n 3 ah,n 4 ah,n 6 ah,n 7 ah,n 8 ah,n 9 ah,n 10 ah,n 26 ah,n 27 ah]
def NameF(x:ABv):Prop:=(∃e,Ch cL x=some e/\0<=e/\e<2)\/(∃e,Ch cL x=some e/\e<0)/\∃c y,Bz W9 x=some c/\gt MM c=some y/\y.B3=0
theorem name_f{x:ABv}(h:x∈vN):NameF x:=by
 unfold vN at h;simp only[AAr,ABL,ABK]at h;rcases h with rfl|rfl|rfl|rfl|rfl
 . exact .inl ⟨0,by decide +kernel,ah,ah⟩
 . exact .inl ⟨1,by decide +kernel,ah,ah⟩
 . exact .inr ⟨⟨-1,by decide +kernel,ah⟩,0,_,by decide +kernel,rfl,rfl⟩
 . exact .inr ⟨⟨-1,by decide +kernel,ah⟩,1,_,by decide +kernel,rfl,rfl⟩
 . exact .inr ⟨⟨-1,by decide +kernel,ah⟩,2,_,by decide +kernel,rfl,rfl⟩
theorem q_at:Bz W9 qS=some 3:=by decide +kernel
structure GV (g r:BL) (lo hi:Int):Prop where
 w:r.w=g.w
 l:r.dq=g.dq
 n:g.dr.length<=r.dr.length
 p:∀i,i<g.dr.length->r.dr[i]? =g.dr[i]?
 s:SG g.w lo hi r.dr g.dr.length r.dr.length r.dr.length
section
variable{T:kp}{g h r:BL}{lo hi lo' hi':Int}
def GV.refl:GV g g lo hi:=⟨rfl,rfl,AAv _,λ_ _=>rfl,SG.nil (AAv _)⟩
theorem GV.trans(a:GV g h lo hi)(b:GV h r lo hi):GV g r lo hi:=by
 have c:=a.n;have e:=b.n;refine⟨b.w.trans a.w,b.l.trans a.l,ah,λi hi=>(b.p i ah).trans (a.p i hi),(a.s.frame (l':=r.dr) (d:=r.dr.length) (λi _ hi=>(b.p i hi).symm) ah ah ah ah).app ?_⟩
 have:=b.s;rw[a.w]at this;exact this
def GV.mono(a:GV g r lo hi)(b:lo'<=lo)(c:hi<=hi'):GV g r lo' hi':=⟨a.w,a.l,a.n,a.p,a.s.mono b c (AAv _)⟩
def GV.dt(a:GV g r lo hi)(s n:Int):GV g ⟨r.w,r.dq,r.dr,s,n⟩ lo hi:=⟨a.w,a.l,a.n,a.p,a.s⟩
theorem GW.next(a:GW T g)(b:GV g r lo hi):GW T r:=⟨by rw[b.w];exact a.w,b.l.trans a.l⟩
def GW.dt(a:GW T g)(s n:Int):GW T ⟨g.w,g.dq,g.dr,s,n⟩:=⟨a.w,a.l⟩
theorem put_eq(i:Ai):NJ (BH g i) λr=>r=⟨g.w,g.dq,g.dr++[⟨i.Op,i.A,i.B,i.C,i.N,g.dt⟩],g.dt,g.next⟩:=by unfold BH;exact pC λ_=>pR rfl
theorem GV.put(b:LV g.w lo hi (g.dr.length+1) x)(a:x.Op≠5):GV g ⟨g.w,g.dq,g.dr++[x],i,o⟩ lo hi:=by refine⟨rfl,rfl,ak,λs hi=>aS,?_⟩;simp only[AA8,ABU,ABc];exact SG.one ak b a
abbrev GK(g r:BL)(lo hi:Int):Prop:=GV g r lo hi/\r.dt=g.dt/\r.next=g.next
theorem xL(b:LV g.w lo hi (g.dr.length+1) ⟨x.Op,x.A,x.B,x.C,x.N,g.dt⟩)(a:x.Op≠5):NJ (BH g x) λr=>GK g r lo hi:=
 pM (put_eq x) λ_ e=>by subst e;exact⟨GV.put b a,rfl,rfl⟩
def JH{i:Ai}(b:LV g.w lo hi (g.dr.length+1) ⟨i.Op,i.A,i.B,i.C,i.N,g.dt⟩)(a:i.Op≠5):NJ ((BH g i).bind λv=>some v) λr=>GK g r lo hi:=pB (xL b a) λ_ h=>pR h
def GK.trans(a:GK g h lo hi)(b:GK h r lo hi):GK g r lo hi:=⟨a.1.trans b.1,b.2.1.trans a.2.1,b.2.2.trans a.2.2⟩
theorem jZ{x r:Int}(h:0<=r/\r<32):∀y∈[r],0<=y/\y<32:=λy a=>am
theorem value_par(d:Nat):∀(n:Nat)(g:BL)(e:BO)(r:Int),Up d e->GW T g->(lo<=g.dt/\g.dt<hi)->0<=r/\r+d<=32->NJ (C6 n g e r) λv=>GK g v lo hi:=by
 induction d with
 |zero=>exactλn g e r h=>h.elim
 |succ d ih=>
  intro n g e r E i m K;cases n with
  |zero=>exact pN
  |succ n=>
  have F:0<=r/\r<32:=ah
  show NJ (G5 (C6 n) g e r) _;unfold G5;rcases E with⟨f,_⟩|⟨f,_,hn⟩|⟨f,C,a,q,p⟩|⟨f,a,b,q,p,D⟩
  . simp only[f];exact pI (λ_=>JH ⟨ak,uJ ak,by rw[rg1 rfl];simp_all,m,ak,ak⟩ ak) λh=>by cases h
  . simp only[f];refine pI bm λ_=>pI (λ_=> ?_) λh=>(by cases h);rw[i.l];rcases name_f hn with⟨k,t,I,L⟩|⟨⟨k,t,I⟩,c,y,x,z,B⟩
    . exact pE t (pD (λ_=>JH ⟨ak,uJ ak,by rw[rg2 rfl];grind,m,ak,ak⟩ ak) λh=>ah)
    . refine pE t (pD bN λ_=>pE ((NR i.w.c _).trans x) (JH ⟨ak,obj6 rfl (y:=y) (by rw[i.w.c];exact z) B,by rw[rg6 rfl];simp_all,m,ak,ak⟩ ak))
  . simp only[f,q];refine pI bm λ_=>pI bm λ_=>pI (λ_=>pE (y:=a) rfl ?_) λh=>(by cases h);refine pB (ih n g a r p i m ah) λv o=> ?_;have j:=i.next o.1;rw[C];refine pE ((NR j.w.c _).trans q_at) (pE (y:=⟨⟨#[113]⟩,0,2,false,0⟩) (by rw[j.w.c];rfl) ?_);exact pM (JH ⟨ak,obj7 rfl (y:=⟨⟨#[113]⟩,0,2,false,0⟩) (by rw[j.w.c];rfl) rfl ak rfl,by rw[rg7 rfl];simp_all,am,ak,ak⟩ ak) λ_ h=>o.trans h
  . have M:e.Op≠1:=λh=>am;have N:e.Op≠2:=λh=>am;have O:e.Op≠3:=λh=>am;have J:6<=e.Op/\e.Op<=18:=(by simp only[AAr,ABL,ABK]at f;omega);rw[AAa am,AAa am,AAa am,q];have H:A6 (r+1)=r+1:=CG ah ah;refine pI bm λ_=>pE (y:=a) rfl (pB (ih n g a r p i m ah) λv o=>pE (y:=b) rfl (pB (ih n v b _ D (i.next o.1) ah ah) λu G=> ?_));rw[H];have s:=o.trans G;by_cases hd:d=0
    . subst hd;exact p.elim
    exact pM (JH ⟨ak,obj4 rfl J,by rw[rg4 rfl];grind,am,ak,ak⟩ ak) λ_ h=>s.trans h
theorem Va(a:Up 2 e)(b:GW T g)(c:lo<=g.dt/\g.dt<hi){r:Int}(d:0<=r/\r<=30):NJ (C6 BT g e r) λv=>GK g v lo hi:=value_par 2 _ g e r a b c ah
theorem rM(f:GW T g)(i:lo<=g.dt/\g.dt<hi){s:AR}(m:Iz T (k+1) s)(n:s.Op=1):NJ (Ga g s) λr=>GK g r lo hi:=by
 have o:Up 2 s.dv:=m.2.2.1.resolve_right λh=>h.1 (by simp[n]);have q:(g.dq.length:Int)=2:=by rw[f.l];rfl
 unfold Ga;rw[q];rcases m.2.1 with h|⟨_,t,a,h,p⟩
 . rw[h];refine pI bm λ_=>pB (Va o f i ah) λv b=> ?_;have d:=f.next b.1;have j:lo<=v.dt/\v.dt<hi:=(by rw[b.2.1];exact i);rw[d.l];rcases name_f (m.2.2.2.2.2.2.2.2.2.1 n h)with⟨c,k1,k2,k3⟩|⟨⟨c,k1,k2⟩,c,y,c1,c2,c3⟩
   . exact pE k1 (pD (λ_=>pM (JH ⟨ak,uJ ak,by rw[rg2 rfl];grind,j,ak,ak⟩ ak) λ_ h=>b.trans h) λh=>ah)
   . refine pE k1 (pD bN λ_=>pE ((NR d.w.c _).trans c1) (pM (JH ⟨ak,obj8 rfl (y:=y) (by rw[d.w.c];exact c2) c3,by rw[rg8 rfl];simp_all,j,ak,ak⟩ ak) λ_ h=>b.trans h))
 . rw[h];refine pI (λ_=>pE (y:=a) rfl ?_) λh=>(by cases h);rw[show A6 (2+1)=3 from rfl];refine pB (Va p f i ah) λv b=>pB (Va o (f.next b.1) (by rw[b.2.1];exact i) ah) λu x=> ?_;have e:=b.trans x;have d:=f.next e.1;have j:lo<=u.dt/\u.dt<hi:=(by rw[e.2.1];exact i);rw[t];refine pE ((NR d.w.c _).trans q_at) (pE (y:=⟨⟨#[113]⟩,0,2,false,0⟩) (by rw[d.w.c];rfl) ?_);exact pM (JH ⟨ak,obj9 rfl (y:=⟨⟨#[113]⟩,0,2,false,0⟩) (by rw[d.w.c];rfl) rfl ak rfl,by rw[rg9 rfl];simp_all,j,ak,ak⟩ ak) λ_ h=>e.trans h
end
variable{C:ku}{v:jf}{f:List ABv×Bool}
theorem cells_in{l:mt}(m:l.length<=12)(g:1<=y.B3/\y.B3<=4)(hi:(k:Int)+y.B3<=l.length)(p:f.2=true):
 ∀(n t:Nat)(d:Du),d.B3=y.B3->(t:Int)<=y.B3->Aa.CC C k l v y n d t=some f->
 (∀i:Nat,t<=i->(i:Int)<y.B3->∃c,l[k+i]? =some c/\c.dz=i/\c.B3=y.B3)/\C (v++[y.di]) (k+y.B3)=some f:=by
 intro n;induction n with
 |zero=>intro t d _ _ h;cases h
 |succ n ih=>
  intro t d names o h;unfold Aa.CC Aa.L2 at h;by_cases e:(t:Int)<y.B3
  . rw[BC e,CG (n:=(k:Int)+t) ah ah,show(k:Int)+t=((k+t:Nat):Int)from by omega,B4 ah,AAS]at h;split at h
    . grind
    . rename_i j;rw[Af ah]at h;obtain⟨a,b⟩:=ih (t+1) ⟨d.di,t,d.B3,d.Hk,d.db⟩ names ah h;grind
  . rw[Ad e]at h;unfold Aa.J2 at h;rw[names,CG ah ah]at h;grind
theorem zK{l:mt}(E:l.length<=12)(m:f.2=true):∀(n i:Nat)(names:jf),names.length<=i->i<=l.length->Aa.AW l n names i=some f->
 ∀(b:Nat)(c:Du),i<=b->l[b]? =some c->c.dz=0->c.B3≠0->(1<=c.B3/\c.B3<=4)/\∀k:Nat,(k:Int)<c.B3->∃d,l[b+k]? =some d/\d.B3≠0:=by
 intro n;induction n with
 |zero=>intro i names _ _ h;cases h
 |succ n ih=>
  intro i names hn C h b c K v s g;have B:=(AAV.1 v).1;unfold Aa.AW Aa.L1 at h;have hi:i<l.length:=ah
  rw[BC ah,B4 hi,AAS,Ba ah]at h;have o:l[i]? =some l[i]:=AAZ hi;generalize l[i]=x at h o;by_cases e:x.B3=0
  . rw[AAb (by simpa using e)]at h;split at h
    . cases h;cases m
    . rw[Af ah]at h;by_cases q:b=i
      . subst q;rw[o]at v;cases v;exact absurd e g
      . exact ih (i+1) _ an ah h b c ah v s g
  . rw[AAa (by simpa using e)]at h;have J:∀t,Aa.J1 (Aa.AW l n) i l names x t=some f->t=false/\Aa.CC (Aa.AW l n) i l names x BT x 0=some f:=by
     intro t j;unfold Aa.J1 at j;cases t with
     |true=>cases j;cases m
     |false=>exact⟨rfl,j⟩
    have key:(1<=x.B3/\x.B3<=4)/\(i:Int)+x.B3<=l.length/\Aa.CC (Aa.AW l n) i l names x BT x 0=some f:=by
     rw[CG (n:=(l.length:Int)-i) ah ah]at h;split at h
     . exact absurd (J _ h).1 ak
     . rename_i w;split at h
       . exact absurd (J _ h).1 ak
       . rename_i y;split at h
         . exact absurd (J _ h).1 ak
         . obtain⟨H,I⟩:=J _ h;simp at w y H;exact⟨ah,ah,I⟩
    obtain⟨u,F,G⟩:=key;obtain⟨a,r⟩:=cells_in E u F m BT 0 x rfl ah G;by_cases q:(b:Int)<i+x.B3
    . obtain⟨d,d1,z,p⟩:=a (b-i) ah ah;rw[show i+(b-i)=b from by omega,v]at d1;cases d1;have:b=i:=ah;subst this;rw[o]at v;cases v;refine⟨u,λk D=> ?_⟩;obtain⟨d,d1,z,p⟩:=a k ah D;exact⟨d,d1,by rw[p];exact g⟩
    . rw[show(i:Int)+x.B3=((i+x.B3.toNat:Nat):Int)from by omega]at r;exact ih (i+x.B3.toNat) _ an ah r b c ah v s g
theorem yO(f:Cy w=true)(h:TG w i o):(1<=o/\o<=4)/\∀k,0<=k->k<o->∃d,gt w.df (i+k)=some d/\d.B3≠0:=by
 have n:=(Di f).c;obtain⟨x,a,b,p,hn⟩:=h;have s:0<=i:=by
  unfold gt at a;split at a
  . assumption
  . cases a
 obtain⟨m,rfl⟩:∃m:Nat,i=m:=⟨i.toNat,ah⟩;rw[Jz]at a;have l:∃v,Aa w.df=some v/\v.2=true:=by
  unfold Cy at f;cases hv:Aa w.df with
  |none=>simp_all
  |some v=>simp_all
 obtain⟨v,q,r⟩:=l;obtain⟨e,g⟩:=zK n r BT 0 [] ak ah q m x ah a b p;rw[hn]at e g;refine⟨e,λk t u=> ?_⟩;obtain⟨j,rfl⟩:∃j:Nat,k=j:=⟨k.toNat,ah⟩;rw[show(m:Int)+j=((m+j:Nat):Int)from by omega,Jz];grind
structure FT (c:Bj) (s:As):Prop where
 v:VC c
 f:HJ c.cT s.de=true
 c':s.df.length=c.cT.df.length
 u:s.AL.length=c.cT.AL.length
 n:s.AA.length=c.AA.length
 t:∀(i:Nat) x y,s.AA[i]? =some x->c.AA[i]? =some y->(0<=x.PC/\x.PC<y.B8.length)/\(x.C3.length:Int)=y.C3/\(x.Cx.length:Int)=y.C3
theorem fits_tot(l:CK c)(s:As):B5 (E9 c s) λb=>b=true->FT c s:=by
 have N:∀{u:Prop},B5 (some false) λb:Bool=>b=true->u:=tR λh=>by cases h
 have hn:=l.n;have j1:∀b,(b=false->VC c/\HJ c.cT s.de=true/\s.df.length=c.cT.df.length/\s.AL.length=c.cT.AL.length/\s.AA.length=c.AA.length)->B5 (E9.J1 c s b) λb=>b=true->FT c s:=by
  intro b p;unfold E9.J1;refine tI (λ_=>N) λm=> ?_;obtain⟨d,e,f,g,o⟩:=p m;refine RI c.AA.length (λi (_:Unit)=>∀(j:Nat) x y,j<i->s.AA[j]? =some x->c.AA[j]? =some y->(0<=x.PC/\x.PC<y.B8.length)/\(x.C3.length:Int)=y.C3/\(x.Cx.length:Int)=y.C3) (s0:=()) (F:=λn _ i=>E9.AW c s n i) ah (λj _ _ h=>ah) λn i _ hi q k=> ?_;unfold E9.AW E9.L1 E9.J2 E9.J3;refine tD (λ_=>gC ah (tD (λ_=>tI (λ_=>N) λh=>by cases h) λz=>gC ah (tD (λ_=>tI (λ_=>N) λh=>by cases h) λB=>tI (λ_=>tI (λ_=>N) λh=>by cases h) λC=>tI (λ_=>N) λD=>k () ah ?_))) λ_=>tR λ_=>⟨d,e,f,g,o,λj x y r t=>q j x y ?_ r t⟩
  . grind
  . grind
 unfold E9;refine tB (RU l) λv a=>tI (λ_=>j1 _ λh=>by cases h) λh=> ?_;have a:=a aS;refine tE (OE _ (Di a.w) _) (tI (λ_=>j1 _ λh=>by cases h) λd=>tI (λ_=>j1 _ λh=>by cases h) λe=>tI (λ_=>j1 _ λh=>by cases h) λf=>j1 _ λg=>⟨a,am,?_,?_,?_⟩)
 all_goals grind
theorem dT(i n:Int):B5 (HK i n) λv=>1<=n/\n<=4->0<=v/\v<n:=by
 unfold HK HK.J1;refine tD (λ_=>tR ah) λh=>tC ah (tD (λa=>tR λb=> ?_) λa=>tR λb=> ?_)
 . have:=Int.lt_tmod_of_pos i (show 0<n by omega);rw[CG ah ah];omega
 . have:=Int.tmod_lt_of_pos i (show 0<n by omega);omega
def kindL:List Int:=[3,3,4,4,5,6,7,8,9,10,11,12,13,14,15,16,18,19,20,21,22,23,2]
def KO(o k:Int):Prop:=((k=3->o=6\/o=7)/\(k=4->o=8\/o=9)/\(k=5->o=10)/\(k=22->o=26)/\(k=23->o=27)/\(k=2↔o=28)/\(k=16->o=21)/\k≠1/\k≠17)/\(o=7->k=3)/\(o=9->k=4)/\(o=10->k=5)/\(o=8->k=4)/\(o=26->k=22)
instance  (o k:Int):Decidable (KO o k):=by unfold KO;infer_instance
theorem oF:∀n:Fin 23,KO ((n.1:Int)+6) kindL[n.1]:=bg
theorem kind_tot(h:1<=o/\o<=28):B5 (Im o) λk=>k=0\/KO o k:=by
 unfold Im Im.J1;refine tD (λ_=>tI (λ_=>tR (.inl rfl)) λh=>by cases h) λb=>tD bN λ_=> ?_;rw[CG ah ah];obtain⟨n,hn⟩:∃n:Nat,o-6=n:=⟨(o-6).toNat,ah⟩;rw[hn];have a:n<23:=ah
 refine gC (l:=kindL) a (tR (.inr ?_))
 have:=oF ⟨n,a⟩;grind
theorem uL{t:AN}(d:x.Op=7\/x.Op=9->0<=x.C/\x.C<t.C3.length):
 B5 (Fu x t) λo=>(x.Op=7->∃v,o=A6 (x.B+v)/\(1<=x.N/\x.N<=4->0<=v/\v<x.N))/\(x.Op=9->∃v,o=A6 (x.A+v)/\(1<=x.N/\x.N<=4->0<=v/\v<x.N)):=by
 have T:∀{o:ABu Int},TT o->x.Op≠7->x.Op≠9->B5 o λo=>(x.Op=7->∃v,o=A6 (x.B+v)/\(1<=x.N/\x.N<=4->0<=v/\v<x.N))/\(x.Op=9->∃v,o=A6 (x.A+v)/\(1<=x.N/\x.N<=4->0<=v/\v<x.N)):=λh a b=>tM h λ_ _=>⟨λh=>absurd h a,λh=>absurd h b⟩;have j1:∀b,(b=true->x.Op≠7/\x.Op≠9)->B5 (Fu.J1 x t b) λo=>(x.Op=7->∃v,o=A6 (x.B+v)/\(1<=x.N/\x.N<=4->0<=v/\v<x.N))/\(x.Op=9->∃v,o=A6 (x.A+v)/\(1<=x.N/\x.N<=4->0<=v/\v<x.N)):=by
  intro b e;unfold Fu.J1 Fu.J2;refine tI (λh=>T (tR trivial) (e h).1 (e h).2) λ_=>tI (λh=>tG (d (.inl (eq_of_beq h))) λ_ _=>tB (dT _ _) λv c=>tR ⟨λ_=>⟨v,rfl,c⟩,λf=> ?_⟩) λg=>tI (λh=>tG (d (.inr (eq_of_beq h))) λ_ _=>tB (dT _ _) λv c=>tR ⟨λf=> ?_,λ_=>⟨v,rfl,c⟩⟩) λj=>T ?_ am am
  . simp_all
  . simp_all
  . repeat' first|exact tR trivial|refine tI (λ_=> ?_) λ_=> ?_
 unfold Fu;grind
def vX(e:AH):Prop:=e.EA.length<=100000/\e.DW.length<=100000
structure PI (w:AF) (x:AN) (y:A5) (z:Ai) (q:AM) (e:AH):Prop where
 a:e.da=3\/e.da=23\/e.da=5->0<=z.A/\z.A<y.C3
 b:e.da=4\/e.da=22->0<=z.B/\z.B<y.C3
 d:e.EA=[]\/e.EA∈x.Cx/\(e.da=5\/(e.da=3\/e.da=4)/\(ix w.df e.dn).B3≠0)
 r:e.DW=[]\/e.DW∈x.Cx/\(e.da=4\/e.da=22)
 s:e.da=1/\e.d3= -1\/(q.dg=4/\e.da=17\/q.dg=2/\(e.da=2↔z.Op=28)/\e.da≠1/\e.da≠17/\(e.da=16->z.Op=21))/\e.d3=z.d3
 j:e.da=5->z.Op=10
structure PE (c:Bj) (s:As) (th:Int) (e:AH):Prop where
 f:FT c s
 t:0<=th/\th<c.AA.length
 l:vX e
 h:e.cr=th
 i:∀x y z q,s.AA[th.toNat]? =some x->c.AA[th.toNat]? =some y->y.B8[x.PC.toNat]? =some z->s.de.AA[th.toNat]? =some q->PI c.cT x y z q e
theorem wU[Inhabited a]{l:List a}{x:a}(h:gt l i=some x):ix l i=x:=by
 unfold gt at h;split at h
 . unfold ix;rw[h];rfl
 . cases h
variable{s:As}
theorem l7(hc:CK c)(hs:∀t∈s.AA,TH E t)(hE:E<=100000)(th:Int):B5 (C1 c s th) λr=>r.2=true->PE c s th r.1:=by
 have N:∀{x} {P:AH×Bool->Prop},B5 (some (x,false)) λr:AH×Bool=>r.2=true->P r:=tR λh=>by cases h
 have j1:∀b,(b=false->FT c s/\0<=th/\th<c.AA.length)->B5 (C1.J1 c s th b) λr=>r.2=true->PE c s th r.1:=by
  intro b L;unfold C1.J1;refine tI (λ_=>N) λh0=> ?_;obtain⟨G,ht⟩:=L h0;obtain⟨_,_,l3⟩:=EO G.f;have hn:=G.n;have hn2:=G.v.n;obtain⟨x,x1,x2,x3⟩:=Ij (l:=s.AA) (i:=th) ah;obtain⟨y,y1,y2,y3⟩:=Ij (l:=c.AA) (i:=th) ah;obtain⟨p1,p2,p3⟩:=G.t _ x y x2 y2;obtain⟨z,z1,z2,z3⟩:=Ij (l:=y.B8) (i:=x.PC) ah;obtain⟨q,q1,q2,q3⟩:=Ij (l:=s.de.AA) (i:=th) ah;have S:=(G.v.t _ y y2).i z z3;have ho:=S.o;have p:=S.g;have W:=hs x x3;have J:∀q∈x.Cx,q.length<=100000:=λq u=>by have:=(W.b q u).len W.e.1;have:=W.e.2;omega
  refine tE x1 (tE y1 (tE z1 (tE q1 ?_)));have I:∀e:AH,vX e->e.cr=th->PI c.cT x y z q e->PE c s th e:=by intro e j m K;refine⟨G,ht,j,m,λx' y' z' q' MH O Q M=> ?_⟩;rw[x2]at MH;rw[y2]at O;rw[q2]at M;obtain rfl:=AAW MH;obtain rfl:=AAW O;obtain rfl:=AAW M;rw[z2]at Q;obtain rfl:=AAW Q;exact K
  refine tI (λ_=>tR λ_=>I _ ⟨ak,ak⟩ rfl ⟨ak,ak,.inl rfl,.inl rfl,.inl ⟨rfl,rfl⟩,ak⟩) λ_=>tI (λh=>tR λ_=>I _ ⟨ak,ak⟩ rfl ⟨ak,ak,.inl rfl,.inl rfl,.inr ⟨.inl ⟨eq_of_beq h,rfl⟩,rfl⟩,ak⟩) λ_=>tI (λT=> ?_) λ_=>N;have T:=eq_of_beq T;refine tB (kind_tot ho) λk V=> ?_;have hC:z.Op=7\/z.Op=9->0<=z.C/\z.C<y.C3:=by
   rintro(h|h)
   . simp[rg7 h]at p;omega
   . simp[rg9 h]at p;omega
  have hB:z.Op=8\/z.Op=9\/z.Op=26->0<=z.B/\z.B<y.C3:=by
   rintro(h|h|h)
   . simp[rg8 h]at p;omega
   . simp[rg9 h]at p;omega
   . simp[rg26 h]at p;omega
  have hA:z.Op=6\/z.Op=7\/z.Op=10\/z.Op=27->0<=z.A/\z.A<y.C3:=by
   rintro(h|h|h|h)
   . simp[rg6 h]at p;omega
   . simp[rg7 h]at p;omega
   . simp[rg10 h]at p;omega
   . simp[rg27 h]at p;omega
  refine tB (uL λh=>ah) λo H=>tI (λ_=>N) λtO=> ?_;have V:=V.resolve_left am;obtain⟨⟨a1,a2,a3,a4,a5,a6,a7,a8,a9⟩,b1,b2,b3,b4,b5⟩:=V;have U:z.Op=7\/z.Op=9->(k=3\/k=4)/\(ix c.cT.df o).B3≠0:=by
   have key:∀b v,TG c.cT b z.N->o=A6 (b+v)->(1<=z.N/\z.N<=4->0<=v/\v<z.N)->(ix c.cT.df o).B3≠0:=by
    intro b v j m K;obtain⟨n1,n2⟩:=yO G.v.w j;obtain⟨d,d1,d2⟩:=n2 v (K n1).1 (K n1).2;have hd:=d1;unfold gt at hd;split at hd
    . have:=(AAV.1 hd).1
      have:=(Di G.v.w).c;rw[m,CG ah ah,wU d1];exact d2
    . cases hd
   rintro(h|h)
   . obtain⟨v,v1,v2⟩:=H.1 h;exact⟨.inl (b1 h),key _ v (S.a.1 h) v1 v2⟩
   . obtain⟨v,v1,v2⟩:=H.2 h;exact⟨.inr (b2 h),key _ v (S.a.2 h) v1 v2⟩
  have mk:∀D F,(D=[]\/D∈x.Cx/\(k=5\/(k=3\/k=4)/\(ix c.cT.df o).B3≠0))->(F=[]\/F∈x.Cx/\(k=4\/k=22))->D.length<=100000->F.length<=100000->PE c s th ⟨th,k,o,0,z.d3,D,F⟩:=
   λD F j m K h4=>I _ ⟨K,h4⟩ rfl ⟨λh=>hA aS,λh=>hB aS,j,m,.inr ⟨.inr ⟨T,a6,a8,a9,a7⟩,rfl⟩,a3⟩
  have X:∀D,(D=[]\/D∈x.Cx/\(k=5\/(k=3\/k=4)/\(ix c.cT.df o).B3≠0))->D.length<=100000->B5 (C1.J3 x z ⟨th,k,o,0,z.d3,D,[]⟩) λr=>r.2=true->PE c s th r.1:=by
   intro D j m;have Z:∀b,(b=true->z.Op=8\/z.Op=9\/z.Op=26)->B5 (C1.J4 ⟨th,k,o,0,z.d3,D,[]⟩ x z b) λr=>r.2=true->PE c s th r.1:=by
    intro b L;unfold C1.J4 C1.J5;refine tI (λh=>tG am λq u=> ?_) λ_=>tR λ_=>mk _ _ j (.inl rfl) m ak;have R:=J q u;refine tC (Bs an) (tR λ_=>mk _ _ j (.inr ⟨am,?_⟩) m am)
    have:=L h;omega
   unfold C1.J3;exact tI (λh=>Z _ λ_=>.inl (eq_of_beq h)) λ_=>tI (λh=>Z _ λ_=>.inr (.inl (eq_of_beq h))) λ_=>Z _ λh=>.inr (.inr (eq_of_beq h))
  have j2:∀b,(b=true->z.Op=7\/z.Op=9)->B5 (C1.J2 th k o x z b) λr=>r.2=true->PE c s th r.1:=by intro b h;unfold C1.J2;refine tI (λL=>tG am λq u=> ?_) λ_=>X _ (.inl rfl) ak;have R:=J q u;exact tC (Bs ah) (X _ (.inr ⟨u,.inr (U (h L))⟩) R)
  refine tI (λh=>tG am λq u=> ?_) λ_=>tI (λh=>j2 _ λ_=>.inl (eq_of_beq h)) λ_=>j2 _ λh=>.inr (eq_of_beq h);have R:=J q u;exact tC (Bs ah) (X _ (.inr ⟨u,.inl (b3 (eq_of_beq h))⟩) R)
 unfold C1;refine tB (fits_tot hc s) λv hv=>tI (λ_=>j1 _ λh=>by cases h) λh=>tD (λ_=>j1 _ λh=>by cases h) λj=>j1 _ λm=>⟨hv aS,ah,?_⟩;simp_all
def SI(N:Nat)(s:As):Prop:=RB N s.de/\∀t∈s.AA,TH N t
theorem TH.mono{t:AN}(h:TH E t)(a:E<=k):TH k t:=⟨h.r,h.t,h.b,h.e.1,by have:=h.e.2;omega⟩
theorem Copy9_eq(h:∀t∈s.AA,TH E t)(b:E<=100000)(c:WR s.de)(e:s.df.length<=1000)(g:s.AL.length<=1000)(f:s.AA.length<=1000):Gb s=some s:=by
 have key:B5 (Gb s) λr=>r=s:=by unfold Gb;refine tE (lU _ c) (tC (Bs ah) (tC (Bs ah) (RI s.AA.length (λi o=>o=⟨s.de,s.df,s.AL,s.AA.take i⟩) (F:=λn o i=>Gb.AW s n o i) ah rfl λn i o hi d k=> ?_)));subst d;unfold Gb.AW Gb.L1 Gb.J1;refine tD (λ_=>gC ah ?_) λ_=>tR (by rw[AA3 (by omega)]);exact tE (lX (h _ (AAi ah)) b) (tC (Bs an) (k _ ah am))
 obtain⟨r,a,rfl⟩:=key;exact a
structure SR (c:Bj) (s:As) (ch:Ao) (s':As) (e:AH):Prop where
 p:PE c s ch.cr e
 en:B7 c.cT s.de ch.cr e.da e.dn=true
 sy:s'.de=(DR c.cT s.de ch.cr e.da e.dn ch.TD).1
 va:(e.da=3->gt s.df e.dn=some e.dh)/\(e.da=23->gt s.AL e.dn=some e.dh)/\(e.da=5->e.dh=0\/e.dh=1)/\(e.da≠3->e.da≠23->e.da≠5->e.da≠4->e.da≠22->e.dh=(DR c.cT s.de ch.cr e.da e.dn ch.TD).2)
 ce:s'.df=if e.da=4 then s.df.set e.dn.toNat e.dh else s.df
 fu:s'.AL=if e.da=22 then s.AL.set e.dn.toNat e.dh else s.AL
 th:∃x x',s.AA[ch.cr.toNat]? =some x/\s'.AA=s.AA.set ch.cr.toNat x'/\(e.da=16->x'.PC=x.PC)/\(x'=RS\/x'.AB=x.AB+1/\∀l∈x'.Cx,∀k∈l,(∃m∈x.Cx,k∈m)\/k=x.AB/\(e.da=3\/e.da=23))
theorem yG(hc:CK c)(O:SI E s)(hE:E<=10000)(g:Ao):B5 (Db c s g) λr=>r.2.2=true->(SI (E+1) r.1/\vX r.2.1)/\SR c s g r.1 r.2.1:=by
 obtain⟨hr,O⟩:=O;have N:∀{x y} {P:As×AH×Bool->Prop},B5 (some (x,y,false)) λr:As×AH×Bool=>r.2.2=true->P r:=tR λh=>by cases h
 unfold Db;refine tB (l7 hc O ah g.cr) λv hv=>tI (λ_=>N) λh=> ?_;have hv:=hv (by simpa using h);obtain⟨D,ht,J,hh,hi⟩:=hv;have S:=Di D.v.w;have w1:=S.c;have w2:=S.f;have w3:=S.t;have c1:=D.c';have c2:=D.u;have c3:=D.n;have c4:=D.v.n;refine tE (PX _ S _ (hr.mono ah) _ _ _ _) (tI (λ_=>N) λB=> ?_);have M:B7 c.cT s.de g.cr v.1.da v.1.dn=true:=by
  cases I:B7 c.cT s.de g.cr v.1.da v.1.dn with
  |true=>rfl
  |false=>simp[Ot,I]at B
 have Z:Bm c.cT v.1.da v.1.dn=true:=by have M:=M;unfold B7 at M;simp only[AAT]at M;exact M.2.2.1
 have hap:Ot c.cT s.de g.cr v.1.da v.1.dn g.TD=((DR c.cT s.de g.cr v.1.da v.1.dn g.TD).1,(DR c.cT s.de g.cr v.1.da v.1.dn g.TD).2,true):=by simp[Ot,M]
 rw[hap];have hR:=hr.apply c.cT g.cr v.1.da v.1.dn g.TD;refine tE (Copy9_eq O ah (WR.of S D.f (hr.mono ah)) ah ah ah) ?_;obtain⟨x,x1,x2,x3⟩:=Ij (l:=s.AA) (i:=g.cr) ah;obtain⟨y,y1,y2,y3⟩:=Ij (l:=c.AA) (i:=g.cr) ah;obtain⟨p1,p2,p3⟩:=D.t _ x y x2 y2;obtain⟨z,z1,z2,z3⟩:=Ij (l:=y.B8) (i:=x.PC) ah;obtain⟨q,q1,q2,q3⟩:=Ij (l:=s.de.AA) (i:=g.cr) (by have:=(EO D.f).2.2;omega);have iA:=(hi x y z q x2 y2 z2 q2).a;have iB:=(hi x y z q x2 y2 z2 q2).b;have K:=O x x3;refine tE x1 (tE y1 (tE z1 ?_));have hpe:∀val,PE c s g.cr ⟨v.1.cr,v.1.da,v.1.dn,val,v.1.d3,v.1.EA,v.1.DW⟩:=λval=>⟨D,ht,J,hh,λx y z q a b c d=>by have h:=hi x y z q a b c d;exact⟨h.a,h.b,h.d,h.r,h.s,h.j⟩⟩;generalize H:DR c.cT s.de g.cr v.1.da v.1.dn g.TD=ap at hR |-
 let VAC:Int->List Int->List Int->Prop:=λval C F=>((v.1.da=3->gt s.df v.1.dn=some val)/\(v.1.da=23->gt s.AL v.1.dn=some val)/\(v.1.da=5->val=0\/val=1)/\(v.1.da≠3->v.1.da≠23->v.1.da≠5->v.1.da≠4->v.1.da≠22->val=ap.2))/\C=(if v.1.da=4 then s.df.set v.1.dn.toNat val else s.df)/\F=(if v.1.da=22 then s.AL.set v.1.dn.toNat val else s.AL)
 let TX:AN->Prop:=λt=>t=RS\/t.AB=x.AB+1/\∀l∈t.Cx,∀k∈l,(∃m∈x.Cx,k∈m)\/k=x.AB/\(v.1.da=3\/v.1.da=23)
 have j6:∀val C F t,VAC val C F->TX t->(v.1.da=16->t.PC=x.PC)->TH (E+1) t->B5 (Db.J6 g ⟨v.1.cr,v.1.da,v.1.dn,val,v.1.d3,v.1.EA,v.1.DW⟩ C F (ap.1,ap.2,true) s t) λr=>r.2.2=true->(SI (E+1) r.1/\vX r.2.1)/\SR c s g r.1 r.2.1:=by
  intro val C F t p B X h4;unfold Db.J6;refine tE x1 (tR λ_=>⟨⟨⟨hR,?_⟩,J⟩,hpe val,M,by rw[H],?_,p.2.1,p.2.2,x,t,x2,rfl,X,B⟩)
  . intro q G;rcases AA7 G with G|rfl
    . exact(O q G).mono ah
    . exact h4
  . rw[H];exact p.1
 have W:A6 (x.AB+1)=x.AB+1:=by have:=K.e;exact CG ah ah
 have j5:∀val n C F t b,VAC val C F->(v.1.da=16->n=x.PC/\b=false)->t.AB=x.AB->(∀l∈t.Cx,∀k∈l,(∃m∈x.Cx,k∈m)\/k=x.AB/\(v.1.da=3\/v.1.da=23))->TH (E+1) ⟨0,t.C3,t.Cx,A6 (t.AB+1)⟩->
  B5 (Db.J5 c g ⟨v.1.cr,v.1.da,v.1.dn,val,v.1.d3,v.1.EA,v.1.DW⟩ n C F t (ap.1,ap.2,true) s b) λr=>r.2.2=true->(SI (E+1) r.1/\vX r.2.1)/\SR c s g r.1 r.2.1:=by
  intro val n C F t b p hn I R B;unfold Db.J5;have X:∀n,TH (E+1) ⟨n,t.C3,t.Cx,A6 (t.AB+1)⟩:=λn=>⟨B.r,B.t,B.b,B.e⟩;refine tI (λo=>tE y1 (tB (rB (X n) R ah (hc.i y y3)) λu hu=>j6 _ _ _ _ p ?_ (λh=>by rw[(hn h).2]at o;cases o) hu.1)) λ_=>j6 _ _ _ _ p (.inr ⟨by rw[I,W],R⟩) (λh=>(hn h).1) (X n);exact hu.2.imp id λh=>⟨by rw[h.1,I,W],h.2⟩
 have j3:∀val n C F b,VAC val C F->(v.1.da=16->n=x.PC)->(b=true->(v.1.da=3\/v.1.da=23))->B5 (Db.J3 c g ⟨v.1.cr,v.1.da,v.1.dn,val,v.1.d3,v.1.EA,v.1.DW⟩ n C F (ap.1,ap.2,true) s x z b) λr=>r.2.2=true->(SI (E+1) r.1/\vX r.2.1)/\SR c s g r.1 r.2.1:=by
  intro val n C F b p hn B;unfold Db.J3 Db.J4;have I:=K.e;have T:∀{t},(∀l∈t.Cx,∀k∈l,(∃m∈x.Cx,k∈m)\/k=x.AB/\(v.1.da=3\/v.1.da=23))->t.AB=x.AB->TH (E+1) ⟨0,t.C3,t.Cx,A6 (t.AB+1)⟩->B5 (if(v.1.da != 16)=true then Db.J5 c g ⟨v.1.cr,v.1.da,v.1.dn,val,v.1.d3,v.1.EA,v.1.DW⟩ n C F t (ap.1,ap.2,true) s (v.1.da != 2)else Db.J5 c g ⟨v.1.cr,v.1.da,v.1.dn,val,v.1.d3,v.1.EA,v.1.DW⟩ n C F t (ap.1,ap.2,true) s false) λr=>r.2.2=true->(SI (E+1) r.1/\vX r.2.1)/\SR c s g r.1 r.2.1:=λR I hT=>
   tI (λh=>j5 _ _ _ _ _ _ p (λQ=>by rw[Q]at h;cases h) I R hT) λ_=>j5 _ _ _ _ _ _ p (λh=>⟨hn h,rfl⟩) I R hT
  refine tI (λo=> ?_) λ_=> ?_
  . have B:=B o;have hA:=iA ah;refine tG ah λ_ _=>tG ah λ_ _=>T ?_ rfl ?_
    . intro l J k hk;rcases AA7 J with J|rfl
      . exact .inl ⟨l,J,hk⟩
      . exact .inr ⟨AAw.1 hk,B⟩
    . simp only[W];refine⟨by simpa using K.r,by simpa using K.t,?_,aA⟩;intro q G;rcases AA7 G with G|rfl
      . exact(K.b q G).mono aA
      . exact⟨ak,an⟩
  . refine T (λl J k hk=>.inl ⟨l,J,hk⟩) rfl ?_;simp only[W];exact⟨K.r,K.t,λq G=>(K.b q G).mono aA,aA⟩
 have L:∀C F val n,VAC val C F->(v.1.da=16->n=x.PC)->B5 (Db.J2 c g (ap.1,ap.2,true) s x z C F ⟨v.1.cr,v.1.da,v.1.dn,val,v.1.d3,v.1.EA,v.1.DW⟩ n) λr=>r.2.2=true->(SI (E+1) r.1/\vX r.2.1)/\SR c s g r.1 r.2.1:=by intro C F val n p hn;unfold Db.J2;exact tI (λh=>j3 _ _ _ _ _ p hn λ_=>.inl (eq_of_beq h)) λ_=>j3 _ _ _ _ _ p hn λh=>.inr (eq_of_beq h)
 have j1:∀b,(b=true->v.1.da=1\/v.1.da=16\/v.1.da=2)->(b=false->v.1.da≠16)->B5 (Db.J1 c g v (ap.1,ap.2,true) s x z b) λr=>r.2.2=true->(SI (E+1) r.1/\vX r.2.1)/\SR c s g r.1 r.2.1:=by
  intro b o hb2;unfold Db.J1;refine tI (λh=>L _ _ _ _ ⟨⟨by have:=o h;omega,by have:=o h;omega,by have:=o h;omega,λ_ _ _ _ _=>rfl⟩,by rw[AAa (by have:=o h;omega)],by rw[AAa (by have:=o h;omega)]⟩ λ_=>rfl) λh0=>tI (λh=> ?_) λn3=>tI (λh=> ?_) λV=>tI (λh=> ?_) λn4=>tI (λh=> ?_) λU=>tI (λh=> ?_) λn5=> ?_
  . have h:=eq_of_beq h
    have:=BI.1 (show Cp v.1.dn c.cT.df.length=true by simpa[Bm,h]using Z);obtain⟨d,d1,_⟩:=Ij (l:=s.df) (i:=v.1.dn) ah;exact tE d1 (L _ _ _ _ ⟨⟨λ_=>d1,ah,ah,ah⟩,by rw[AAa ah],by rw[AAa ah]⟩ ah)
  . have h:=eq_of_beq h
    have:=BI.1 (show Cp v.1.dn c.cT.AL.length=true by simpa[Bm,h]using Z);obtain⟨d,d1,_⟩:=Ij (l:=s.AL) (i:=v.1.dn) ah;exact tE d1 (L _ _ _ _ ⟨⟨ah,λ_=>d1,ah,ah⟩,by rw[AAa ah],by rw[AAa ah]⟩ ah)
  . have h:=eq_of_beq h
    have:=BI.1 (show Cp v.1.dn c.cT.df.length=true by simpa[Bm,h]using Z);have o:=iB (.inl h);exact tG ah λ_ _=>tG ah λ_ _=>L _ _ _ _ ⟨⟨ah,ah,ah,ah⟩,by rw[AAb h],by rw[AAa ah]⟩ ah
  . have h:=eq_of_beq h
    have:=BI.1 (show Cp v.1.dn c.cT.AL.length=true by simpa[Bm,h]using Z);have o:=iB (.inr h);exact tG ah λ_ _=>tG ah λ_ _=>L _ _ _ _ ⟨⟨ah,ah,ah,ah⟩,by rw[AAa ah],by rw[AAb h]⟩ ah
  . have h:=eq_of_beq h;have o:=iA (.inr (.inr h));exact tG ah λ_ _=>tI (λ_=>L _ _ _ _ ⟨⟨ah,ah,λ_=>.inl rfl,ah⟩,by rw[AAa ah],by rw[AAa ah]⟩ ah) λ_=>L _ _ _ _ ⟨⟨ah,ah,λ_=>.inr rfl,ah⟩,by rw[AAa ah],by rw[AAa ah]⟩ ah
  . simp only[ABZ,ne_eq]at n3 V n4 U n5;exact L _ _ _ _ ⟨⟨λh=>absurd h n3,λh=>absurd h V,λh=>absurd h n5,λ_ _ _ _ _=>rfl⟩,by rw[AAa n4],by rw[AAa U]⟩ λh=>absurd h (hb2 h0)
 exact tI (λh=>j1 _ (λ_=>.inl (eq_of_beq h)) λQ=>by rw[Q]at h;cases h) λ_=>tI (λh=>j1 _ (λ_=>.inr (.inl (eq_of_beq h))) λQ=>by rw[Q]at h;cases h) λn16=>j1 _ (λh=>.inr (.inr (eq_of_beq h))) λ_=>by simpa using n16
structure TM (n:Nat) (t:Ca):Prop where
 n:t.AB.length<=n
 e:∀e∈t.AB,vX e
 w:t.AB≠[]->Cy t.cT=true
theorem vX.ok{e:AH}(h:vX e):KE e:=⟨by have:=h.1;omega,by have:=h.2;omega⟩
variable{z:AM->AM}{q:AM}
theorem getT{s:AQ}(hi:0<=i/\i<s.AA.length)(h:(LC s i z).AA[u]? =some q):(u:Int)=i/\q=z (ix s.AA i)\/(u:Int)≠i/\s.AA[u]? =some q:=by unfold LC at h;grind
theorem xG[Inhabited a]{l:List a}{x:a}(h:l[u]? =some x)(hi:(u:Int)=i):ix l i=x:=by subst hi;unfold ix;simp[h]
variable{t:Int}
theorem ready_two{s:AQ}{k:Int}(h:B7 w s t k o=true)(a:k≠1)(b:k≠17):(ix s.AA t).dg=2:=by unfold B7 Jh at h;grind
variable{wake:Int}
theorem O5(h:W≠[]):FN wake W∈W:=by
 unfold FN;rw[AAa h];split
 . simp_all
 . cases W with
   |nil=>simp_all
   |cons a r=>simp
theorem vM(o:Int)(T:ke):∀(i:Nat)(u:Int),u∈Cd o i T->∃x,T[(u-i).toNat]? =some x/\x.dg=3:=by
 induction T with
 |nil=>intro i u h;cases h
 |cons x r ih=>
  intro i u h;unfold Cd at h;have key:u∈Cd o (i+1) r->∃y,(x::r)[(u-i).toNat]? =some y/\y.dg=3:=by intro h;have b:=(JY o r (i+1) u h).1;obtain⟨y,y1,y2⟩:=ih (i+1) u h;refine⟨y,?_,y2⟩;rw[show(u-(i:Int)).toNat=(u-((i+1:Nat):Int)).toNat+1 from by omega,ABN];exact y1
  split at h
  . rename_i a;rcases AAr.1 h with rfl|h
    . refine⟨x,ak,?_⟩;unfold Jw at a;simp_all
    simp_all
  simp_all
theorem vH{s:AQ}{k:Int}(h:B7 w s t k o=true)(c:(DR w s t k o wake).1.AA[u]? =some q):
 ((u:Int)=t->k=16\/q.dg=2\/q.dg=5)/\((u:Int)≠t->q.dg=1\/∃i,s.AA[u]? =some i/\(q=i\/i.dg=3/\q.dg=4)):=by
 have m:=λa b=>ready_two h (k:=k) a b;have D:=h;unfold B7 at D;simp only[AAT]at D;obtain⟨M,B,L,H⟩:=D;obtain⟨_,_,N⟩:=EO M;have B:=BI.1 B;rw[<- N]at B
 -- a thread's own place
 have own:∀(j:AQ)(f:AM->AM),j.AA=s.AA->(LC j t f).AA[u]? =some q->(k=16\/(f (ix s.AA t)).dg=2\/(f (ix s.AA t)).dg=5)->
  ((u:Int)=t->k=16\/q.dg=2\/q.dg=5)/\((u:Int)≠t->q.dg=1\/∃i,s.AA[u]? =some i/\(q=i\/i.dg=3/\q.dg=4)):=by
  intro j f F wv y;rcases getT (by rw[F];exact B) wv with⟨e,rfl⟩|⟨e,p⟩
  . rw[F];exact⟨λ_=>y,λh=>absurd e h⟩
  . rw[F]at p;exact⟨λh=>absurd h e,λ_=>.inr ⟨q,p,.inl rfl⟩⟩
 -- nobody's place
 have g:∀(T:ke),T=s.AA->T[u]? =some q->(ix s.AA t).dg=2->((u:Int)=t->k=16\/q.dg=2\/q.dg=5)/\((u:Int)≠t->q.dg=1\/∃i,s.AA[u]? =some i/\(q=i\/i.dg=3/\q.dg=4)):=by rintro _ rfl wv y;exact⟨λe=>.inr (.inl (by rw[xG wv e]at y;exact y)),λ_=>.inr ⟨q,wv,.inl rfl⟩⟩
 unfold DR at c;by_cases l:k=1
 . rw[AAb l]at c;exact own s _ rfl c (.inr (.inl rfl))
 rw[AAa l]at c;by_cases K:k=2
 . rw[AAb K]at c;exact own s _ rfl c (.inr (.inr rfl))
 rw[AAa K]at c;by_cases e:k=6\/k=10
 . rw[AAb e]at c;exact g _ rfl c (m l ah)
 rw[AAa e]at c;by_cases e:k=7\/k=11
 . rw[AAb e]at c;exact g _ rfl c (m l ah)
 rw[AAa e]at c;by_cases e:k=8
 . rw[AAb e]at c;exact g _ rfl c (m l ah)
 rw[AAa e]at c;by_cases e:k=9
 . rw[AAb e]at c;exact g _ rfl c (m l ah)
 rw[AAa e]at c;by_cases e:k=12
 . rw[AAb e]at c;exact g _ rfl c (m l ah)
 rw[AAa e]at c;by_cases e:k=13
 . rw[AAb e]at c;exact g _ rfl c (m l ah)
 rw[AAa e]at c;by_cases e:k=14
 . rw[AAb e]at c;exact own s _ rfl c (.inr (.inl (m l ah)))
 rw[AAa e]at c;by_cases e:k=15
 . rw[AAb e]at c;exact own s _ rfl c (.inr (.inl (m l ah)))
 rw[AAa e]at c;by_cases G:k=16
 . rw[AAb G]at c;exact own (LB s (ix w.Ak o).dm λx=>⟨-1,x.An⟩) _ rfl c (.inl G)
 rw[AAa G]at c;by_cases n:k=17
 . rw[AAb n]at c;exact own (LB s (ix w.Ak o).dm λx=>⟨t,x.An⟩) _ rfl c (.inr (.inl rfl))
 rw[AAa n]at c;have j:=m l n;by_cases e:k=18
 . rw[AAb e]at c;by_cases z:Cd o 0 s.AA=[]
   . rw[AAb z]at c;exact g _ rfl c j
   . rw[AAa z]at c;obtain⟨x,v,O⟩:=vM o s.AA 0 _ (O5 (wake:=wake) z);have I:=JY o s.AA 0 _ (O5 (wake:=wake) z);generalize FN wake (Cd o 0 s.AA)=d at c v I;have v:s.AA[d.toNat]? =some x:=(by simpa using v);have hd:ix s.AA d=x:=xG v ah;rcases getT (by simp at I;omega) c with⟨e,rfl⟩|⟨e,p⟩
     . refine⟨λh=> ?_,λ_=>.inr ⟨x,?_,.inr ⟨O,rfl⟩⟩⟩
       . rw[<- h,e,hd]at j;omega
       . rw[show u=d.toNat from by omega];exact v
     . exact g _ rfl p j
 rw[AAa e]at c;by_cases e:k=19
 . rw[AAb e]at c;have c:(s.AA.map (Jn o))[u]? =some q:=c;rw[AAf]at c;cases hx:s.AA[u]? with
   |none=>rw[hx]at c;cases c
   |some x=>
    rw[hx]at c;obtain rfl:=AAW c;unfold Jn;by_cases r:Jw x o=true
    . have:x.dg=3:=(by unfold Jw at r;simp only[AAT]at r;exact eq_of_beq r.1);rw[AAb r];refine⟨λe=> ?_,λ_=>.inr ⟨x,rfl,.inr ⟨this,rfl⟩⟩⟩;rw[xG hx e]at j;omega
    . rw[AAa r];exact⟨λe=>.inr (.inl (by rw[xG hx e]at j;exact j)),λ_=>.inr ⟨x,rfl,.inl rfl⟩⟩
 rw[AAa e]at c;by_cases C:k=20
 . rw[AAb C]at c;have J:Cp o w.AA.length=true:=(by simpa[Bm,C]using L);have E:o≠t:=(by simp[Jh,C]at H;exact H.2.1);have J:=BI.1 J;rcases getT ah c with⟨e,rfl⟩|⟨e,p⟩
   . exact⟨λh=>absurd (e.symm.trans h) E,λ_=>.inl rfl⟩
   . exact g _ rfl p j
 rw[AAa C]at c;by_cases e:k=22
 . rw[AAb e]at c;exact g _ rfl c j
 . rw[AAa e]at c;exact g _ rfl c j
theorem Ye(wv:AF)(s:AQ)(t k o wake:Int):(DR wv s t k o (if k=18 then(DR wv s t k o wake).2 else -1)).1=(DR wv s t k o wake).1:=by
 by_cases h:k=18
 . rw[AAb h,h];have key:∀w,(DR wv s t 18 o w)=(if Cd o 0 s.AA=[]then s else LC s (FN w (Cd o 0 s.AA)) JS,FN w (Cd o 0 s.AA)):=λw=>by simp[DR]
   rw[key,key];by_cases a:Cd o 0 s.AA=[]
   . simp[a]
   . have:=O5 (wake:=wake) a;simp only[a,AAk];rw[show FN (FN wake (Cd o 0 s.AA)) (Cd o 0 s.AA)=FN wake (Cd o 0 s.AA)from ?_];generalize FN wake (Cd o 0 s.AA)=d at this |-;unfold FN;simp_all
 . rw[AAa h];unfold DR;simp only[AAa h]
theorem nums_of(D:iq):∀a:Int,D.Pairwise (· < ·)->(∀k∈D,a<k/\k<i)->GZ i a D=true:=by
 induction D with
 |nil=>exactλ_ _ _=>rfl
 |cons x r ih=>intro a f b;obtain⟨g,h⟩:=List.pairwise_cons.1 f;have e:=b x ABT;unfold GZ;simp only[AAT,AAl];exact⟨e.1,e.2,ih x h λk d=>⟨g k d,(b k (ABg _ d)).2⟩⟩
theorem isIn_app{l:jD}{b:Bool}(h:KM l i=true):KM (l++[b]) i=true:=by
 unfold KM at h |-;simp only[AAT]at h |-;have hi:=BI.1 h.1;refine⟨BI.2 an,?_⟩
 have:=h.2;unfold ix at this |-;rw[AA0 ah];exact this
theorem isIn_last{l:jD}:KM (l++[true]) (l.length:Int)=true:=by unfold KM;simp only[AAT];exact⟨BI.2 an,by unfold ix;simp⟩
structure GT (pre:List AH) (u:Int) (cnt:Int) (x:AN):Prop where
 c:cnt=x.AB
 n:x.AB=((It pre u).length:Int)
 k:∀l∈x.Cx,∀k∈l,KM (It pre u) k=true/\1<=k
structure LK (c:Bj) (pre:List AH) (S:AD) (s:As):Prop where
 y:S.de=s.de
 ce:S.df=s.df
 f:S.AL=s.AL
 n:S.dc.length=c.cT.AA.length
 t:∀(u:Nat) x y,s.AA[u]? =some x->c.AA[u]? =some y->y.C3=0\/x=RS\/GT pre u (ix S.dc u) x
 w:∀(u:Nat) x y q,s.AA[u]? =some x->c.AA[u]? =some y->s.de.AA[u]? =some q->q.dg=3\/q.dg=4->∃z,gt y.B8 x.PC=some z/\z.Op=21
 e:∀(u:Nat) x q,s.AA[u]? =some x->s.de.AA[u]? =some q->2<=q.dg->x=RS\/1<=x.AB
theorem apply_v0{s:AQ}(c:i≠18)(d:i≠19):(DR w s t i o wake).2=0:=by
 have key:∀(P:Prop) [Decidable P] (a b:AQ×Int),a.2=0->b.2=0->(if P then a else b).2=0:=λP _ a b e f=>by
  by_cases h:P
  . rw[AAb h];exact e
  . rw[AAa h];exact f
 unfold DR;rw[AAa c,AAa d]
 repeat' first|rfl|apply key
variable{s':As}{m:jm}{B:AD}
theorem sim{g:Ao}{e:AH}(hE:E<=10000)(M:SI E s)(p:LK c m B s)(hr:SR c s g s' e):
 Hc c.cT B e=true/\PW m e=true/\LK c (m++[e]) (F7 c.cT B e) s':=by
 obtain⟨hp,Q,hsy,hva,hce,hfu,x,x',W,hth,h16,MH⟩:=hr;obtain⟨P,ht,_,U,hi⟩:=hp;have c1:=P.c';have c2:=P.u;have c3:=P.n;have c4:=P.v.n;have l3:=(EO P.f).2.2;obtain⟨y,_,y2,_⟩:=Ij (l:=c.AA) (i:=g.cr) ah;obtain⟨p1,p2,p3⟩:=P.t _ x y W y2;obtain⟨z,z1,z2,z3⟩:=Ij (l:=y.B8) (i:=x.PC) ah;obtain⟨q,_,q2,_⟩:=Ij (l:=s.de.AA) (i:=g.cr) ah;have C:=hi x y z q W y2 z2 q2;have hz:=(P.v.t _ y y2).i z z3;have hx:=M.2 x (AAg W);have H:((g.cr.toNat:Nat):Int)=g.cr:=ah
 -- a thread with registers shows what its trace shows
 have hgt:y.C3=0\/GT m g.cr (ix B.dc g.cr) x:=by
  rcases p.t _ x y W y2 with h|h|h
  . exact .inl h
  . rw[h]at p2;exact .inl p2.symm
  . rw[H]at h;exact .inr h
 have K:∀D,D=[]\/D∈x.Cx->GZ (ix B.dc e.cr) 0 D=true/\D.all (KM (It m e.cr))=true:=by
  rintro D (rfl|K)
  . exact⟨rfl,rfl⟩
  . rcases hgt with h|h
    . have:x.Cx.length=0:=ah;rw[List.length_eq_zero_iff.1 this]at K;cases K
    . rw[U];refine⟨nums_of D 0 (hx.b D K).1 λk V=>⟨by have:=(h.k D K k V).2;omega,?_⟩,AAY.2 λk V=>(h.k D K k V).1⟩;rw[h.c];exact((hx.b D K).2 k V).2
 have hdp:=K e.EA (C.d.imp id λh=>h.1);have qJ:=K e.DW (C.r.imp id λh=>h.1);have o:Bm c.cT e.da e.dn=true:=by have Q:=Q;unfold B7 at Q;simp only[AAT]at Q;exact Q.2.2.1
 have Vr:Ni c.cT e=true:=by
  unfold Ni;have site:z.Op≠28->e.d3=z.d3->(Cp e.d3 c.cT.Be.length&&(ix c.cT.Be e.d3).cr==e.cr)=true:=by
   intro Z J;have M:=hz.s;unfold aT at M;rw[AAa Z,H]at M;obtain⟨b,X,b2⟩:=M;have S:=X;unfold gt at S;split at S
   . have:=(AAV.1 S).1;rw[J,wU X,b2,U];simp only[AAT,ABM,and_true];exact BI.2 ah
   . cases S
  rcases C.s with⟨k1,k2⟩|⟨⟨q4,k17⟩|⟨q2',k2,n1,n17,T⟩,F⟩
  . rw[AAb (.inl k1),k2];rfl
  . obtain⟨z',X,b2⟩:=p.w _ x y q W y2 q2 (.inr q4);rw[z1]at X;obtain rfl:=AAW X;rw[AAa ah];exact site ah F
  . by_cases J:e.da=2
    . have M:=hz.s;unfold aT at M;rw[AAb (k2.1 J)]at M;rw[AAb (.inr J),F,M];rfl
    . rw[AAa ah];exact site (λh=>J (k2.2 h)) F
 have hdet:Ek c.cT B e=true:=by unfold Ek;rw[hdp.1,qJ.1];simp only[Bool.and_true,AAT,AAt];refine⟨C.d.imp (λh=>by rw[h];rfl) λh=>h.2.imp (λh=>by rw[h];rfl) λh=> ?_,C.r.imp (λh=>by rw[h];rfl) λh=>h.2.imp (λh=>by rw[h];rfl) λh=>by rw[h];rfl⟩;unfold Po;rw[AAb h.1];simpa using h.2
 have B0:Hw B e=true:=by
  unfold Hw;rw[p.ce,p.f,p.y];obtain⟨v1,v2,v3,v4⟩:=hva;by_cases k3:e.da=3
  . rw[AAb k3,wU (v1 k3)];simp
  rw[AAa k3];by_cases lN:e.da=23
  . rw[AAb lN,wU (v2 lN)];simp
  rw[AAa lN];by_cases k5:e.da=5
  . rw[AAb k5];rcases v3 k5 with h|h<;>rw[h]<;>rfl
  rw[AAa k5];by_cases k4:e.da=4\/e.da=22
  . rw[AAb k4]
  rw[AAa k4];have hv:=v4 k3 lN k5 ah ah;by_cases G:e.da=18
  . rw[AAb G];have:e.dh=FN g.TD (Cd e.dn 0 s.de.AA):=(by rw[hv,G];simp[DR]);by_cases hW:Cd e.dn 0 s.de.AA=[]
    . rw[this,hW];rfl
    . have hm:=O5 (wake:=g.TD) hW;rw[<- this]at hm;simp only[AAt];exact .inl (by simpa using hm)
  rw[AAa G];by_cases N:e.da=19
  . rw[AAb N,hv,N];simp[DR]
  rw[AAa N,hv];simp[apply_v0 G N]
 have R:Hc c.cT B e=true:=by unfold Hc JD;rw[p.y,p.ce,p.f,P.f,U,Q,Vr,hdet,B0,p.n,c1,c2];simp only[ABM,Bool.and_true,AAq];exact BI.2 ah
 have L:PW m e=true:=by unfold PW;rw[hdp.2,qJ.2];rfl
 refine⟨R,L,?_⟩;have hsy':(F7 c.cT B e).de=s'.de:=by
  show(DR c.cT B.de e.cr e.da e.dn (if e.da=18 then e.dh else -1)).1=_
  rw[p.y,hsy,U];by_cases G:e.da=18
  . have hv:=hva.2.2.2 ah ah ah ah ah
    have:=Ye c.cT s.de g.cr e.da e.dn g.TD;rw[AAb G]at this |-;rw[hv];exact this
  . have:=Ye c.cT s.de g.cr e.da e.dn g.TD;rw[AAa G]at this |-;exact this
 have I:∀(u:Nat) a,s'.AA[u]? =some a->(u:Int)=g.cr/\a=x'\/(u:Int)≠g.cr/\s.AA[u]? =some a:=by
  intro u a o;rw[hth]at o;by_cases j:(u:Int)=g.cr
  . rw[show g.cr.toNat=u from by omega,AAX ah]at o;exact .inl ⟨j,(AAW o).symm⟩
  . rw[AAe ah]at o;exact .inr ⟨j,o⟩
 have O:∀u:Nat,ix (F7 c.cT B e).dc (u:Int)=if(u:Int)=g.cr then A6 (ix B.dc g.cr+1)else ix B.dc u:=by
  intro u;show ix (B.dc.set e.cr.toNat (A6 (ix B.dc e.cr+1))) u=_;rw[U];by_cases j:(u:Int)=g.cr
  . rw[AAb j];have EP:u<B.dc.length:=(by rw[p.n];omega);rw[show g.cr.toNat=u from by omega];unfold ix;simp[EP]
  . rw[AAa j];unfold ix;rw[AAe ah]
 have P6:∀u:Int,It (m++[e]) u=if g.cr=u then It m u++[cG e]else It m u:=λu=>by rw[NB,U]
 have CX:∀(u:Nat) b,s'.de.AA[u]? =some b->((u:Int)=g.cr->e.da=16\/b.dg=2\/b.dg=5)/\((u:Int)≠g.cr->b.dg=1\/∃q,s.de.AA[u]? =some q/\(b=q\/q.dg=3/\b.dg=4)):=by intro u b S;rw[hsy]at S;exact vH Q S
 refine⟨hsy',?_,?_,?_,?_,?_,?_⟩
 . rw[hce,<- p.ce];rfl
 . rw[hfu,<- p.f];rfl
 . show(B.dc.set _ _).length=_;rw[List.length_set];exact p.n
 . intro u a b o S;rcases I u a o with⟨j,rfl⟩|⟨j,o⟩
   . rw[show u=g.cr.toNat from by omega,y2]at S;obtain rfl:=AAW S;rcases hgt with h|h
     . exact .inl h
     . rcases MH with MH|⟨e1,e2⟩
       . exact .inr (.inl MH)
       . by_cases hR:y.C3=0
         . exact .inl hR
         . refine .inr (.inr ⟨?_,?_,?_⟩)
           . rw[O,AAb j,h.c,e1]
             have:=hx.e;exact CG ah ah
           . rw[P6,j,AAb rfl,e1,h.n];simp
           . intro l hl' k V;rw[P6,j,AAb rfl];rcases e2 l hl' k V with⟨pre,m1,m2⟩|⟨rfl,hk3⟩
             . exact⟨isIn_app (h.k pre m1 k m2).1,(h.k pre m1 k m2).2⟩
             . have hr:cG e=true:=(by unfold cG;rcases hk3 with h|h<;>simp[h]);rw[hr]
               have:=isIn_last (l:=It m g.cr);rw[<- h.n]at this;refine⟨this,?_⟩;have hq:2<=q.dg:=(by rcases C.s with⟨k1,_⟩|⟨⟨_,k17⟩|⟨q2',_⟩,_⟩<;>omega);rcases p.e _ x q W q2 hq with h0|h0
               . rw[h0]at p2;exact absurd p2.symm hR
               . exact h0
   . rcases p.t u a b o S with h|h|h
     . exact .inl h
     . exact .inr (.inl h)
     . refine .inr (.inr ⟨?_,?_,?_⟩)
       . rw[O,AAa j];exact h.c
       . rw[P6,AAa (λh=>j h.symm)];exact h.n
       . rw[P6,AAa (λh=>j h.symm)];exact h.k
 . intro u a b d o S hd hs34;rcases I u a o with⟨j,rfl⟩|⟨j,o⟩
   . rw[show u=g.cr.toNat from by omega,y2]at S;obtain rfl:=AAW S;have T:e.da=16:=(by rcases(CX u d hd).1 j with h|h|h<;>omega);rw[h16 T];refine⟨z,z1,?_⟩;rcases C.s with⟨k1,_⟩|⟨⟨_,k17⟩|⟨_,_,_,_,h⟩,_⟩
     . omega
     . omega
     . exact h T
   . rcases(CX u d hd).2 j with h|⟨q',Z,J⟩
     . omega
     . refine p.w u a b q' o S Z ?_;rcases J with rfl|J
       . exact hs34
       . exact .inl J.1
 . intro u a d o hd J;rcases I u a o with⟨j,rfl⟩|⟨j,o⟩
   . rcases MH with h|⟨e1,_⟩
     . exact .inl h
     . have:=hx.e;exact .inr ah
   . rcases(CX u d hd).2 j with h|⟨q',Z,h3⟩
     . omega
     . refine p.e u a q' o Z ?_;rcases h3 with rfl|h3<;>omega
theorem VX(h:(KS w).AA[k]? =some q):q.dg=0\/q.dg=1:=by have h:=AAg h;unfold KS at h;grind
theorem yF(E:CK c)(b:CJ c=some true):B5 (DJ c) λs=>SI 0 s/\LK c [] (Hi c.cT) s:=by
 unfold DJ;obtain⟨v,C,D⟩:=RU E;rw[b]at C;have R:=D (AAW C).symm;rw[b,AAS];refine tI bm λ_=> ?_;have b:=R;have p:=Di b.w;have W:=p.c;have X:=p.f;have Z:=E.n;refine tE (Q4 _ p) (RI c.cT.df.length (λi s=>s.de=KS c.cT/\s.df=(c.cT.df.take i).map (·.db)/\s.AL=[]/\s.AA=[]) (F:=λn s i=>DJ.AW c n s i) ah ⟨rfl,rfl,rfl,rfl⟩ λn i s hi e k=> ?_);obtain⟨H,g,I,J⟩:=e;have Q:s.df.length=i:=by rw[g];simp;omega
 unfold DJ.AW DJ.L1 DJ.J1;refine tD (λ_=>gC ah (tC (Bs ah) (k _ ah ⟨H,by simp only;rw[g,<- AAp ah,AA5];rfl,I,J⟩))) λ_=> ?_;have g:s.df=c.cT.df.map (·.db):=by rw[g,AA3 ah]
 refine RI c.cT.AL.length (λi t=>t.de=KS c.cT/\t.AL=List.replicate i 0/\t.AA=[]/\t.df=s.df) (F:=λn s i=>DJ.CC c n s i) ah ⟨H,by simp[I],J,rfl⟩ λn i t hi e k=> ?_;obtain⟨K,m,B,L⟩:=e;have Q:t.AL.length=i:=by rw[m];simp
 unfold DJ.CC DJ.L2 DJ.J2;refine tD (λ_=>tC (Bs ah) (k _ ah ⟨K,by simp only;rw[m,<- ABq],B,L⟩)) λ_=> ?_;have m:t.AL=List.replicate c.cT.AL.length 0:=by rw[m,show i=c.cT.AL.length by omega]
 refine RI c.AA.length (λi u=>u.de=KS c.cT/\u.AA.length=i/\(∀x∈u.AA,TH 0 x/\x.AB=0/\∀l∈x.Cx,l=[])/\u.df=s.df/\u.AL=t.AL) (F:=λn s i=>DJ.Gc c n s i) ah ⟨K,by simp[B],by simp[B],L,rfl⟩ λn i u hi e k=> ?_;obtain⟨o,V,M,N,O⟩:=e;unfold DJ.Gc DJ.L3 DJ.J3;refine tD (λ_=>gC ah ?_) λ_=>tR ⟨⟨by rw[o];exact RB.start _,λx a=>(M x a).1⟩,by rw[o];rfl,by rw[N,g];rfl,by rw[O,m];rfl,by have:=b.n;simp[Hi],?_,?_,?_⟩
 . have U:=(b.t i _ (AAZ ah)).r;refine tC ⟨ah,ah,Bs ah⟩ (tC ⟨ah,ah,Bs ah⟩ (tC (Bs ah) (k _ ah ⟨o,an,?_,N,O⟩)));intro x a;rcases AAo.1 a with a|a
   . grind
   . rw[AAw.1 a];refine⟨⟨an,an,?_,ak⟩,rfl,λl G=>List.eq_of_mem_replicate G⟩;intro y z;have z:=List.eq_of_mem_replicate z;rw[z];exact⟨List.Pairwise.nil,ak⟩
 . intro j x y a _;have a:=M x (AAg a);refine .inr (.inr ⟨?_,by rw[a.2.1];rfl,λl G k T=>aS⟩);rw[a.2.1];show ix (List.replicate c.cT.AA.length 0) (j:Int)=0;unfold ix;simp only[AA9];by_cases S:j<c.cT.AA.length
   . grind
   . rw[List.getElem?_eq_none an];rfl
 . intro j x y q _ _ d P;rw[o]at d
   have:=VX d;omega
 . intro j x q _ d D;rw[o]at d
   have:=VX d;omega
def Acc(wv:AF)(l:jm)(S:AD):Prop:=∀r,Fe wv [] (Hi wv) (l++r)=Fe wv l S r
theorem Acc.step{wv:AF}{l:jm}{S:AD}(h:Acc wv l S){e:AH}(a:Hc wv S e=true)(b:PW l e=true):Acc wv (l++[e]) (F7 wv S e):=by intro r;rw[ABi,h,List.singleton_append,Fe,a,b];rfl
theorem from_ok(p:CK c)(f:SI 0 s)(q:LK c [] (Hi c.cT) s){l:kv}(B:l.length<=1000):B5 (Ft c s [] l) λr=>(r.1.length<=l.length/\∀e∈r.1,vX e)/\∃S,Acc c.cT r.1 S/\LK c r.1 S r.2:=by unfold Ft;refine RI l.length (λi (s:List AH×As)=>(SI i s.2/\s.1.length<=i/\∀e∈s.1,vX e)/\∃S,Acc c.cT s.1 S/\LK c s.1 S s.2) (F:=λn s i=>Ft.AW c l n s.1 s.2 i) (s0:=([],s)) ah ⟨⟨f,ak,ak⟩,_,λ_=>rfl,q⟩ λn i s hi f k=> ?_;obtain⟨⟨d,C,g⟩,S,a,b⟩:=f;have up:SI (i+1) s.2:=⟨d.1.mono ah,λt u=>(d.2 t u).mono ah⟩;unfold Ft.AW Ft.L1 Ft.J1 Ft.J2 Ft.J3;refine tD (λ_=>tI (λ_=>tG ah λx _=> ?_) λ_=>tR ⟨⟨aS,g⟩,S,a,b⟩) λ_=>tI bm λ_=>tR ⟨⟨aS,g⟩,S,a,b⟩;refine tB (yG p d ah x) λv w=>tI (λh=> ?_) λ_=>k (_,_) ah ⟨⟨up,aS,g⟩,S,a,b⟩;obtain⟨⟨y,D⟩,z⟩:=w h;obtain⟨j,m,o⟩:=sim ah d b z;refine tC (Bs ah) (k (_,_) ah ⟨⟨y,an,?_⟩,_,a.step j m,o⟩);grind
structure TA (n:Nat) (t:Ca):Prop where
 m:TM n t
 c:Fe t.cT [] (Hi t.cT) t.AB=(0,0)
theorem Run_ok(a:CK c){l:kv}(j:l.length<=1000):B5 (Ml c l) λr=>TA l.length r.1:=by
 unfold Ml;obtain⟨v,d,i⟩:=RU a;rw[d,AAS];refine tI (λ_=>tR ⟨⟨ak,ak,λh=>absurd rfl h⟩,rfl⟩) λh=> ?_;have f:v=true:=by simpa using h
 refine tB (yF a (by rw[d,f])) λs e=>tB (from_ok a e.1 e.2 j) λr b=>tR ⟨⟨b.1.1,b.1.2,λ_=>(i f).w⟩,?_⟩;obtain⟨S,g,_⟩:=b.2
 have:=g [];rw[List.append_nil]at this;exact this
end Go.Abs
