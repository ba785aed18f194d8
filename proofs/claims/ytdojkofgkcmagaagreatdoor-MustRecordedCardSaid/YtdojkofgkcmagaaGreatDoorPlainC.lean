/- What the typed programs give, in plain Lean. -/
import Derived.Test.YtdojkofgkcmagaaGreatDoorWalkS
import Derived.Test.YtdojkofgkcmagaaGreatDoorPlainB
import Derived.KernelRfl
import Derived.Shelf.Slices.SearchI
set_option linter.all false
namespace Go.Abs
set_option maxHeartbeats 4000000
variable{p:AY}{wv:Bj}{e:Ba}{k E:Nat}
section
variable{T:lp}
theorem Ti(l:nf)(s:ABj)(a:l.length<1000000):Bp (DU l s) λr=> -1<=r/\r<l.length:=by unfold DU;refine tL l.length ah λn i hi k=>?_;unfold DU.AR DU.L1 DU.J1;exact tD (λ_=>tG ah λx _=>tI (λ_=>tR ah) λ_=>k ah) λ_=>tR ah
theorem Mk(l:List DM)(s:ABj)(a:l.length<1000000):Bp (DQ l s) λr=> -1<=r/\r<l.length:=by unfold DQ;refine tL l.length ah λn i hi k=>?_;unfold DQ.AR DQ.L1 DQ.J1;exact tD (λ_=>tG ah λx _=>tI (λ_=>tR ah) λ_=>k ah) λ_=>tR ah
theorem iX(h:MP p):TT (I1 p.ep):=by have hd:=h.dl;have key:Bp (FW.bind I1) λ_=>True:=⟨(0,0),by decide +kernel,trivial⟩;rw[h.d]at key;exact key
theorem X6(h:MP p):TT (Ch p):=by
 have hd:=h.dl;have g:=h.t;have j1:∀{F:kz}{i:Int}{x:DM}(b:Bool),TT (F (A8 (i+1)))->TT (Ch.J1 F i x b):=by intro F i x b k;unfold Ch.J1;exact tI (λ_=>tR trivial) λ_=>k
 have a:∀{F:kz}{i:Int}{x:DM}(b:Bool),TT (F (A8 (i+1)))->TT (Ch.J3 F i x b):=by intro F i x b k;unfold Ch.J3;exact tI (λ_=>tR trivial) λ_=>k
 unfold Ch;refine tL p.AA.length ah λn i hi k=>?_;unfold Ch.AR Ch.L1 Ch.J2;refine tD (λ_=>tG ah λx d=>tB (Ti _ _ ah) λ_ _=>tI (λ_=>j1 _ (k ah)) λ_=>tC ah (tB (Mk _ _ an) λ_ _=>j1 _ (k ah))) λ_=>?_;refine tL p.AA.length ah λn i hi k=>?_;unfold Ch.Bs Ch.L2;refine tD (λ_=>tG ah λx d=>tI (λ_=>tR trivial) λ_=>tL x.HE.length aA λm j e c=>?_) λ_=>tR trivial;have f:=h.l x d;unfold Ch.E3 Ch.L3 Ch.J4;refine tD (λ_=>tG ah λy o=>tB (Ti _ _ ah) λ_ _=>tI (λ_=>a _ (c ah)) λ_=>tB (Mk _ _ ah) λ_ _=>tI (λ_=>a _ (c ah)) λ_=>tC ah (tB (PW _ _ an) λ_ _=>a _ (c ah))) λ_=>k ah
theorem Count_tot(d:Nat):∀(n:Nat)(l:kf),d+1<=n->Va T d l->TT (HY n l):=by induction d with|zero=>intro n l hn ⟨_,h⟩;obtain⟨n,rfl⟩:∃k,n=k+1:=⟨n-1,ah⟩;have:l=[]:=AA0.2 λx a=>(h x a).elim;subst this;show TT (DZ (HY n) []);exact tR trivial|succ d ih=>intro n l hn ⟨h1,h2⟩;obtain⟨n,rfl⟩:∃k,n=k+1:=⟨n-1,ah⟩;show TT (DZ (HY n) l);unfold DZ;refine Ru l.length (λ_ _=>True) (F:=λn s i=>DZ.AR _ l n s i) ah trivial λm i s hi _ k=>?_;unfold DZ.AR DZ.L1 DZ.J1;exact tD (λ_=>tG ah λx a=>Ji (ih n _ ah (h2 x a).body) λ_=>Ji (ih n _ ah (h2 x a).els) λ_=>k _ ah trivial) λ_=>tR trivial
theorem xP(h:wv.HH.length<=100)(a b:Int)(s:ABj):Bp (B1 wv a b s) λr=>r.2=wv:=by
 have j1:∀{F:oi}{i:Int}(b:Bool),Bp (F (A8 (i+1))) (λr=>r.2=wv)->Bp (B1.J1 F i wv b) λr=>r.2=wv:=by intro F i b k;unfold B1.J1;exact tI (λ_=>tR rfl) λ_=>k
 unfold B1;refine tL wv.HH.length ah λn i hi k=>?_;unfold B1.AR B1.L1 B1.J2;refine tD (λ_=>tG ah λx c=>?_) λ_=>tR rfl;grind
theorem uP(h:MP p)(t:Int)(s:ABj):TT (FO p t s):=by
 have hd:=h.dl;have d:=h.t;have j1:∀b,TT (FO.J1 p s b):=by
  intro b;unfold FO.J1;refine tI (λ_=>tR trivial) λ_=>tB (Ti _ _ ah) λv e=>tD (λ_=>tB (Mk _ _ ah) λ_ _=>tI (λ_=>tR trivial) λ_=>tR trivial) λ_=>tG ah λx _=>?_;have c:∀b,TT (FO.J2 p v b):=by intro b;unfold FO.J2;exact tI (λ_=>tG ah λ_ _=>tR trivial) λ_=>tR trivial
  repeat' first|exact tR trivial|exact c _|refine tI (λ_=>?_) λ_=>?_
 unfold FO;exact tD (λ_=>tD (λ_=>tG ah λx a=>tB (PW _ _ (by have:=h.l x a;omega)) λ_ _=>j1 _) λ_=>j1 _) λ_=>j1 _
theorem MV(h:MP p)(t:Int)(s:ABj)(a b:Int):TT (D3 p t s a b):=by unfold D3 D3.J1;refine Ji (uP h t s) λ_=>?_;repeat' first|exact tR trivial|refine tI (λ_=>?_) λ_=>?_
theorem Nodes_tot(d:Nat):∀(n:Nat)(e:Ba),d<=n->dE d e->TT (LD n e):=by induction d with|zero=>exactλn e _ h=>h.elim|succ d ih=>intro n e hn ⟨h1,h2⟩;obtain⟨n,rfl⟩:∃k,n=k+1:=⟨n-1,ah⟩;show TT (Ga (LD n) e);unfold Ga;refine Ru e.L.length (λ_ _=>True) (F:=λn (s:Int×Int) i=>Ga.AR _ e n s.1 s.2 i) ah (s0:=(1,0)) trivial λm i s hi _ k=>?_;unfold Ga.AR Ga.L1 Ga.J1;exact tD (λ_=>tG ah λx a=>Ji (ih n x ah (h2 x a)) λv=>k (_,_) ah trivial) λ_=>tR trivial
theorem names_tot(h:MP p)(t:Int)(d:Nat):∀(n:Nat)(e:Ba),d<=n->dE d e->TT (Jq n p t e):=by
 induction d with
 |zero=>exactλn e _ h=>h.elim
 |succ d ih=>
  intro n e hn ⟨h1,h2⟩;obtain⟨n,rfl⟩:∃k,n=k+1:=⟨n-1,ah⟩;show TT (El (Jq n) p t e);have j1:∀r,TT (El.J1 (Jq n) e p t r):=by intro r;unfold El.J1;refine Ru e.L.length (λ_ _=>True) (F:=λm s i=>El.AR _ e p t m s i) ah trivial λm i s hi _ k=>?_;unfold El.AR El.L1 El.J2 El.J3;exact tD (λ_=>tI (λ_=>tG ah λx a=>Ji (ih n x ah (h2 x a)) λv=>k _ ah trivial) λ_=>tR trivial) λ_=>tI bk λ_=>tR trivial
  unfold El;exact tI (λ_=>Ji (MV h _ _ _ _) λ_=>j1 _) λ_=>tI (λ_=>Ji (MV h _ _ _ _) λ_=>j1 _) λ_=>j1 _
theorem oP(h:MP p)(t:Int)(a:dE 2 e):TT (GH p t e):=by
 have j1:∀b,TT (GH.J1 e p t b):=by intro b;unfold GH.J1;exact tI (λ_=>tR trivial) λ_=>Ji (names_tot h t 2 _ e (Nv ah) a) λ_=>tR trivial
 unfold GH;exact Ji (uT a) λ_=>tI (λ_=>tR trivial) λ_=>Ji (Nodes_tot 2 _ e (Nv ah) a) λ_=>tI (λ_=>j1 _) λ_=>j1 _
theorem P0(a b:Int):TT (GJ a b):=by unfold GJ;exact tI (λ_=>tR trivial) λ_=>tR trivial
theorem Ja(b:Bool):TT (CX b):=by unfold CX;exact tI (λ_=>tR trivial) λ_=>tR trivial
structure WK (p:AY) (A K:Nat) (wv:Bj):Prop where
 p:wv.p=p
 a:wv.HH.length=A
 s:wv.NW.length<=K
 t:wv.dD.length<=K
theorem WK.mono{A:Nat}(h:WK p A k wv)(b:k<=E):WK p A E wv:=⟨h.p,h.a,by have:=h.s;omega,by have:=h.t;omega⟩
theorem one_tot(h:MP p){A:Nat}(f:WK p A E wv)(H:A<=100)(J:E<=900000){s:AU}(o:JJ T (k+1) s):Bp (Bg wv s) λr=>WK p A (E+1) r.2:=by
 have hd:=h.dl;have n:=h.t;have m:=f.a;have F:=f.s;have G:=f.t;obtain rfl:=f.p;have W:WK wv.p A (E+1) wv:=f.mono ah;have I:=λa b s=>xP (wv:=wv) ah a b s;have K:=oP h wv.B7 o.e;have j:∀(b:Bool) e,Bp (Bg.gN s (b,wv) wv e) λr=>WK wv.p A (E+1) r.2:=by intro b e;unfold Bg.gN;exact tC (Bq aA) (Ji K λ_=>Ji (P0 _ _) λ_=>tR ⟨rfl,m,W.s,an⟩)
 have g:∀(b c:Bool) e,Bp (Bg.Qu e s (b,wv) wv c) λr=>WK wv.p A (E+1) r.2:=by intro b c e;unfold Bg.Qu;exact tI (λ_=>j _ _) λ_=>j _ _
 have q:∀(b:Bool) e,Bp (Bg.OS s (b,wv) wv e) λr=>WK wv.p A (E+1) r.2:=by intro b e;unfold Bg.OS;exact tI (λ_=>tB (PW _ _ aA) λ_ _=>g _ _ _) λ_=>g _ _ _
 have D:∀(b c:Bool),Bp (Bg.J8 s (b,wv) c) λr=>WK wv.p A (E+1) r.2:=by intro b c;unfold Bg.J8;exact tI (λ_=>tR W) λ_=>tB (PW _ _ aA) λ_ _=>tI (λ_=>tR W) λ_=>tC (Bq aA) (tR ⟨rfl,m,an,W.t⟩)
 have z:s.Op∈[(9:Int),10,11]->Bp (DU wv.p.ep s.dv) λr=>0<=r/\r<9:=by
  intro B;rw[o.2.2.2.1 B];have key:FW.bind (λl=>DU l cN)=some 7:=by decide +kernel
  rw[h.d]at key;exact⟨7,key,ah⟩
 have C:∀(b c d t:Bool),(t=true->s.Op∈[(9:Int),10,11])->Bp (Bg.J6 s (b,wv) (c,wv) (d,wv) wv t) λr=>WK wv.p A (E+1) r.2:=by
  intro b c d t v;unfold Bg.J6 Bg.J7 Bg.J9;refine tI (λn=>Ji (MV h _ _ _ _) λ_=>tI (λ_=>tR W) λ_=>tB (z (v n)) λ_ _=>tG ah λx _=>tB (I _ _ _) ?_) λ_=>?_
  . rintro⟨e,_⟩ rfl;repeat' first|exact tR W|refine Ji (Ja _) λ_=>?_|refine tI (λ_=>?_) λ_=>?_
  . repeat' first|exact tR W|refine Ji (MV h _ _ _ _) λ_=>?_|refine Ji (Ja _) λ_=>?_|refine Ji (P0 _ _) λ_=>?_|exact D _ _|exact q _ _|refine tB (Mk _ _ ah) λ_ _=>?_|refine tI (λ_=>?_) λ_=>?_
 have u:∀(b c d t:Bool),Bp (Bg.J3 s (b,wv) (c,wv) (d,wv) wv t) λr=>WK wv.p A (E+1) r.2:=by intro b c d t;unfold Bg.J3 Bg.J4 Bg.J5;refine tI (λn=>Ji (MV h _ _ _ _) λ_=>tI (λ_=>Ji (Ja _) λ_=>Ji (P0 _ _) λ_=>tR W) λ_=>tB (I _ _ _) ?_) λ_=>?_;rintro⟨e,_⟩ rfl;exact Ji (Ja _) λ_=>Ji (P0 _ _) λ_=>tR W;(. repeat' first|exact tR W|refine Ji (Ja _) λ_=>?_|exact C _ _ _ _ (λh=>am)|refine tI (λ_=>?_) λ_=>?_)
 have j1:∀(b c d t:Bool),Bp (Bg.J1 s (b,wv) (c,wv) (d,wv) wv t) λr=>WK wv.p A (E+1) r.2:=by intro b c d t;unfold Bg.J1 Bg.J2;refine tI (λn=>Ji K λ_=>tR W) λ_=>tI (λ_=>Ji (MV h _ _ _ _) λ_=>tI (λ_=>Ji (Ja _) λ_=>Ji (P0 _ _) λ_=>tR W) λ_=>tB (I _ _ _) ?_) λ_=>tI (λ_=>u _ _ _ _) λ_=>u _ _ _ _;rintro⟨e,_⟩ rfl;exact Ji (Ja _) λ_=>Ji (P0 _ _) λ_=>tR W
 unfold Bg;refine tB (I _ _ _) ?_;rintro⟨b,w⟩ e;obtain rfl:wv=w:=e.symm;refine tB (I _ _ _) ?_;rintro⟨c,w⟩ e;obtain rfl:wv=w:=e.symm;refine tB (I _ _ _) ?_;rintro⟨d,w⟩ e;obtain rfl:wv=w:=e.symm;refine tI (λ_=>?_) λ_=>tI (λ_=>j1 _ _ _ _) λ_=>j1 _ _ _ _;refine tI (λ_=>Ji (MV h _ _ _ _) λ_=>Ji K λ_=>Ji (P0 _ _) λ_=>tR W) λhi=>Ji (MV h _ _ _ _) λ_=>?_;rcases o.i with e|⟨a,e,m⟩
 simp_all;rw[e];exact tE (y:=a) rfl (Ji (oP h wv.B7 m) λ_=>Ji K λ_=>Ji (P0 _ _) λ_=>Ji (P0 _ _) λ_=>tR W)
def Il:Nat->Nat|0=>0|d+1=>1+20*Il d
theorem zJ(h:MP p)(d:Nat):∀(n A K:Nat)(wv:Bj)(l:kf),d+1<=n->A+d<=50->K+10*Il d<=900000->WK p A K wv->Va T d l->Bp (FP n wv l) λr=>WK p A (K+10*Il d) r.2.2:=by
 induction d with
 |zero=>intro n A K wv l hn z B b ⟨_,h⟩;obtain⟨n,rfl⟩:∃k,n=k+1:=⟨n-1,ah⟩;have:l=[]:=AA0.2 λx j=>(h x j).elim;subst this;show Bp (Ca (FP n) wv []) _;exact tR b
 |succ d ih=>
  intro n A K wv l hn z B b ⟨h1,h2⟩;obtain⟨n,rfl⟩:∃k,n=k+1:=⟨n-1,ah⟩;show Bp (Ca (FP n) wv l) _;unfold Ca;have G:Il (d+1)=1+20*Il d:=rfl;refine Ru l.length (λi wv=>WK p A (K+i*Il (d+1)) wv) (F:=λn s i=>Ca.AR _ l n s i) ah am λm i s hi u k=>?_;have I:i*Il (d+1)<=10*Il (d+1):=AA1 _ ah;have o:∀{w},WK p A (K+i*Il (d+1)) w->WK p A (K+10*Il (d+1)) w:=λh=>h.mono ah;unfold Ca.AR Ca.L1 Ca.J3;refine tD (λD=>tG ah λx j=>tB (one_tot h u ah ah (h2 x j)) λv f=>?_) λ_=>tR (o u);have E:(i+1)*Il (d+1)<=10*Il (d+1):=AA1 _ ah;have H:(i+1)*Il (d+1)=i*Il (d+1)+Il (d+1):=ABh _ _;have y:∀(w:Bj)(e c:Int),WK p (A+1) (K+(i+1)*Il (d+1)) w->Bp (Ca.J2 (Ca.AR (FP n) l m) i w e c) λr=>WK p A (K+10*Il (d+1)) r.2.2:=by intro w e c b;have C:=b.a;unfold Ca.J2;rw[CD (n:=(w.HH.length:Int)-1) ah ah];have wk:WK p A (K+(i+1)*Il (d+1)) (Bj.mk w.p w.B7 (w.HH.take ((w.HH.length:Int)-1).toNat) w.NW w.dD):=⟨b.p,an,b.s,b.t⟩;exact tC ah (tI (λ_=>tR (wk.mono ah)) λ_=>k _ ah wk)
  have j1:∀e,Bp (Ca.J1 (Ca.AR (FP n) l m) (FP n) i v x e) λr=>WK p A (K+10*Il (d+1)) r.2.2:=by intro e;have C:=f.a;unfold Ca.J1;refine tI (λ_=>tR (f.mono ah)) λ_=>tC (Bq ah) (tG an λ_ _=>?_);refine tB (ih n (A+1) (K+i*Il (d+1)+1) _ _ ah ah ah ⟨f.p,an,f.s,f.t⟩ (h2 x j).body) λJ g=>?_;refine tI (λ_=>?_) λ_=>y _ _ _ (g.mono ah);exact tB (ih n (A+1) _ _ _ ah ah ah g (h2 x j).els) λL q=>y _ _ _ (q.mono ah)
  grind
theorem iN(h:MP p):TT (BT p):=by have hd:=h.dl;have j:=h.t;have g:Il 4=8421:=rfl;unfold BT;refine Ji (ZS h) λ_=>tI (λ_=>tR trivial) λ_=>Ji (iX h) λ_=>tI (λ_=>tR trivial) λ_=>tI (λ_=>tR trivial) λ_=>Ji (X6 h) λ_=>tI (λ_=>tR trivial) λ_=>?_;refine Ru p.AA.length (λ_ _=>True) (F:=λn s i=>BT.AR p n s i) ah trivial λm i s hi _ k=>?_;unfold BT.AR BT.L1 BT.J1;refine tD (λ_=>tG ah λx d=>Ji (Count_tot 4 _ _ (Nv ah) (h.b x d)) λ_=>k _ ah trivial) λ_=>tI (λ_=>tR trivial) λ_=>?_;refine Ru p.AA.length (λi w=>WK p 0 (i*84210) w) (F:=λn s i=>BT.Bs p n s i) ah ⟨rfl,rfl,ak,ak⟩ λm i s hi c k=>?_;unfold BT.Bs BT.L2 BT.J2;refine tD (λf=>tG ah λx d=>?_) λ_=>tR trivial;refine tB (zJ h 4 _ 0 (i*84210) _ _ (Nv ah) ah ah ⟨c.p,c.a,c.s,c.t⟩ (h.b x d)) λv e=>tI (λ_=>tR trivial) λ_=>k _ ah (e.mono ah)
end
variable{W:i6}
section
variable{T:lp}
structure MK1 (N i:Nat) (m:AP) (p:AY):Prop where
 t:Dn m.t
 h:m.eb=[]
 d:FW=some p.ep
 n:p.AA.length=i
 b:∀t∈p.AA,Va (λs=>s∈Qr.take N) 4 t.dz
 nm:p.AA.map (·.dv)=Qr.take i
 lo:∀t∈p.AA,t.HE=fI
abbrev MPO(p:AY):Prop:=MP p/\∃l,BT p=some (0,l)
theorem oU{l:i6}(R:l.length<=4000000000000000000)(S:∀x∈l,0<=x/\x<256):Bp (CS l) MPO:=by
 have hd:∃D,FW=some D:=⟨_,rfl⟩;obtain⟨D,r⟩:=hd;have I:Qr.length=4:=rfl;unfold CS;refine tE r (tB (Ho (t:=⟨l,0⟩) ⟨R,ak,S⟩ ah) ?_);rintro⟨v,G⟩ ⟨U,u⟩;simp only at U u;have M:A8 (2+v)=2+v:=CD ah ah;refine Ru (2+v).toNat (λi (s:AP×AY)=>MK1 (2+v).toNat i s.1 s.2) (F:=λn s i=>CS.AR (v,G) n s.1 s.2 i) ah (s0:=(_,_)) ⟨u,rfl,r,rfl,ak,rfl,ak⟩ λn i s hi f k=>?_;unfold CS.AR CS.L1;simp only[M];have V:¬(i:Int)<2+v->Bp (CS.J5 s.2) MPO:=by
  intro oL;have hi:i=(2+v).toNat:=ah;have L:MP s.2:=⟨f.d,by have:=f.n;omega,λt C=>by rw[f.lo t C];simp[fI],by rw[f.nm,hi];exact f.b,⟨i,ah,ah,f.nm⟩,f.lo⟩;unfold CS.J5 K5 Fl;obtain⟨q,B,_⟩:=iN L;refine tE B (tI (λ_=>tE r ?_) λh=>tR ⟨L,q.2,B.trans (congrArg some (Prod.ext aA rfl))⟩);simp only[AAG];have key:FW.bind (λD=>BT ⟨D,[⟨⟨#[109,97,105,110]⟩,0,[⟨#[97]⟩,⟨#[98]⟩],[⟨1,0,⟨#[120]⟩,⟨#[]⟩,[],⟨1,1,⟨#[]⟩,[]⟩,[],[]⟩]⟩]⟩)=some (0,0):=by decide +kernel
  rw[r,AAG]at key;refine tR ⟨⟨r,ak,ak,?_,⟨1,ah,ah,rfl⟩,by simp[fI]⟩,0,key⟩;simp only[AAc,forall_eq];refine⟨ak,?_⟩;simp only[AAc,forall_eq];exact Mx (.inl ⟨rfl,rfl⟩) (aU bg) _
 have E:∀m t,(hi:i<(2+v).toNat)->Dn m.t->m.eb=[]->(t.HE=fI/\t.dv=Qr[i]' ah)->Va (λs=>s∈Qr.take (2+v).toNat) 4 t.dz->Bp (CS.J3 (λm p i=>CS.AR (v,G) n m p i) i s.2 m t) MPO:=by intro m t j o H y I;unfold CS.J3 CS.J4;have hn:=f.n;refine tC (Bq ah) (k (m,_) j ⟨o,H,f.d,an,?_,?_,?_⟩);simp only[AAX,AAc];rintro x (e|rfl);exact f.b x e;exact I;simp only[AAu,f.nm,AAd,AAv,y.2];simp_all;simp only[AAX,AAc];rintro x (e|rfl);exact f.lo x e;grind
 have j1:∀t,(hi:i<(2+v).toNat)->(t.HE=fI/\t.dv=Qr[i]' ah)->t.dz.length<=3->(∀x∈t.dz,JJ (λs=>s∈Qr.take (2+v).toNat) 4 x)->Bp (CS.J1 (λm p i=>CS.AR (v,G) n m p i) i s.1 s.2 t) MPO:=by intro t j o H y;have Q:s.1.eb=[]:=f.h;unfold CS.J1;refine tB (Ho f.t ah) λa P=>?_;rw[CD (n:=1+a.1) ah ah];have J:=BK;obtain⟨O,z⟩:∃n,BQ=n+1:=⟨BQ-1,ah⟩;rw[z];refine tB ((made_tot (T:=λs=>s∈Qr.take (2+v).toNat) 2 0 O ah ah ah).2 (AP.mk a.2 i s.1.left s.1.Ir s.1.tx s.1.ea s.1.eu s.1.eb) (1+a.1) ⟨P.2,am⟩ ah) λb J=>?_;obtain⟨⟨Z,g2⟩,w⟩:=J;have g:b.2.eb=[]:=w.h.trans Q;have g0:∀x∈t.dz++b.1,JJ (λs=>s∈Qr.take (2+v).toNat) 4 x:=λx e=>(AAX.1 e).elim (y x) (g2 x);refine tC (Bq ah) (tI (λ_=>tB (Ho w.t ah) λc K=>?_) λ_=>?_)<;>unfold CS.J2;(refine tI (λ_=>tC (Bq an) (E _ _ j K.2 g o ⟨an,?_⟩)) λ_=>E _ _ j K.2 g o ⟨an,g0⟩;intro x e;rcases AAX.1 e with e|e);grind;rw[AAc.1 e];refine RO bg bg bg ⟨ak,ak,ak,λ_=>?_,ak,ak⟩;exact List.mem_take_iff_getElem.2 ⟨1,ah,rfl⟩;exact tI bk λ_=>E _ _ j w.t g o ⟨an,g0⟩
 refine tD (λh=>kV (l:=Qr) ah (tI (λ_=>?_) λ_=>j1 _ ah ⟨rfl,rfl⟩ ak ak)) V;refine tLk (2+v).toNat 1 (λk (t:DM)=>(t.HE=fI/\t.dv=Qr[i]' ah)/\t.dz.length+1<=k/\∀x∈t.dz,JJ (λs=>s∈Qr.take (2+v).toNat) 4 x) (F:=λn t k=>CS.Bs _ _ _ _ _ n t k) ah ah ⟨⟨rfl,rfl⟩,ak,ak⟩ λm q t B C W=>?_;obtain⟨N,t2,X⟩:=C;unfold CS.Bs CS.L2;simp only[M];refine tD (λ_=>kV (l:=Qr) ah (tC (Bq ah) (W _ ah ⟨N,an,?_⟩))) λ_=>j1 _ ah N ah X;intro x e;rcases AAX.1 e with e|e
 grind;rw[AAc.1 e];refine RO bg bg ak ⟨ak,ak,ak,λ_=>?_,ak,ak⟩;exact List.mem_take_iff_getElem.2 ⟨q,ah,rfl⟩
theorem oM(a:W.length<=1000):Bp (FM W) λr=>r.length<=W.length:=by unfold FM;refine Ru W.length (λi (s:lm)=>s.length<=i) (F:=λn s i=>FM.AR W n s i) ah ak λn i s hi b k=>?_;unfold FM.AR FM.L1 FM.J1;exact tD (λ_=>tG ah λx _=>tC (Bq ah) (k _ ah an)) λ_=>tR ah
theorem sites_tot(d:Nat):∀(n K:Nat)(o:nl)(t a:Int)(l:kf),d+1<=n->K+10*Il d<=900000->o.length<=K->Va T d l->Bp (HZ n o t a l) λr=>r.1.length<=K+10*Il d:=by induction d with|zero=>intro n K o t a l hn e c ⟨_,h⟩;obtain⟨n,rfl⟩:∃k,n=k+1:=⟨n-1,ah⟩;have:l=[]:=AA0.2 λx b=>(h x b).elim;subst this;show Bp (Da (HZ n) o t a []) _;exact tR c|succ d ih=>intro n K o t a l hn e c ⟨h1,h2⟩;obtain⟨n,rfl⟩:∃k,n=k+1:=⟨n-1,ah⟩;show Bp (Da (HZ n) o t a l) _;unfold Da;have p:Il (d+1)=1+20*Il d:=rfl;refine Ru l.length (λi (s:List Eb×Int)=>s.1.length<=K+i*Il (d+1)) (F:=λm s i=>Da.AR _ l t m s.1 s.2 i) (s0:=(o,a)) ah am λm i s hi y k=>?_;have u:i*Il (d+1)<=10*Il (d+1):=AA1 _ ah;unfold Da.AR Da.L1 Da.J1;refine tD (λg=>tG ah λx b=>tC (Bq ah) ?_) λ_=>tR aA;have j:(i+1)*Il (d+1)<=10*Il (d+1):=AA1 _ ah;have q:(i+1)*Il (d+1)=i*Il (d+1)+Il (d+1):=ABh _ _;refine tB (ih n (K+i*Il (d+1)+1) _ _ _ _ ah ah an (h2 x b).body) λv f=>?_;refine tB (ih n _ _ _ _ _ ah ah f (h2 x b).els) λw c=>k (_,_) ah aA
structure MW (w:AG):Prop where
 q:Bp (CB w qS) λr=>0<=r/\r<w.di.length
 c:w.di.length<=100
 l:w.AK.length<=100
 d:w.Al.length<=100
 f:w.AL.length<=100
 t:w.AA.length<=4
def MZ:List ED:=[⟨⟨#[120]⟩,0,0,false,0⟩,⟨⟨#[121]⟩,0,0,false,1⟩,⟨⟨#[118]⟩,0,0,true,0⟩,⟨⟨#[113]⟩,0,2,false,0⟩,⟨⟨#[113]⟩,1,2,false,0⟩]
theorem gY(h:MP p)(j:∃l,BT p=some (0,l)):Bp (CP p) MW:=by
 obtain⟨l,j⟩:=j;have B:=h.t;have z:Il 4=8421:=rfl;unfold CP;refine tE j (tI bk λ_=>?_);have key:∀D T,FW=some D->CP.AR ⟨D,T⟩ BQ (AG.mk [] [] [] [] [] []) 0=CP.J4 ⟨D,T⟩ ⟨MZ,[⟨⟨#[109]⟩,false⟩,⟨⟨#[110]⟩,false⟩,⟨⟨#[114]⟩,true⟩],[⟨⟨#[99]⟩,0⟩],[⟨#[102]⟩],[],[]⟩:=by
  intro D T m;unfold FW at m;obtain rfl:=AAK m
  kernel_rfl
 rw[show CP.AR p BQ (AG.mk [] [] [] [] [] []) 0=_ from key p.ep p.AA h.d];unfold CP.J4;rw[show AY.mk p.ep p.AA=p from rfl];refine Ru p.AA.length (λi w=>w.Bt.length<=i*84210/\w.AA.length=i/\w.di=MZ/\w.AK.length=3/\w.Al.length=1/\w.AL.length=1) (F:=λn s i=>CP.E3 _ n s i) ah ⟨ak,rfl,rfl,rfl,rfl,rfl⟩ λn i w hi e k=>?_;obtain⟨q,E,g,r,u,y⟩:=e;unfold CP.E3 CP.L3 CP.J5;refine tD (λ_=>tG ah λx o=>tC (Bq ah) (tB (sites_tot 4 _ (i*84210) _ _ _ _ (Nv ah) ah q (h.b x o)) λv C=>k _ ah ⟨aA,an,g,r,u,y⟩)) λ_=>tR ⟨?_,by rw[g];decide,ah,ah,ah,ah⟩;rw[g];have a:∀w:AG,w.di=MZ->CB w qS=some 3:=by
  intro w e;obtain⟨c,l,d,f,t,s⟩:=w;simp only at e;subst e
  kernel_rfl
 exact⟨3,a w g,ah,bg⟩
end
variable{g r:BW}{n:Nat}{w:AG}{a:Type}
section
variable{T:lp}
structure GS (g:BW) (n:Nat) (r:BW):Prop where
 w:r.w=g.w
 l:r.du=g.du
 a:g.dx.length<=r.dx.length
 b:r.dx.length<=g.dx.length+n
structure GB (g:BW) (n:Nat):Prop where
 w:MW g.w
 l:g.du.length<=2
 n:g.dx.length+n<=8000000
theorem GS.refl(g:BW)(n:Nat):GS g n g:=⟨rfl,rfl,ah,ah⟩
theorem GS.trans{h:BW}(a:GS g E h)(b:GS h n r)(c:E+n<=k):GS g k r:=⟨b.w.trans a.w,b.l.trans a.l,by have:=a.a;have:=b.a;omega,by have:=a.b;have:=b.b;omega⟩
theorem GB.next{h:BW}(a:GB g k)(s:GS g E h)(c:E+n<=k):GB h n:=⟨by rw[s.w];exact a.w,by rw[s.l];exact a.l,by have:=s.b;have:=a.n;omega⟩
theorem GB.less(a:GB g k)(b:n<=k):GB g n:=a.next (GS.refl g 0) ah
theorem Sc(h:GB g 1)(i:Ak):Bp (BU g i) λr=>GS g 1 r/\r.dx.length=g.dx.length+1:=by have:=h.n;unfold BU;exact tC (Bq ah) (tR ⟨⟨rfl,rfl,ak,ak⟩,ak⟩)
def Jc(h:GB g 1)(i:Ak):Bp ((BU g i).bind λv=>some v) (GS g 1):=tB (Sc h i) λ_ h=>tR h.1
theorem ZJ(h:MW w)(s:ABj):TT (CB w s):=by have a:=h.c;unfold CB;refine tL w.di.length ah λn i hi k=>?_;unfold CB.AR CB.L1 CB.J1;exact tD (λ_=>tG ah λx _=>tI (λ_=>tR trivial) λ_=>k ah) λ_=>tR trivial
theorem xR(h:MW w)(s:ABj):TT (Ee w.AK s):=by have a:=h.l;unfold Ee;refine tL w.AK.length ah λn i hi k=>?_;unfold Ee.AR Ee.L1 Ee.J1;exact tD (λ_=>tG ah λx _=>tI (λ_=>tR trivial) λ_=>k ah) λ_=>tR trivial
theorem cond_tot(h:MW g.w)(s:ABj):Bp (Cw g s) λr=>r.2=g:=by have a:=h.d;unfold Cw;refine tL g.w.Al.length ah λn i hi k=>?_;unfold Cw.AR Cw.L1 Cw.J1;exact tD (λ_=>tG ah λx _=>tI (λ_=>tR rfl) λ_=>k ah) λ_=>tR rfl
theorem pZ(h:MW w){s:ABj}(b:s=qS){f:Int->ED->ABi a}{Q:a->Prop}(k:∀i c,Bp (f i c) Q):Bp ((CB w s).bind λi=>(gt w.di i).bind (f i)) Q:=by rw[b];exact tB h.q λi hi=>tG hi λc _=>k i c
theorem value_tot(d:Nat):∀(n:Nat)(g:BW)(e:Ba)(r:Int),d<=n->VZ d e->GB g (3^d)->Bp (DL n g e r) (GS g (3^d)):=by
 induction d with
 |zero=>exactλn g e r _ h=>h.elim
 |succ d ih=>
  intro n g e r hn z f;obtain⟨n,rfl⟩:∃k,n=k+1:=⟨n-1,ah⟩;have C:3^(d+1)=3*3^d:=by rw[Nat.pow_succ];omega
  have B:0<3^d:=Nat.pow_pos ah;show Bp (HJ (DL n) g e r) _;have up:∀{r},GS g 1 r->GS g (3^(d+1)) r:=λh=>h.trans (GS.refl _ 0) ah;unfold HJ;rcases z with⟨j,_⟩|⟨j,_⟩|⟨j,t,a,p,q⟩|⟨j,a,b,p,q,x⟩
  (simp only[j];exact tI (λ_=>tM (Jc (f.less ah) _) λ_=>up) λh=>by cases h);simp only[j];refine tI bk λ_=>tI (λ_=>tB (PW _ _ (by have:=f.l;omega)) λ_ _=>tI (λ_=>tM (Jc (f.less ah) _) λ_=>up) λ_=>?_) λh=>(by cases h);exact Ji (ZJ f.w _) λ_=>tM (Jc (f.less ah) _) λ_=>up;simp only[j,p];refine tI bk λ_=>tI bk λ_=>tI (λ_=>tE (y:=a) rfl ?_) λh=>(by cases h);refine tB (ih n g a r ah q (f.less ah)) λv m=>?_;have o:GB v 1:=f.next m ah;exact pZ o.w t λi c=>tM (Jc o _) λ_ h=>m.trans h ah;have D:e.Op≠1:=λh=>am;have E:e.Op≠2:=λh=>am;have F:e.Op≠3:=λh=>am;rw[AAL am,AAL am,AAL am,p];refine tI bk λ_=>tE (y:=a) rfl (tB (ih n g a r ah q (f.less ah)) λv m=>tE (y:=b) rfl (tB (ih n v b _ ah x (f.next m ah)) λu s=>?_));exact tM (Jc (f.next (m.trans s (AAj _)) ah) _) λ_ h=>(m.trans s (AAj _)).trans h ah
theorem WW(a:VZ 2 e)(b:GB g 9)(r:Int):Bp (DL BQ g e r) (GS g 9):=value_tot 2 _ g e r (Nv ah) a b
theorem vE(e:GB g 30){s:AU}(j:JJ T (k+1) s)(o:s.Op=1):Bp (Gp g s) (GS g 30):=by
 have f:VZ 2 s.dX:=j.2.2.1.resolve_right λh=>h.1 (by simp[o]);unfold Gp;rcases j.2.1 with h|⟨_,p,a,h,n⟩
 rw[h];refine tI bk λ_=>tB (WW f (e.less ah) _) λv d=>?_;have b:GB v 1:=e.next d ah;refine tB (PW _ _ (by have:=b.l;omega)) λ_ _=>tI (λ_=>tM (Jc b _) λ_ h=>d.trans h ah) λ_=>Ji (ZJ b.w _) λ_=>tM (Jc b _) λ_ h=>d.trans h ah;rw[h];refine tI (λ_=>tE (y:=a) rfl ?_) λh=>(by cases h);refine tB (WW n (e.less ah) _) λv d=>tB (WW f (e.next d ah) _) λu m=>?_;have b:GB u 1:=e.next (d.trans m (AAj _)) ah;exact pZ b.w p λi c=>tM (Jc b _) λ_ h=>(d.trans m (AAj _)).trans h ah
def cg:Nat->Nat|0=>0|d+1=>40+20*cg d
def GS.dy(h:GS g n r)(a b:Int):GS g n ⟨r.w,r.du,r.dx,a,b⟩:=⟨h.w,h.l,h.a,h.b⟩
theorem GS.set(h:GS g n r)(i:Nat)(x:Ak)(a b:Int):GS g n ⟨r.w,r.du,r.dx.set i x,a,b⟩:=⟨h.w,h.l,by simpa using h.a,by simpa using h.b⟩
section
variable{R:mq}{g:BW}{s:AU}{n:Nat}
theorem u9(d:GB g (n+2))(i:∀g,GB g n->Bp (R g s.dz) (GS g n))(a b c:Int):Bp (Di R g s a b c) (GS g (n+2)):=by unfold Di;refine tB (Sc (d.less ah) _) λv f=>tB (i v (d.next f.1 ah)) λu j=>?_;have e:GS g (n+1) ⟨u.w,u.du,u.dx,g.dy,u.next⟩:=(f.1.trans j ah).dy _ _;exact tM (Jc (d.next e ah) _) λ_ h=>e.trans h ah
theorem lO(b:GB g (2*n+11))(p:VZ 2 s.dX)(o:∀g,GB g n->Bp (R g s.dz) (GS g n))(m:∀g,GB g n->Bp (R g s.ed) (GS g n)):Bp (DR R g s) (GS g (2*n+11)):=by unfold DR;refine tB (WW p (b.less ah) _) λv j=>tB (Sc (b.next j ah) _) λu i=>?_;have e:GS g 10 u:=j.trans i.1 ah;refine tB (o u (b.next e ah)) λx k=>?_;have f:GS g (n+10) x:=e.trans k ah;have q:=i.2;have r:=k.a;have c:=f.dy g.dy x.next;refine tI (λ_=>tB (Sc (b.next c ah) _) λy d=>tG ?_ λ_ _=>tR ?_) λ_=>tI (λ_=>tG ?_ λ_ _=>tR ?_) λ_=>tB (Sc (b.next c ah) _) λy d=>tG ?_ λ_ _=>?_;grind;exact((c.trans d.1 (AAj _)).set _ _ _ _).trans (GS.refl _ 0) ah;omega;exact(f.set _ _ _ _).trans (GS.refl _ 0) ah;grind;have h:=(c.trans d.1 (AAj _)).set v.dx.length (Ak.mk (‹Ak›).Op (‹Ak›).A (y.dx.length:Int) (‹Ak›).C (‹Ak›).N (‹Ak›).d7) y.dy y.next;refine tB (m _ (b.next h ah)) λz l=>tG ?_ λ_ _=>tR (((h.trans l (AAj _)).set _ _ _ _).trans (GS.refl _ 0) ah);have t:=d.2;have w:=l.a;grind
variable{R1:mi}{R2:mb}
theorem gstmt_tot(hn:30<=n)(j:GB g n)(o:JJ T (k+1) s)(u:VZ 2 s.dX->∀g,GB g n->Bp (R1 g s) (GS g n))(x:∀g a b c,GB g n->Bp (R2 g s a b c) (GS g n)):Bp (C4 R1 R2 g s) (GS g n):=by
  have D:=j.l;have C:=j.w.f;have E:=j.w.t;have d:GB (BW.mk g.w g.du g.dx g.next (A8 (g.next+1))) n:=j.next ((GS.refl g 0).dy _ _) ah;have up:∀{r},GS (BW.mk g.w g.du g.dx g.next (A8 (g.next+1))) n r->GS g n r:=λh=>⟨h.w,h.l,h.a,h.b⟩;have e:∀{m r},m<=n->GS (BW.mk g.w g.du g.dx g.next (A8 (g.next+1))) m r->GS g n r:=λy h=>up (h.trans (GS.refl _ 0) y);have A:∀a b c,Bp ((R2 (BW.mk g.w g.du g.dx g.next (A8 (g.next+1))) s a b c).bind λv=>some v) (GS g n):=λa b c=>tB (x _ a b c d) λ_ h=>tR (up h);have P:∀i,Bp ((BU (BW.mk g.w g.du g.dx g.next (A8 (g.next+1))) i).bind λv=>some v) (GS g n):=λi=>tM (Jc (d.less ah) i) λ_ h=>e ah h;have j1:∀b,(b=true->s.Op∈[(2:Int),3])->Bp (C4.J1 R1 R2 g s b) (GS g n):=by
    intro b B;unfold C4.J1;refine tI (λh=>tB (u (o.2.2.1.resolve_right λq=>q.1 ?_) _ d) λ_ h=>tR (up h)) λ_=>?_;simp_all;repeat' first
      |exact A _ _ _
      |exact P _
      |exact tR (up (GS.refl _ _))
      |refine tI (λz=>tB (WW (o.2.2.1.resolve_right λq=>q.1 (by have:=eq_of_beq z;simp[this])) (d.less ah) _) λv p=>tB (PW _ _ (by rw[p.w];grind)) λ_ _=>tM (Jc (d.next p ah) _) λ_ h=>e ah (p.trans h (AAj _))) λ_=>?_
      |refine tI (λ_=>?_) λ_=>?_
      |refine Ji (xR j.w _) λ_=>?_
      | (refine tB (cond_tot d.w _) ?_
         rintro⟨i,w⟩ rfl)
      |refine tB (PW _ _ ah) λ_ _=>?_
  unfold C4;refine tI (λh=>tB (vE (d.less ah) o (eq_of_beq h)) λ_ h=>tR (e ah h)) λ_=>tI (λh=>j1 _ λ_=>?_) λ_=>j1 _ λh=>?_;all_goals simp_all
end
theorem Zy(d:Nat):∀(n:Nat)(g:BW)(l:kf),3*d+1<=n->GB g (10*cg d)->Va T d l->Bp (D4 n g l) (GS g (10*cg d)):=by induction d with|zero=>intro n g l hn e ⟨_,h⟩;obtain⟨n,rfl⟩:∃k,n=k+1:=⟨n-1,ah⟩;have:l=[]:=AA0.2 λx f=>(h x f).elim;subst this;show Bp (Ce (QU n) g []) _;exact tR (GS.refl _ _)|succ d ih=>intro n g l hn e ⟨h1,h2⟩;obtain⟨n,rfl⟩:∃k,n=k+3:=⟨n-3,ah⟩;show Bp (Ce (C4 (DR (D4 n)) (Di (D4 n))) g l) _;have w:cg (d+1)=40+20*cg d:=rfl;unfold Ce;refine Ru l.length (λi s=>GS g (i*cg (d+1)) s) (F:=λm s i=>Ce.AR _ l m s i) ah (GS.refl _ _) λm i s hi j k=>?_;have y:i*cg (d+1)<=10*cg (d+1):=AA1 _ ah;unfold Ce.AR Ce.L1;refine tD (λt=>tG ah λx f=>?_) λ_=>tR (j.trans (GS.refl _ 0) ah);have u:(i+1)*cg (d+1)<=10*cg (d+1):=AA1 _ ah;have p:(i+1)*cg (d+1)=i*cg (d+1)+cg (d+1):=ABh _ _;have o:∀g,GB g (10*cg d)->Bp (D4 n g x.dz) (GS g (10*cg d)):=λg e=>ih n g _ ah e (h2 x f).body;have q:∀g,GB g (10*cg d)->Bp (D4 n g x.ed) (GS g (10*cg d)):=λg e=>ih n g _ ah e (h2 x f).els;refine tB (gstmt_tot (n:=cg (d+1)) ah (e.next j ah) (h2 x f) (λp g e=>?_) λg a b c e=>?_) λv r=>k _ ah (j.trans r ah);exact tM (lO (n:=10*cg d) (e.less ah) p o q) λ_ h=>h.trans (GS.refl _ 0) ah;exact tM (u9 (n:=10*cg d) (e.less ah) o a b c) λ_ h=>h.trans (GS.refl _ 0) ah
def rg(i:Ak):List Int:=(Af i).getD []
theorem HU(i:Ak):Af i=some (rg i)/\(rg i).length<=3:=by
 have key:Bp (Af i) λr=>r.length<=3:=by unfold Af Af.J1 Af.J2 Af.J3;repeat' first|exact tR ak|refine tI (λ_=>?_) λ_=>?_
 obtain⟨r,a,b⟩:=key;unfold rg;simp_all
structure CK (c:Bx):Prop where
 n:c.AA.length<=4
 i:∀t∈c.AA,t.CO.length<=8000000
theorem qA(h:MP p):Bp (BB p) λr=>CK r.1:=by have a:=h.t;have I:cg 4=336840:=rfl;unfold BB;obtain⟨v,c,_⟩:=iN h;refine tE c (tI (λ_=>tR ⟨ak,ak⟩) λB=>tB (gY h ⟨v.2,?_⟩) λw J=>?_);grind;refine Ru p.AA.length (λi (s:Bx×Int)=>s.1.dc=w/\s.1.AA.length=i/\∀t∈s.1.AA,t.CO.length<=8000000) (F:=λn s i=>BB.AR p n s.1 s.2 i) (s0:=(_,_)) ah ⟨rfl,rfl,ak⟩ λn i s hi o k=>?_;obtain⟨G,L,H⟩:=o;unfold BB.AR BB.L1 BB.J4;refine tD (λ_=>tG ah λx f=>?_) λ_=>tR ⟨aA,H⟩;have g:=h.l x f;have g0:GB (BW.mk s.1.dc x.HE [] 0 s.2) 4000000:=⟨am,g,ak⟩;refine tB (Zy 4 _ _ _ (Nv ah) (g0.less ah) (h.b x f)) λv c=>?_;refine tB (Sc (g0.next (c.dy (-1) v.next) ah) _) λu z=>?_;have d:=z.2;have e:=c.b;simp only[ABS]at d e;refine Ru u.dx.length (λ_ (t:BE)=>t.CO=u.dx) (F:=λn t k=>BB.Bs _ _ _ _ _ n t k) ah rfl λm q t j a C=>?_;unfold BB.Bs BB.L2 BB.J2 BB.J3;refine tD (λ_=>tG ah λy _=>?_) λ_=>tC (Bq ah) (k (_,_) ah ⟨G,an,?_⟩);obtain⟨E,K⟩:=HU y;refine tE E (Ru (rg y).length (λ_ (t:BE)=>t.CO=u.dx) (F:=λn t k=>BB.E3 _ _ _ n t k) ah a λm q t j a D=>?_);unfold BB.E3 BB.L3 BB.J1;exact tD (λ_=>tG ah λ_ _=>D _ ah a) λ_=>C _ ah a;grind
end
theorem take_one{l:List a}(h:k<l.length){P:a->Prop}(c:∀x∈l.take k,P x)(d:P l[k]):∀x∈l.take (k+1),P x:=by intro x b;rw[<- AAe h]at b;grind
theorem dM{l:List a}(h:l.length<=k){P:a->Prop}(b:∀x∈l.take k,P x):∀x∈l,P x:=by rwa [AAo h]at b
variable{i:Int}
theorem I6{l:List a}(h:0<=i/\i<l.length):∃x,gt l i=some x/\l[i.toNat]? =some x/\x∈l:=by have:i.toNat<l.length:=ah;exact⟨l[i.toNat],by simp[gt,h.1,this],by simp[this],AAS this⟩
theorem Oa(i n:Int):Bp (EE i n) λb=>b=true->0<=i/\i<n:=by unfold EE EE.J1;exact tD (λh=>tR λa=>⟨h,AAQ a⟩) λ_=>tR λh=>by cases h
def Tm(w:AG)(b n:Int):Prop:=∃x,gt w.di b=some x/\x.d8=0/\x.CM≠0/\x.CM=n
theorem iE(w:AG)(b n:Int):Bp (Fm w b n) λr=>r=true->Tm w b n:=by
 have N:∀{f:Prop},Bp (some false) λb:Bool=>b=true->f:=tR λh=>by cases h
 unfold Fm Fm.J1;refine tB (Oa _ _) λv e=>tI (λh=>?_) λ_=>N;obtain⟨x,a,_⟩:=I6 (e h);exact tE a (tI (λc=>tI (λg=>tR λd=>⟨x,a,eq_of_beq c,am,eq_of_beq d⟩) λ_=>N) λ_=>N)
theorem rJ(w:AG)(i:Ak):Bp (AO w i) λb=>b=true->(i.Op=7->Tm w i.B i.N)/\(i.Op=9->Tm w i.A i.N):=by
 have g:∀b,TT (AO.J8 i w b):=by intro b;unfold AO.J8 AO.J9 AO.OS;repeat' first|exact tR trivial|refine tB (Oa _ _) λ_ _=>?_|refine tI (λ_=>?_) λ_=>?_
 have l:∀b,TT (AO.J7 i w b):=by intro b;unfold AO.J7;repeat' first|exact tR trivial|exact g _|refine tB (Oa _ _) λ_ _=>?_|refine tI (λ_=>?_) λ_=>?_
 have k:∀b,TT (AO.J5 i w b):=by intro b;unfold AO.J5 AO.J6;refine tI (λ_=>tB (Oa _ _) λv a=>tI (λh=>tG (a h) λx _=>tR trivial) λ_=>tR trivial) λ_=>?_;repeat' grind
 have j:∀b,TT (AO.J3 i w b):=by intro b;unfold AO.J3 AO.J4;refine tI (λ_=>tB (Oa _ _) λv a=>tI (λh=>tG (a h) λx _=>tR trivial) λ_=>tR trivial) λ_=>?_;repeat' grind
 unfold AO AO.J1 AO.J2;have M:∀{o:ABi Bool},TT o->i.Op≠7->i.Op≠9->Bp o λb=>b=true->(i.Op=7->Tm w i.B i.N)/\(i.Op=9->Tm w i.A i.N):=λh e f=>tM h λ_ _ _=>⟨λh=>absurd h e,λh=>absurd h f⟩;refine tI (λh=>M (tB (Oa _ _) λv a=>tI (λh=>tG (a h) λx _=>tR trivial) λ_=>tR trivial) ?_ ?_) λm=>tI (λh=>M (tB (Oa _ _) λv a=>tI (λh=>tG (a h) λx _=>tR trivial) λ_=>tR trivial) ?_ ?_) λp=>?_;simp_all;simp_all;simp_all;simp_all;(. refine tI (λh=>tB (iE _ _ _) λv a=>tR λc=>⟨λ_=>a c,λd=>?_⟩) λn=>tI (λh=>tB (iE _ _ _) λv a=>tR λc=>⟨λd=>?_,λ_=>a c⟩) λq=>?_;all_goals grind)
def sP(o:Int):Bool:=decide (1<=o)&&decide (o<=5)
theorem SJ(o:Int):Gx o=some (sP o):=by unfold Gx Gx.J1 sP;grind
variable{l:ma}
theorem lands_tot(b:l.length<=8000000)(a:Int):TT (Cf l a):=by unfold Cf;refine Ru (l.length+1) (λ_ _=>True) (F:=λn s i=>Cf.AR l n s i) ah trivial λn i s hi _ k=>?_;unfold Cf.AR Cf.L1 Cf.J1 Cf.J2 Cf.J3;refine tD (λ_=>tD (λ_=>tR trivial) λ_=>tD (λ_=>tR trivial) λ_=>tG ah λx _=>tE (SJ _) ?_) λ_=>tR trivial;exact tI (λ_=>tR trivial) λ_=>tI (λ_=>k _ ah trivial) λ_=>k _ ah trivial
def dG(w:AG)(t:Int)(x:Ak):Prop:=if x.Op=28 then x.d7= -1 else∃y,gt w.Bt x.d7=some y/\y.db=t
structure VI (w:AG) (t R:Int) (x:Ak):Prop where
 o:1<=x.Op/\x.Op<=28
 g:∀y∈rg x,0<=y/\y<R
 s:dG w t x
 a:(x.Op=7->Tm w x.B x.N)/\(x.Op=9->Tm w x.A x.N)
structure VT (w:AG) (t:Int) (c:BE):Prop where
 r:0<=c.DH/\c.DH<=32
 i:∀x∈c.CO,VI w t c.DH x
theorem Yy(w:AG)(t:Int){c:BE}(D:c.CO.length<=8000000):Bp (Ac w t c) λb=>b=true->VT w t c:=by
 have N:∀{J:Prop},Bp (some false) λb:Bool=>b=true->J:=tR λh=>by cases h
 have j1:∀b,(b=false->0<=c.DH/\c.DH<=32)->Bp (Ac.J1 c t w b) λb=>b=true->VT w t c:=by
  intro b p;unfold Ac.J1;refine tI (λ_=>N) λC=>Ru c.CO.length (λi (_:Unit)=>∀x∈c.CO.take i,VI w t c.DH x) (s0:=()) (F:=λn _ i=>Ac.AR c t w n i) ah ak λn i _ hi q k=>?_;unfold Ac.AR Ac.L1 Ac.J6;refine tD (λg=>kV ah ?_) λM=>tR λ_=>⟨p C,dM ah q⟩;have g:i<c.CO.length:=ah;generalize E:c.CO[i]=x;have H:∀b,(b=false->(1<=x.Op/\x.Op<=28)/\dG w t x/\(x.Op=7->Tm w x.B x.N)/\(x.Op=9->Tm w x.A x.N))->Bp (Ac.J4 (Ac.AR c t w n) c i x b) λb=>b=true->VT w t c:=by intro b a;unfold Ac.J4;refine tI (λ_=>N) λd=>tE (HU x).1 (Ru (rg x).length (λi (_:Unit)=>∀y∈(rg x).take i,0<=y/\y<c.DH) (s0:=()) (F:=λn _ i=>Ac.Bs _ c _ (rg x) n i) (by have:=(HU x).2;omega) ak λm j _ K z I=>?_);unfold Ac.Bs Ac.L2 Ac.J5;refine tD (λ_=>kV ah (tB (Oa _ _) λv e=>tI (λ_=>N) λh=>I () ah (take_one ah z (e aA)))) λ_=>k () g (take_one g q (by rw[E];exact⟨(a d).1,dM ah z,(a d).2.1,(a d).2.2⟩))
  have o:∀b,(b=false->(1<=x.Op/\x.Op<=28)/\dG w t x/\(x.Op=7->Tm w x.B x.N)/\(x.Op=9->Tm w x.A x.N))->Bp (Ac.J3 (Ac.AR c t w n) c i x b) λb=>b=true->VT w t c:=by intro b a;unfold Ac.J3;refine tI (λ_=>N) λd=>?_;repeat' first|exact H _ λ_=>a d|refine tB (Oa _ _) λ_ _=>?_|refine tI (λ_=>?_) λ_=>?_
  have f:∀b,(b=false->(1<=x.Op/\x.Op<=28)/\(x.Op=7->Tm w x.B x.N)/\(x.Op=9->Tm w x.A x.N))->Bp (Ac.J2 (Ac.AR c t w n) c i t w x b) λb=>b=true->VT w t c:=by intro b a;unfold Ac.J2;refine tI (λ_=>N) λd=>?_;obtain⟨s,u⟩:=a d;have T:∀b,b=true->Bp (Ac.J3 (Ac.AR c t w n) c i x b) λb=>b=true->VT w t c:=λb p=>o b λh=>am;refine tI (λl=>tI (λ_=>T _ rfl) λr=>tI (λh=>am) λ_=>o _ λ_=>⟨s,?_,u⟩) λl=>tI (λ_=>?_) λh=>am;unfold dG;simp_all;refine tB (Oa _ _) λv e=>tI (λ_=>T _ rfl) λh=>?_;obtain⟨y,G,_⟩:=I6 (e aA);refine tE G (o _ λL=>⟨s,?_,u⟩);unfold dG;simp_all
  refine tD (λ_=>f _ λh=>by cases h) λ_=>tD (λ_=>f _ λh=>by cases h) λ_=>?_;have a:1<=x.Op/\x.Op<=28:=ah;exact tI (λ_=>f _ λh=>by cases h) λ_=>tB (rJ _ _) λv e=>tI (λ_=>f _ λh=>by cases h) λh=>Ji (lands_tot D _) λ_=>f _ λ_=>⟨a,e aA⟩
 unfold Ac;grind
structure VC (c:Bx):Prop where
 w:C6 c.dc=true
 n:c.AA.length=c.dc.AA.length
 t:∀(i:Nat) t,c.AA[i]? =some t->VT c.dc i t
variable{c:Bx}
theorem SK(e:CK c):Bp (CV c) λb=>b=true->VC c:=by
 have N:∀{l:Prop},Bp (some false) λb:Bool=>b=true->l:=tR λh=>by cases h
 have hn:=e.n;have j1:∀b,(b=false->C6 c.dc/\c.AA.length=c.dc.AA.length)->Bp (CV.J1 c b) λb=>b=true->VC c:=by intro b d;unfold CV.J1;refine tI (λ_=>N) λa=>Ru c.AA.length (λi (_:Unit)=>∀(j:Nat) x,j<i->c.AA[j]? =some x->VT c.dc j x) (s0:=()) (F:=λn _ i=>CV.AR c n i) ah (λj _ h=>ah) λn i _ hi f k=>?_;unfold CV.AR CV.L1 CV.J2;refine tD (λm=>kV ah (tB (Yy _ _ (e.i _ (AAS ah))) λv p=>tI (λ_=>N) λh=>k () ah ?_)) λ_=>tR λ_=>⟨(d a).1,(d a).2,λj x g=>f j x ?_ g⟩;grind;grind
 unfold CV;refine tE (LA _) (tI (λ_=>j1 _ λh=>by cases h) λh=>j1 _ λo=>⟨aA,?_⟩);grind
def NZ(o:ABi a)(Q:a->Prop):Prop:=∀r,o=some r->Q r
theorem pR{r:a}{Q:a->Prop}(h:Q r):NZ (some r) Q:=λ_ e=>am
theorem pN{Q:a->Prop}:NZ (none:ABi a) Q:=λ_ e=>by cases e
variable{b:Type}
theorem pB{o:ABi a}{Q:a->Prop}{f:a->ABi b}{R:b->Prop}(h:NZ o Q)(k:∀x,Q x->NZ (f x) R):NZ (o.bind f) R:=by intro r e;cases o with|none=>cases e|some x=>exact k x (h x rfl) r e
def pB'{o:ABi a}{f:a->ABi b}{R:b->Prop}(k:∀x,NZ (f x) R):NZ (o.bind f) R:=pB (Q:=λ_=>True) (λ_ _=>trivial) λx _=>k x
theorem pE{o:ABi a}{y:a}{f:a->ABi b}{R:b->Prop}(h:o=some y)(k:NZ (f y) R):NZ (o.bind f) R:=am
theorem pC{p:Prop}[Decidable p]{a:ABi b}{R:b->Prop}(k:p->NZ a R):NZ (if p then a else none) R:=by by_cases h:p;simp_all;rw[AAL h];exact pN
theorem pI{c:Bool}{d b:ABi a}{R:a->Prop}(e:c=true->NZ d R)(f:c=false->NZ b R):NZ (if c=true then d else b) R:=aA
theorem pD{p:Prop}[Decidable p]{c b:ABi a}{R:a->Prop}(d:p->NZ c R)(e:¬p->NZ b R):NZ (if decide p=true then c else b) R:=aA
def pM{o:ABi a}{Q R:a->Prop}(h:NZ o Q)(k:∀x,Q x->R x):NZ o R:=λr e=>k r (h r e)
theorem pT{o:ABi a}{Q:a->Prop}(h:Bp o Q):NZ o Q:=by obtain⟨x,rfl,b⟩:=h;exact pR b
def pA{o:ABi a}{P Q:a->Prop}(h:NZ o P)(k:NZ o Q):NZ o λr=>P r/\Q r:=λr e=>⟨h r e,k r e⟩
theorem tP{o:ABi a}{P Q:a->Prop}(h:Bp o P)(k:NZ o Q):Bp o λr=>P r/\Q r:=by obtain⟨x,e,b⟩:=h;exact⟨x,e,b,k x e⟩
theorem pLs{Q:b->Prop}(N:Nat)(I:Nat->a->Prop){F:Nat->a->Int->ABi b}(f:∀s i,F 0 s i=none)(k:N<1000000000000){s0:a}(c:I 0 s0)(h:∀n (i:Nat) s,i<=N->I i s->(∀D,i<N->I (i+1) D->NZ (F n D (A8 (i+1))) Q)->NZ (F (n+1) s i) Q):NZ (F BQ s0 0) Q:=by
 have key:∀n (i:Nat) s,i<=N->I i s->NZ (F n s i) Q:=by intro n;induction n with|zero=>intro i s _ _;rw[f];exact pN|succ n ih=>intro i s d e;refine h n i s d e λD g j=>?_;rw[AX ah];grind
 exact key BQ 0 s0 ah c
def StI(l:ma)(k m:Nat):Prop:=∃x,l[k]? =some x/\sP x.Op/\(x.Op=5/\x.A=(m:Int)\/x.Op≠5/\m=k+1)
def Sk(l:ma)(a b:Nat):Nat->Nat->Nat->Prop|0,k,m=>k=m|n+1,k,m=>(a<=k/\k<b)/\∃j,StI l k j/\Sk l a b n j m
def Ev(l:ma)(m:Nat):Prop:=∃x,l[m]? =some x/\sP x.Op=false
variable{l':ma}{u:Nat}
theorem Sk.frame{d:Nat}(h:∀i,k<=i->i<E->l[i]? =l'[i]?)(f:u<=k)(g:E<=d):∀{n a m},Sk l k E n a m->Sk l' u d n a m|0,_,_,e=>e|n+1,a,m,⟨⟨h1,h2⟩,j,⟨x,x1,x2⟩,h4⟩=>⟨⟨ah,ah⟩,j,⟨x,am,x2⟩,h4.frame h f g⟩
theorem Sk.trans:∀{n a m p q},Sk l k E n a m->Sk l k E p m q->Sk l k E (n+p) a q|0,_,_,p,_,e,h=>(by cases e;simp_all)|n+1,_,_,p,_,⟨h1,j,h2,h3⟩,h=>by rw[Nat.succ_add];exact⟨h1,j,h2,h3.trans h⟩
def Sk.one(h:E<=k/\k<n)(s:StI l k u):Sk l E n 1 k u:=⟨h,u,s,rfl⟩
structure LV (w:AG) (lo hi:Int) (c:Nat) (x:Ak):Prop where
 o:1<=x.Op/\x.Op<=27
 ob:AO w x=some true
 g:∀y∈rg x,0<=y/\y<32
 s:lo<=x.d7/\x.d7<hi
 j:x.Op=5->0<=x.A/\x.A<=c
 b:x.Op=10->0<=x.B/\x.B<=c
structure SG (w:AG) (lo hi:Int) (l:List Ak) (a b c:Nat):Prop where
 h:a<=b/\b<=l.length
 i:∀k x,a<=k->k<b->l[k]? =some x->LV w lo hi c x
 f:∀k,a<=k->k<b->(∃n m,Sk l a b n k m/\(a<=m/\m<b)/\Ev l m/\n+a+1<=b)\/∃n,Sk l a b n k b/\n+k<=b
variable{x:Ak}
section
variable{w:AG}{lo hi lo' hi':Int}{l l':ma}{a b c d:Nat}
theorem LV.mono(h:LV w lo hi c x)(a:lo'<=lo)(f:hi<=hi')(i:c<=d):LV w lo' hi' d x:=⟨h.o,h.ob,h.g,⟨by have:=h.s;omega,by have:=h.s;omega⟩,λe=>by have:=h.j e;omega,λe=>by have:=h.b e;omega⟩
theorem SG.frame(h:SG w lo hi l a b c)(j:∀i,a<=i->i<b->l[i]? =l'[i]?)(s:b<=l'.length)(o:lo'<=lo)(p:hi<=hi')(q:c<=d):SG w lo' hi' l' a b d:=by
 refine⟨⟨h.h.1,s⟩,λk x e g v=>(h.i k x e g am).mono o p q,λk e g=>?_⟩;rcases h.f k e g with⟨n,m,r,t,⟨x,y,u⟩,hn⟩|⟨n,r,hn⟩
 exact .inl ⟨n,m,r.frame j ah ah,t,⟨x,am,u⟩,hn⟩;exact .inr ⟨n,r.frame j ah ah,hn⟩
def SG.mono(h:SG w lo hi l a b c)(e:lo'<=lo)(f:hi<=hi')(g:c<=d):SG w lo' hi' l a b d:=h.frame (λ_ _ _=>rfl) h.h.2 e f g
theorem SG.nil(h:a<=l.length):SG w lo hi l a a c:=⟨⟨ah,h⟩,λk x _ _=>ah,λk _ _=>ah⟩
theorem SG.app(h:SG w lo hi l a b c)(g:SG w lo hi l b k c):SG w lo hi l a k c:=by have B:=h.h;have z:=g.h;refine⟨⟨ah,z.2⟩,λe x q s v=>?_,λe q s=>?_⟩;by_cases o:e<b;exact h.i e x q o v;exact g.i e x ah s v;(. have up:∀{n e m},Sk l b k n e m->Sk l a k n e m:=λr=>r.frame (λ_ _ _=>rfl) ah ah;have d:∀{n e m},Sk l a b n e m->Sk l a k n e m:=λr=>r.frame (λ_ _ _=>rfl) ah ah;by_cases o:e<b;(rcases h.f e q o with⟨n,m,r,y,ev,hn⟩|⟨n,r,hn⟩);grind;by_cases j:b<k;(rcases g.f b ah j with⟨t,m,u,y,ev,p⟩|⟨t,u,p⟩);exact .inl ⟨n+t,m,(d r).trans (up u),ah,ev,ah⟩;exact .inr ⟨n+t,(d r).trans (up u),ah⟩;grind;(. (rcases g.f e ah s with⟨n,m,r,y,ev,hn⟩|⟨n,r,hn⟩);all_goals grind))
theorem SG.one(b:l[a]? =some x)(h:LV w lo hi c x)(d:x.Op≠5):SG w lo hi l a (a+1) c:=by have g:=(AAJ.1 b).1;refine⟨⟨ah,ah⟩,λk y e f i=>?_,λk e f=>?_⟩;grind;obtain rfl:k=a:=ah;cases hs:sP x.Op with|false=>exact .inl ⟨0,k,rfl,ah,⟨x,b,hs⟩,ah⟩|true=>exact .inr ⟨1,Sk.one ah ⟨x,b,hs,.inr ⟨d,rfl⟩⟩,ah⟩
theorem SG.jump(h:SG w lo hi l a k c)(B:l[k]? =some x)(e:LV w lo hi c x)(t:x.Op=5)(z:x.A=(E:Int))(g:SG w lo hi l (k+1) E c):SG w lo hi l a E c:=by have D:=h.h;have v:=g.h;have s:StI l k E:=⟨x,B,by rw[t];rfl,.inl ⟨t,z⟩⟩;have up:∀{n j m},Sk l (k+1) E n j m->Sk l a E n j m:=λr=>r.frame (λ_ _ _=>rfl) ah ah;have p:∀{n j m},Sk l a k n j m->Sk l a E n j m:=λr=>r.frame (λ_ _ _=>rfl) ah ah;refine⟨⟨ah,v.2⟩,λj y d o u=>?_,λj d o=>?_⟩;by_cases b:j<k;exact h.i j y d b u;by_cases q:j=k;simp_all;exact g.i j y ah o u;(. by_cases b:j<k;(rcases h.f j d b with⟨n,m,r,C,ev,hn⟩|⟨n,r,hn⟩);grind;exact .inr ⟨n+1,(p r).trans (Sk.one ah s),ah⟩;(. by_cases q:j=k;subst q;exact .inr ⟨1,Sk.one ah s,ah⟩;(. (rcases g.f j ah o with⟨n,m,r,C,ev,hn⟩|⟨n,r,hn⟩);all_goals grind)))
theorem SG.back{p j:Nat}{x y:Ak}(h:SG w lo hi l a p c)(L:l[p]? =some y)(M:LV w lo hi c y)(o:sP y.Op=false)(g:SG w lo hi l (p+1) j c)(D:l[j]? =some x)(S:LV w lo hi c x)(C:x.Op=5)(J:x.A=(a:Int)):SG w lo hi l a (j+1) c:=by
 have Q:=h.h;have P:=g.h;have R:=(AAJ.1 D).1;have s:StI l j a:=⟨x,D,by rw[C];rfl,.inl ⟨C,J⟩⟩;have up:∀{n k m},Sk l (p+1) j n k m->Sk l a (j+1) n k m:=λr=>r.frame (λ_ _ _=>rfl) ah ah;have O:∀{n k m},Sk l a p n k m->Sk l a (j+1) n k m:=λr=>r.frame (λ_ _ _=>rfl) ah ah;have B:Ev l p:=⟨y,L,o⟩;have d:∃n m,Sk l a (j+1) n a m/\(a<=m/\m<j+1)/\Ev l m/\n+a<=p:=by by_cases K:a<p;(. (rcases h.f a ah K with⟨n,m,r,G,ev,hn⟩|⟨n,r,hn⟩);all_goals grind);have:a=p:=ah;exact⟨0,p,this,ah,B,ah⟩
 obtain⟨H,F,I,u,v,T⟩:=d;refine⟨⟨ah,ah⟩,λk z q N E=>?_,λk q N=>.inl ?_⟩;by_cases e:k<p;exact h.i k z q e E;by_cases t:k=p;simp_all;by_cases b:k<j;exact g.i k z ah b E;grind;(. by_cases e:k<p;(. (rcases h.f k q e with⟨n,m,r,G,ev,hn⟩|⟨n,r,hn⟩);all_goals grind);by_cases t:k=p;subst t;exact⟨0,k,rfl,ah,B,ah⟩;by_cases b:k<j;(rcases g.f k ah b with⟨n,m,r,G,ev,hn⟩|⟨n,r,hn⟩);grind;exact⟨n+(1+H),F,(up r).trans ((Sk.one ah s).trans I),u,v,ah⟩;obtain rfl:k=j:=ah;exact⟨1+H,F,(Sk.one ah s).trans I,u,v,ah⟩)
end
def TB(E:Int)(x:i6):Prop:=x.Pairwise (· < ·)/\∀y∈x,0<=y/\y<E
theorem TB.len{E:Int}(h:TB E W)(d:0<=E):(W.length:Int)<=E:=by
 have key:∀(W:i6)(a:Int),W.Pairwise (· < ·)->(∀y∈W,a<=y/\y<E)->a<=E->(W.length:Int)<=E-a:=by intro W;induction W with|nil=>simp_all|cons y r ih=>intro a e b i;obtain⟨f,g⟩:=ABg.1 e;have j:=b y ABD;have:=ih (y+1) g (λz c=>⟨f z c,(b z (ABH _ c)).2⟩) ah;grind
 have:=key W 0 h.1 h.2 d;omega
variable{o:Int}
theorem TB.mono(h:TB i W)(b:i<=o):TB o W:=⟨h.1,λy a=>⟨(h.2 y a).1,by have:=(h.2 y a).2;omega⟩⟩
structure TH (E:Nat) (s:AN):Prop where
 r:s.DH.length<=100
 t:s.C9.length<=100
 b:∀x∈s.C9,TB s.AB x
 e:0<=s.AB/\s.AB<=E
theorem TH.zero(E:Nat):TH E ⟨0,[],[],0⟩:=⟨ak,ak,ak,ak,ak⟩
theorem oN{s:AN}(h:TH E s)(f:E<=100000):GL s=some s:=by
 have g:=h.r;have j:=h.t;have c:=h.e;have key:Bp (GL s) λr=>r=s:=by unfold GL;refine tC (Bq ah) (Ru s.C9.length (λi o=>o=⟨s.PC,s.DH,s.C9.take i,s.AB⟩) (F:=λn o i=>GL.AR s n o i) ah rfl λn i o hi d k=>?_);subst d;unfold GL.AR GL.L1 GL.J1;refine tD (λ_=>kV ah ?_) λ_=>tR (by rw[AAo (by omega)]);have:=(h.b _ (AAS (show i<s.C9.length by omega))).len c.1;exact tC (Bq ah) (tC (Bq an) (k _ ah am))
 obtain⟨r,a,rfl⟩:=key;exact a
theorem rg1(h:x.Op=1):rg x=[x.A]:=by unfold rg Af Af.J1;simp[h]
theorem rg2(h:x.Op=2):rg x=[x.A,x.B]:=by unfold rg Af Af.J1 Af.J2;simp[h]
theorem rg3(h:x.Op=3):rg x=[x.A,x.B]:=by unfold rg Af Af.J1 Af.J2;simp[h]
theorem rg4(h:x.Op=4):rg x=[x.A,x.B,x.C]:=by unfold rg Af Af.J1 Af.J2;simp[h]
theorem rg6(h:x.Op=6):rg x=[x.A]:=by unfold rg Af Af.J1;simp[h]
theorem rg7(h:x.Op=7):rg x=[x.A,x.C]:=by unfold rg Af Af.J1 Af.J2;simp[h]
theorem rg8(h:x.Op=8):rg x=[x.B]:=by unfold rg Af Af.J1 Af.J2 Af.J3;simp[h]
theorem rg9(h:x.Op=9):rg x=[x.B,x.C]:=by unfold rg Af Af.J1 Af.J2 Af.J3;simp[h]
theorem rg10{i:Ak}(h:i.Op=10):rg i=[i.A]:=by unfold rg Af Af.J1;simp[h]
theorem rg26{i:Ak}(h:i.Op=26):rg i=[i.B]:=by unfold rg Af Af.J1 Af.J2 Af.J3;simp[h]
theorem rg27{i:Ak}(h:i.Op=27):rg i=[i.A]:=by unfold rg Af Af.J1;simp[h]
theorem Vd(n:Int):TT (FK n):=by unfold FK FK.J1;repeat' first|exact tR trivial|refine tI (λ_=>?_) λ_=>?_
theorem kX(b:Bool):TT (Em b):=by unfold Em;exact tI (λ_=>tR trivial) λ_=>tR trivial
theorem Unary_tot(o a:Int):TT (ML o a):=by unfold ML;repeat' first|exact tR trivial|refine Ji (kX _) λ_=>?_|refine tI (λ_=>?_) λ_=>?_
theorem uJ(o a b:Int):TT (Gw o a b):=by unfold Gw Gw.J1 Gw.J2;repeat' first|exact tR trivial|refine Ji (kX _) λ_=>?_|refine tD (λ_=>tR trivial) λc=>tC c ?_|refine tI (λ_=>?_) λ_=>?_
variable{j:Int->Prop}
theorem step_tot{s:AN}(d:TH E s)(m:∀i∈s.C9,∀k∈i,j k)(S:E<=100000)(G:s.C9.length=s.DH.length)(H:sP x.Op):Bp (E7 x s) λr=>r.2=true->(TH E r.1/\r.1.C9.length=r.1.DH.length)/\r.1.AB=s.AB/\∀i∈r.1.C9,∀k∈i,j k:=by
 have N:∀{i} {j:AN×Bool->Prop},Bp (some (i,false)) λr:AN×Bool=>r.2=true->j r:=tR λh=>by cases h
 have g:=d.e;have I:=d.r;have J:=d.t;have l:∀v ok t,0<=x.A/\x.A<s.DH.length->TB s.AB t->(∀k∈t,j k)->Bp (E7.J3 x s v ok t) λr=>r.2=true->(TH E r.1/\r.1.C9.length=r.1.DH.length)/\r.1.AB=s.AB/\∀i∈r.1.C9,∀k∈i,j k:=by intro v ok t D o K;have:=o.len g.1;unfold E7.J3;refine tC (Bq ah) (tG D λ_ _=>tG ah λ_ _=>tR λ_=>⟨⟨⟨am,am,?_,g⟩,am⟩,rfl,?_⟩);(intro i c;rcases AAw c with c|rfl);exact d.b i c;omega;grind
 have L:(∀y∈rg x,0<=y/\y<s.DH.length)->Bp (E7.J2 x s) λr=>r.2=true->(TH E r.1/\r.1.C9.length=r.1.DH.length)/\r.1.AB=s.AB/\∀i∈r.1.C9,∀k∈i,j k:=by intro a;unfold E7.J2;refine tI (λ_=>tR λ_=>⟨⟨⟨I,J,d.b,g⟩,G⟩,rfl,m⟩) λR=>tI (λu=>?_) λM=>tI (λw=>?_) λO=>tI (λB=>?_) λQ=>?_;simp only[rg1 (eq_of_beq u),AAc,forall_eq]at a;exact l _ _ _ a ⟨List.Pairwise.nil,ak⟩ ak;simp only[rg2 (eq_of_beq w),AAg,ABV,AA6,forall_eq_or_imp,forall_eq]at a;exact tG a.2 λ_ _=>tG ah λi c=>l _ _ _ a.1 (d.b i c) (m i c);simp only[rg3 (eq_of_beq B),AAg,ABV,AA6,forall_eq_or_imp,forall_eq]at a;exact Ji (Vd _) λ_=>tG a.2 λ_ _=>Ji (Unary_tot _ _) λ_=>tG ah λi c=>l _ _ _ a.1 (d.b i c) (m i c);(. have C:x.Op=4:=(by simp[sP]at H R M O Q;omega);simp only[rg4 C,AAg,ABV,AA6,forall_eq_or_imp,forall_eq]at a;refine Ji (Vd _) λ_=>tG a.2.1 λ_ _=>tG a.2.2 λ_ _=>Ji (uJ _ _ _) λ_=>tG ah λi c=>tG ah λy p=>?_;have U:=(d.b i c).len g.1;have V:=(d.b y p).len g.1;refine tE (oZ i y ah) (l _ _ _ a.1 ⟨Mt _,λz f=>?_⟩ λz f=>?_);(rcases AAX.1 ((Kp _ _).1 f)with f|f);exact(d.b i c).2 z f;exact(d.b y p).2 z f;(. (rcases AAX.1 ((Kp _ _).1 f)with f|f);all_goals grind))
 unfold E7;refine tE (HU x).1 (Ru (rg x).length (λP (_:Unit)=>∀y∈(rg x).take P,0<=y/\y<(s.DH.length:Int)) (s0:=()) (F:=λn _ P=>E7.AR x s (rg x) n P) (by have:=(HU x).2;omega) ak λn P _ T q k=>?_);unfold E7.AR E7.L1 E7.J1;refine tD (λ_=>kV ah (tD (λ_=>tI (λ_=>N) λh=>by cases h) λ_=>tD (λ_=>N) λ_=>k () ah (take_one ah q ah))) λ_=>L (dM ah q)
def SE:AN:=⟨0,[],[],0⟩
theorem uU{c:BE}{s:AN}(e:TH E s)(g:∀x∈s.C9,∀k∈x,j k)(d:E<=100000)(m:c.CO.length<=8000000):Bp (EF c s) λr=>TH E r.1/\(r.1=SE\/r.1.AB=s.AB/\∀x∈r.1.C9,∀k∈x,j k):=by
 have Z:TH E SE/\(SE=SE\/SE.AB=s.AB/\∀x∈SE.C9,∀k∈x,j k):=⟨TH.zero E,.inl rfl⟩;have j1:∀b,(b=false->s.C9.length=s.DH.length)->Bp (EF.J1 c s b) λr=>TH E r.1/\(r.1=SE\/r.1.AB=s.AB/\∀x∈r.1.C9,∀k∈x,j k):=by intro b l;unfold EF.J1;refine tI (λ_=>tR Z) λf=>tE (oN e d) (Ru (c.CO.length+1) (λ_ t=>(TH E t/\t.C9.length=t.DH.length)/\t.AB=s.AB/\∀x∈t.C9,∀k∈x,j k) (F:=λn s P=>EF.AR c n s P) ah ⟨⟨e,l f⟩,rfl,g⟩ λn i t hi a k=>?_);unfold EF.AR EF.L1 EF.J2 EF.J3;refine tD (λ_=>tD (λ_=>tI (λ_=>tR Z) λh=>by cases h) λ_=>tD (λ_=>tR Z) λ_=>tG ah λx _=>tE (SJ _) (tI (λ_=>tR ⟨a.1.1,.inr a.2⟩) λh=>tI (λ_=>tR Z) λ_=>?_)) λ_=>tR Z;exact tB (step_tot a.1.1 a.2.2 d a.1.2 aA) λv o=>tI (λ_=>tR Z) λh=>k _ ah aA
 unfold EF;grind
def aT:List Kt:=[⟨⟨#[109]⟩,false⟩,⟨⟨#[110]⟩,false⟩,⟨⟨#[114]⟩,true⟩]
def W9:AG:=⟨MZ,[],[],[],[],[]⟩
structure WF (T:ABj->Prop) (w:AG):Prop where
 c:w.di=MZ
 l:w.AK=aT
 d:w.Al=[⟨cN,0⟩]
 f:w.AL=[⟨#[102]⟩]
 t:∀s,T s->s∈w.AA
 n:w.AA.length<=4
structure GW (T:ABj->Prop) (g:BW):Prop where
 w:WF T g.w
 l:g.du=fI
theorem Ns(h:w.di=MZ)(s:ABj):CB w s=CB W9 s:=by
 unfold CB;have key:∀n i,CB.AR s w n i=CB.AR s W9 n i:=by intro n;induction n with|zero=>exactλ_=>rfl|succ n ih=>intro i;unfold CB.AR CB.L1;rw[h,show W9.di=MZ from rfl];simp_all
 grind
theorem jI{l:List a}{x:a}(h:gt l i=some x):0<=i/\i<l.length:=by unfold gt at h;grind
theorem Jm(h:0<=i/\i<o):EE i o=some true:=by unfold EE EE.J1;simp_all
theorem xY(h:x.Op∈[(1:Int),2,5,10,17,18,19,20]):AO w x=some true:=by simp only[AAg,ABV,AA6]at h;rcases h with h|h|h|h|h|h|h|h<;>simp[AO,AO.J3,AO.J5,AO.J7,AO.J8,h]
theorem obj4(h:x.Op=4)(hn:6<=x.N/\x.N<=18):AO w x=some true:=by simp[AO,AO.J3,AO.J5,AO.J7,AO.J8,AO.OS,h,hn.1,hn.2]
variable{y:ED}
theorem obj6(h:x.Op=6)(a:gt w.di x.B=some y)(b:y.CM=0):AO w x=some true:=by simp[AO,AO.J1,h,Jm (jI a),a,b]
theorem obj8(h:x.Op=8)(a:gt w.di x.A=some y)(b:y.CM=0):AO w x=some true:=by simp[AO,AO.J2,h,Jm (jI a),a,b]
theorem pP(a:gt w.di i=some y)(hi:y.d8=0)(c:y.CM≠0)(hn:y.CM=o):Fm w i o=some true:=by subst hn;simp[Fm,Fm.J1,Jm (jI a),a,hi,c]
theorem obj7(h:x.Op=7)(b:gt w.di x.B=some y)(hi:y.d8=0)(a:y.CM≠0)(hn:y.CM=x.N):AO w x=some true:=by simp[AO,h,pP b hi a hn]
theorem obj9(h:x.Op=9)(b:gt w.di x.A=some y)(hi:y.d8=0)(a:y.CM≠0)(hn:y.CM=x.N):AO w x=some true:=by simp[AO,h,pP b hi a hn]
theorem objM{y:Kt}(h:x.Op=11\/x.Op=12)(a:gt w.AK x.A=some y)(b:y.RW=false):AO w x=some true:=by rcases h with h|h<;>simp[AO,AO.J3,AO.J4,h,Jm (jI a),a,b]
theorem objR{y:Kt}(h:x.Op=13\/x.Op=14\/x.Op=15\/x.Op=16)(a:gt w.AK x.A=some y)(b:y.RW):AO w x=some true:=by rcases h with h|h|h|h<;>simp[AO,AO.J3,AO.J5,AO.J6,h,Jm (jI a),a,b]
theorem objC(h:x.Op=21\/x.Op=22\/x.Op=23)(a:0<=x.A/\x.A<w.Al.length):AO w x=some true:=by rcases h with h|h|h<;>simp[AO,AO.J3,AO.J5,AO.J7,h,Jm a]
theorem objT(h:x.Op=24\/x.Op=25)(a:0<=x.A/\x.A<w.AA.length):AO w x=some true:=by rcases h with h|h<;>simp[AO,AO.J3,AO.J5,AO.J7,AO.J8,h,Jm a]
theorem obj26(h:x.Op=26)(a:0<=x.A/\x.A<w.AL.length):AO w x=some true:=by simp[AO,AO.J3,AO.J5,AO.J7,AO.J8,h,Jm a]
theorem obj27(h:x.Op=27)(a:0<=x.B/\x.B<w.AL.length):AO w x=some true:=by simp[AO,AO.J3,AO.J5,AO.J7,AO.J8,h,Jm a]
theorem rg0(h:x.Op=5\/11<=x.Op/\x.Op<=25\/x.Op=28):rg x=[]:=by have n:∀k:Int,x.Op≠k->(x.Op==k)=false:=λk h=>ABQ.2 h;unfold rg Af Af.J1 Af.J2 Af.J3;simp[n 1 ah,n 2 ah,n 3 ah,n 4 ah,n 6 ah,n 7 ah,n 8 ah,n 9 ah,n 10 ah,n 26 ah,n 27 ah]
def NameF(x:ABj):Prop:=(∃e,Cv fI x=some e/\0<=e/\e<2)\/(∃e,Cv fI x=some e/\e<0)/\∃c y,CB W9 x=some c/\gt MZ c=some y/\y.CM=0
theorem name_f{x:ABj}(h:x∈vN):NameF x:=by
 unfold vN at h;simp only[AAg,ABV,AA6]at h;rcases h with rfl|rfl|rfl|rfl|rfl
 exact .inl ⟨0,by decide +kernel,ah,ah⟩;exact .inl ⟨1,by decide +kernel,ah,ah⟩;exact .inr ⟨⟨-1,by decide +kernel,ah⟩,0,_,by decide +kernel,rfl,rfl⟩;exact .inr ⟨⟨-1,by decide +kernel,ah⟩,1,_,by decide +kernel,rfl,rfl⟩;exact .inr ⟨⟨-1,by decide +kernel,ah⟩,2,_,by decide +kernel,rfl,rfl⟩
theorem q_at:CB W9 qS=some 3:=by decide +kernel
structure GV (g r:BW) (lo hi:Int):Prop where
 w:r.w=g.w
 l:r.du=g.du
 n:g.dx.length<=r.dx.length
 p:∀i,i<g.dx.length->r.dx[i]? =g.dx[i]?
 s:SG g.w lo hi r.dx g.dx.length r.dx.length r.dx.length
section
variable{T:lp}{g h r:BW}{lo hi lo' hi':Int}
def GV.refl:GV g g lo hi:=⟨rfl,rfl,AAj _,λ_ _=>rfl,SG.nil (AAj _)⟩
theorem GV.trans(a:GV g h lo hi)(b:GV h r lo hi):GV g r lo hi:=by have c:=a.n;have e:=b.n;refine⟨b.w.trans a.w,b.l.trans a.l,ah,λi hi=>(b.p i ah).trans (a.p i hi),(a.s.frame (l':=r.dx) (d:=r.dx.length) (λi _ hi=>(b.p i hi).symm) ah ah ah ah).app ?_⟩;have:=b.s;rw[a.w]at this;exact this
def GV.mono(a:GV g r lo hi)(b:lo'<=lo)(c:hi<=hi'):GV g r lo' hi':=⟨a.w,a.l,a.n,a.p,a.s.mono b c (AAj _)⟩
def GV.dy(a:GV g r lo hi)(s n:Int):GV g ⟨r.w,r.du,r.dx,s,n⟩ lo hi:=⟨a.w,a.l,a.n,a.p,a.s⟩
theorem GW.next(a:GW T g)(b:GV g r lo hi):GW T r:=⟨by rw[b.w];exact a.w,b.l.trans a.l⟩
def GW.dy(a:GW T g)(s n:Int):GW T ⟨g.w,g.du,g.dx,s,n⟩:=⟨a.w,a.l⟩
theorem put_eq(i:Ak):NZ (BU g i) λr=>r=⟨g.w,g.du,g.dx++[⟨i.Op,i.A,i.B,i.C,i.N,g.dy⟩],g.dy,g.next⟩:=by unfold BU;exact pC λ_=>pR rfl
theorem GV.put(b:LV g.w lo hi (g.dx.length+1) x)(a:x.Op≠5):GV g ⟨g.w,g.du,g.dx++[x],i,o⟩ lo hi:=by refine⟨rfl,rfl,ak,λs hi=>aA,?_⟩;simp only[AAx,ABL,ABS];exact SG.one ak b a
abbrev GK(g r:BW)(lo hi:Int):Prop:=GV g r lo hi/\r.dy=g.dy/\r.next=g.next
theorem put_par(b:LV g.w lo hi (g.dx.length+1) ⟨x.Op,x.A,x.B,x.C,x.N,g.dy⟩)(a:x.Op≠5):NZ (BU g x) λr=>GK g r lo hi:=pM (put_eq x) λ_ e=>by subst e;exact⟨GV.put b a,rfl,rfl⟩
def Jb{i:Ak}(b:LV g.w lo hi (g.dx.length+1) ⟨i.Op,i.A,i.B,i.C,i.N,g.dy⟩)(a:i.Op≠5):NZ ((BU g i).bind λv=>some v) λr=>GK g r lo hi:=pB (put_par b a) λ_ h=>pR h
def GK.trans(a:GK g h lo hi)(b:GK h r lo hi):GK g r lo hi:=⟨a.1.trans b.1,b.2.1.trans a.2.1,b.2.2.trans a.2.2⟩
theorem mR{x r:Int}(h:0<=r/\r<32):∀y∈[r],0<=y/\y<32:=λy a=>am
theorem value_par(d:Nat):∀(n:Nat)(g:BW)(e:Ba)(r:Int),VZ d e->GW T g->(lo<=g.dy/\g.dy<hi)->0<=r/\r+d<=32->NZ (DL n g e r) λv=>GK g v lo hi:=by
 induction d with
 |zero=>exactλn g e r h=>h.elim
 |succ d ih=>
  intro n g e r E i m K;cases n with
  |zero=>exact pN
  |succ n=>
  have F:0<=r/\r<32:=ah;show NZ (HJ (DL n) g e r) _;unfold HJ;rcases E with⟨f,_⟩|⟨f,_,hn⟩|⟨f,C,a,q,p⟩|⟨f,a,b,q,p,D⟩
  (simp only[f];exact pI (λ_=>Jb ⟨ak,xY ak,by rw[rg1 rfl];simp_all,m,ak,ak⟩ ak) λh=>by cases h);(simp only[f];refine pI bk λ_=>pI (λ_=>?_) λh=>(by cases h);rw[i.l];rcases name_f hn with⟨k,t,I,L⟩|⟨⟨k,t,I⟩,c,y,x,z,B⟩);exact pE t (pD (λ_=>Jb ⟨ak,xY ak,by rw[rg2 rfl];grind,m,ak,ak⟩ ak) λh=>ah);refine pE t (pD cm λ_=>pE ((Ns i.w.c _).trans x) (Jb ⟨ak,obj6 rfl (y:=y) (by rw[i.w.c];exact z) B,by rw[rg6 rfl];simp_all,m,ak,ak⟩ ak));simp only[f,q];refine pI bk λ_=>pI bk λ_=>pI (λ_=>pE (y:=a) rfl ?_) λh=>(by cases h);refine pB (ih n g a r p i m ah) λv o=>?_;have j:=i.next o.1;rw[C];refine pE ((Ns j.w.c _).trans q_at) (pE (y:=⟨⟨#[113]⟩,0,2,false,0⟩) (by rw[j.w.c];rfl) ?_);exact pM (Jb ⟨ak,obj7 rfl (y:=⟨⟨#[113]⟩,0,2,false,0⟩) (by rw[j.w.c];rfl) rfl ak rfl,by rw[rg7 rfl];simp_all,am,ak,ak⟩ ak) λ_ h=>o.trans h;have M:e.Op≠1:=λh=>am;have N:e.Op≠2:=λh=>am;have O:e.Op≠3:=λh=>am;have J:6<=e.Op/\e.Op<=18:=(by simp only[AAg,ABV,AA6]at f;omega);rw[AAL am,AAL am,AAL am,q];have H:A8 (r+1)=r+1:=CD ah ah;refine pI bk λ_=>pE (y:=a) rfl (pB (ih n g a r p i m ah) λv o=>pE (y:=b) rfl (pB (ih n v b _ D (i.next o.1) ah ah) λu G=>?_));rw[H];have s:=o.trans G;by_cases hd:d=0;subst hd;exact p.elim;exact pM (Jb ⟨ak,obj4 rfl J,by rw[rg4 rfl];grind,am,ak,ak⟩ ak) λ_ h=>s.trans h
theorem WU(a:VZ 2 e)(b:GW T g)(c:lo<=g.dy/\g.dy<hi){r:Int}(d:0<=r/\r<=30):NZ (DL BQ g e r) λv=>GK g v lo hi:=value_par 2 _ g e r a b c ah
theorem vD(f:GW T g)(i:lo<=g.dy/\g.dy<hi){s:AU}(m:JJ T (k+1) s)(n:s.Op=1):NZ (Gp g s) λr=>GK g r lo hi:=by
 have o:VZ 2 s.dX:=m.2.2.1.resolve_right λh=>h.1 (by simp[n]);have q:(g.du.length:Int)=2:=by rw[f.l];rfl
 unfold Gp;rw[q];rcases m.2.1 with h|⟨_,t,a,h,p⟩
 (rw[h];refine pI bk λ_=>pB (WU o f i ah) λv b=>?_;have d:=f.next b.1;have j:lo<=v.dy/\v.dy<hi:=(by rw[b.2.1];exact i);rw[d.l];rcases name_f (m.2.2.2.2.2.2.2.2.2.1 n h)with⟨c,k1,k2,k3⟩|⟨⟨c,k1,k2⟩,c,y,c1,c2,c3⟩);exact pE k1 (pD (λ_=>pM (Jb ⟨ak,xY ak,by rw[rg2 rfl];grind,j,ak,ak⟩ ak) λ_ h=>b.trans h) λh=>ah);refine pE k1 (pD cm λ_=>pE ((Ns d.w.c _).trans c1) (pM (Jb ⟨ak,obj8 rfl (y:=y) (by rw[d.w.c];exact c2) c3,by rw[rg8 rfl];simp_all,j,ak,ak⟩ ak) λ_ h=>b.trans h));rw[h];refine pI (λ_=>pE (y:=a) rfl ?_) λh=>(by cases h);rw[show A8 (2+1)=3 from rfl];refine pB (WU p f i ah) λv b=>pB (WU o (f.next b.1) (by rw[b.2.1];exact i) ah) λu x=>?_;have e:=b.trans x;have d:=f.next e.1;have j:lo<=u.dy/\u.dy<hi:=(by rw[e.2.1];exact i);rw[t];refine pE ((Ns d.w.c _).trans q_at) (pE (y:=⟨⟨#[113]⟩,0,2,false,0⟩) (by rw[d.w.c];rfl) ?_);exact pM (Jb ⟨ak,obj9 rfl (y:=⟨⟨#[113]⟩,0,2,false,0⟩) (by rw[d.w.c];rfl) rfl ak rfl,by rw[rg9 rfl];simp_all,j,ak,ak⟩ ak) λ_ h=>e.trans h
end
variable{C:ls}{v:jt}{f:List ABj×Bool}
theorem cells_in{l:nk}(m:l.length<=12)(g:1<=y.CM/\y.CM<=4)(hi:(k:Int)+y.CM<=l.length)(p:f.2):∀(n t:Nat)(d:ED),d.CM=y.CM->(t:Int)<=y.CM->Ad.Bs C k l v y n d t=some f->(∀i:Nat,t<=i->(i:Int)<y.CM->∃c,l[k+i]? =some c/\c.d8=i/\c.CM=y.CM)/\C (v++[y.dv]) (k+y.CM)=some f:=by intro n;induction n with|zero=>intro t d _ _ h;cases h|succ n ih=>intro t d names o h;unfold Ad.Bs Ad.L2 at h;by_cases e:(t:Int)<y.CM;rw[A6 e,CD (n:=(k:Int)+t) ah ah,show(k:Int)+t=((k+t:Nat):Int)from by omega,Bm ah,AAG]at h;split at h;grind;rename_i j;rw[AX ah]at h;obtain⟨a,b⟩:=ih (t+1) ⟨d.dv,t,d.CM,d.II,d.dg⟩ names ah h;grind;rw[Aa e]at h;unfold Ad.J2 at h;rw[names,CD ah ah]at h;grind
theorem cells_arr{l:nk}(E:l.length<=12)(m:f.2):∀(n i:Nat)(names:jt),names.length<=i->i<=l.length->Ad.AR l n names i=some f->∀(b:Nat)(c:ED),i<=b->l[b]? =some c->c.d8=0->c.CM≠0->(1<=c.CM/\c.CM<=4)/\∀k:Nat,(k:Int)<c.CM->∃d,l[b+k]? =some d/\d.CM≠0:=by intro n;induction n with|zero=>intro i names _ _ h;cases h|succ n ih=>intro i names hn C h b c K v s g;have B:=(AAJ.1 v).1;unfold Ad.AR Ad.L1 at h;have hi:i<l.length:=ah;rw[A6 ah,Bm hi,AAG,Bb ah]at h;have o:l[i]? =some l[i]:=AAO hi;generalize l[i]=x at h o;by_cases e:x.CM=0;rw[AAM (by simpa using e)]at h;split at h;cases h;cases m;rw[AX ah]at h;by_cases q:b=i;subst q;rw[o]at v;cases v;exact absurd e g;exact ih (i+1) _ an ah h b c ah v s g;(rw[AAL (by simpa using e)]at h;have J:∀t,Ad.J1 (Ad.AR l n) i l names x t=some f->t=false/\Ad.Bs (Ad.AR l n) i l names x BQ x 0=some f:=by intro t j;unfold Ad.J1 at j;cases t with|true=>cases j;cases m|false=>exact⟨rfl,j⟩);(have key:(1<=x.CM/\x.CM<=4)/\(i:Int)+x.CM<=l.length/\Ad.Bs (Ad.AR l n) i l names x BQ x 0=some f:=by rw[CD (n:=(l.length:Int)-i) ah ah]at h;split at h;exact absurd (J _ h).1 ak;rename_i w;split at h;exact absurd (J _ h).1 ak;rename_i y;split at h;exact absurd (J _ h).1 ak;obtain⟨H,I⟩:=J _ h;simp at w y H;exact⟨ah,ah,I⟩);obtain⟨u,F,G⟩:=key;obtain⟨a,r⟩:=cells_in E u F m BQ 0 x rfl ah G;by_cases q:(b:Int)<i+x.CM;obtain⟨d,d1,z,p⟩:=a (b-i) ah ah;rw[show i+(b-i)=b from by omega,v]at d1;cases d1;have:b=i:=ah;subst this;rw[o]at v;cases v;refine⟨u,λk D=>?_⟩;obtain⟨d,d1,z,p⟩:=a k ah D;exact⟨d,d1,by rw[p];exact g⟩;rw[show(i:Int)+x.CM=((i+x.CM.toNat:Nat):Int)from by omega]at r;exact ih (i+x.CM.toNat) _ an ah r b c ah v s g
theorem arr_cells(f:C6 w)(h:Tm w i o):(1<=o/\o<=4)/\∀k,0<=k->k<o->∃d,gt w.di (i+k)=some d/\d.CM≠0:=by
 have n:=(Dw f).c;obtain⟨x,a,b,p,hn⟩:=h;have s:0<=i:=by unfold gt at a;split at a;assumption;cases a
 obtain⟨m,rfl⟩:∃m:Nat,i=m:=⟨i.toNat,ah⟩;rw[Jv]at a;have l:∃v,Ad w.di=some v/\v.2:=by unfold C6 at f;cases hv:Ad w.di with|none=>simp_all|some v=>simp_all
 obtain⟨v,q,r⟩:=l;obtain⟨e,g⟩:=cells_arr n r BQ 0 [] ak ah q m x ah a b p;rw[hn]at e g;refine⟨e,λk t u=>?_⟩;obtain⟨j,rfl⟩:∃j:Nat,k=j:=⟨k.toNat,ah⟩;rw[show(m:Int)+j=((m+j:Nat):Int)from by omega,Jv];grind
structure FT (c:Bx) (s:A4):Prop where
 v:VC c
 f:He c.dc s.df=true
 c':s.di.length=c.dc.di.length
 u:s.AL.length=c.dc.AL.length
 n:s.AA.length=c.AA.length
 t:∀(i:Nat) x y,s.AA[i]? =some x->c.AA[i]? =some y->(0<=x.PC/\x.PC<y.CO.length)/\(x.DH.length:Int)=y.DH/\(x.C9.length:Int)=y.DH
theorem fits_tot(l:CK c)(s:A4):Bp (Fe c s) λb=>b=true->FT c s:=by
 have N:∀{u:Prop},Bp (some false) λb:Bool=>b=true->u:=tR λh=>by cases h
 have hn:=l.n;have j1:∀b,(b=false->VC c/\He c.dc s.df/\s.di.length=c.dc.di.length/\s.AL.length=c.dc.AL.length/\s.AA.length=c.AA.length)->Bp (Fe.J1 c s b) λb=>b=true->FT c s:=by intro b p;unfold Fe.J1;refine tI (λ_=>N) λm=>?_;obtain⟨d,e,f,g,o⟩:=p m;refine Ru c.AA.length (λi (_:Unit)=>∀(j:Nat) x y,j<i->s.AA[j]? =some x->c.AA[j]? =some y->(0<=x.PC/\x.PC<y.CO.length)/\(x.DH.length:Int)=y.DH/\(x.C9.length:Int)=y.DH) (s0:=()) (F:=λn _ i=>Fe.AR c s n i) ah (λj _ _ h=>ah) λn i _ hi q k=>?_;unfold Fe.AR Fe.L1 Fe.J2 Fe.J3;refine tD (λ_=>kV ah (tD (λ_=>tI (λ_=>N) λh=>by cases h) λz=>kV ah (tD (λ_=>tI (λ_=>N) λh=>by cases h) λB=>tI (λ_=>tI (λ_=>N) λh=>by cases h) λC=>tI (λ_=>N) λD=>k () ah ?_))) λ_=>tR λ_=>⟨d,e,f,g,o,λj x y r t=>q j x y ?_ r t⟩;grind;grind
 unfold Fe;refine tB (SK l) λv a=>tI (λ_=>j1 _ λh=>by cases h) λh=>?_;have a:=a aA;refine tE (Oe _ (Dw a.w) _) (tI (λ_=>j1 _ λh=>by cases h) λd=>tI (λ_=>j1 _ λh=>by cases h) λe=>tI (λ_=>j1 _ λh=>by cases h) λf=>j1 _ λg=>⟨a,am,?_,?_,?_⟩);all_goals grind
theorem gU(i n:Int):Bp (Hf i n) λv=>1<=n/\n<=4->0<=v/\v<n:=by unfold Hf Hf.J1;refine tD (λ_=>tR ah) λh=>tC ah (tD (λa=>tR λb=>?_) λa=>tR λb=>?_);have:=Int.lt_tmod_of_pos i (show 0<n by omega);rw[CD ah ah];omega;have:=Int.tmod_lt_of_pos i (show 0<n by omega);omega
def kindL:List Int:=[3,3,4,4,5,6,7,8,9,10,11,12,13,14,15,16,18,19,20,21,22,23,2]
def KO(o k:Int):Prop:=((k=3->o=6\/o=7)/\(k=4->o=8\/o=9)/\(k=5->o=10)/\(k=22->o=26)/\(k=23->o=27)/\(k=2↔o=28)/\(k=16->o=21)/\k≠1/\k≠17)/\(o=7->k=3)/\(o=9->k=4)/\(o=10->k=5)/\(o=8->k=4)/\(o=26->k=22)
instance  (o k:Int):Decidable (KO o k):=by unfold KO;infer_instance
theorem rB:∀n:Fin 23,KO ((n.1:Int)+6) kindL[n.1]:=bg
theorem kind_tot(h:1<=o/\o<=28):Bp (I9 o) λk=>k=0\/KO o k:=by unfold I9 I9.J1;refine tD (λ_=>tI (λ_=>tR (.inl rfl)) λh=>by cases h) λb=>tD cm λ_=>?_;rw[CD ah ah];obtain⟨n,hn⟩:∃n:Nat,o-6=n:=⟨(o-6).toNat,ah⟩;rw[hn];have a:n<23:=ah;refine kV (l:=kindL) a (tR (.inr ?_));have:=rB ⟨n,a⟩;grind
theorem x5{t:AN}(d:x.Op=7\/x.Op=9->0<=x.C/\x.C<t.DH.length):Bp (GO x t) λo=>(x.Op=7->∃v,o=A8 (x.B+v)/\(1<=x.N/\x.N<=4->0<=v/\v<x.N))/\(x.Op=9->∃v,o=A8 (x.A+v)/\(1<=x.N/\x.N<=4->0<=v/\v<x.N)):=by
 have T:∀{o:og},TT o->x.Op≠7->x.Op≠9->Bp o λo=>(x.Op=7->∃v,o=A8 (x.B+v)/\(1<=x.N/\x.N<=4->0<=v/\v<x.N))/\(x.Op=9->∃v,o=A8 (x.A+v)/\(1<=x.N/\x.N<=4->0<=v/\v<x.N)):=λh a b=>tM h λ_ _=>⟨λh=>absurd h a,λh=>absurd h b⟩;have j1:∀b,(b=true->x.Op≠7/\x.Op≠9)->Bp (GO.J1 x t b) λo=>(x.Op=7->∃v,o=A8 (x.B+v)/\(1<=x.N/\x.N<=4->0<=v/\v<x.N))/\(x.Op=9->∃v,o=A8 (x.A+v)/\(1<=x.N/\x.N<=4->0<=v/\v<x.N)):=by intro b e;unfold GO.J1 GO.J2;refine tI (λh=>T (tR trivial) (e h).1 (e h).2) λ_=>tI (λh=>tG (d (.inl (eq_of_beq h))) λ_ _=>tB (gU _ _) λv c=>tR ⟨λ_=>⟨v,rfl,c⟩,λf=>?_⟩) λg=>tI (λh=>tG (d (.inr (eq_of_beq h))) λ_ _=>tB (gU _ _) λv c=>tR ⟨λf=>?_,λ_=>⟨v,rfl,c⟩⟩) λj=>T ?_ am am;simp_all;simp_all;(. repeat' first|exact tR trivial|refine tI (λ_=>?_) λ_=>?_)
 unfold GO;grind
def zF(e:AH):Prop:=e.Dy.length<=100000/\e.DS.length<=100000
structure PI (w:AG) (x:AN) (y:BE) (z:Ak) (q:AM) (e:AH):Prop where
 a:e.de=3\/e.de=23\/e.de=5->0<=z.A/\z.A<y.DH
 b:e.de=4\/e.de=22->0<=z.B/\z.B<y.DH
 d:e.Dy=[]\/e.Dy∈x.C9/\(e.de=5\/(e.de=3\/e.de=4)/\(ix w.di e.dq).CM≠0)
 r:e.DS=[]\/e.DS∈x.C9/\(e.de=4\/e.de=22)
 s:e.de=1/\e.d7= -1\/(q.dm=4/\e.de=17\/q.dm=2/\(e.de=2↔z.Op=28)/\e.de≠1/\e.de≠17/\(e.de=16->z.Op=21))/\e.d7=z.d7
 j:e.de=5->z.Op=10
structure PE (c:Bx) (s:A4) (th:Int) (e:AH):Prop where
 f:FT c s
 t:0<=th/\th<c.AA.length
 l:zF e
 h:e.db=th
 i:∀x y z q,s.AA[th.toNat]? =some x->c.AA[th.toNat]? =some y->y.CO[x.PC.toNat]? =some z->s.df.AA[th.toNat]? =some q->PI c.dc x y z q e
theorem AAE[Inhabited a]{l:List a}{x:a}(h:gt l i=some x):ix l i=x:=by unfold gt at h;split at h;unfold ix;rw[h];rfl;cases h
variable{s:A4}
theorem oT(hc:CK c)(hs:∀t∈s.AA,TH E t)(hE:E<=100000)(th:Int):Bp (DE c s th) λr=>r.2=true->PE c s th r.1:=by
 have N:∀{x} {P:AH×Bool->Prop},Bp (some (x,false)) λr:AH×Bool=>r.2=true->P r:=tR λh=>by cases h
 have j1:∀b,(b=false->FT c s/\0<=th/\th<c.AA.length)->Bp (DE.J1 c s th b) λr=>r.2=true->PE c s th r.1:=by
  intro b L;unfold DE.J1;refine tI (λ_=>N) λh0=>?_;obtain⟨G,ht⟩:=L h0;obtain⟨_,_,l3⟩:=Dl G.f;have hn:=G.n;have hn2:=G.v.n;obtain⟨x,x1,x2,x3⟩:=I6 (l:=s.AA) (i:=th) ah;obtain⟨y,y1,y2,y3⟩:=I6 (l:=c.AA) (i:=th) ah;obtain⟨p1,p2,p3⟩:=G.t _ x y x2 y2;obtain⟨z,z1,z2,z3⟩:=I6 (l:=y.CO) (i:=x.PC) ah;obtain⟨q,q1,q2,q3⟩:=I6 (l:=s.df.AA) (i:=th) ah;have S:=(G.v.t _ y y2).i z z3;have ho:=S.o;have p:=S.g;have W:=hs x x3;have J:∀q∈x.C9,q.length<=100000:=λq u=>by have:=(W.b q u).len W.e.1;have:=W.e.2;omega
  refine tE x1 (tE y1 (tE z1 (tE q1 ?_)));have I:∀e:AH,zF e->e.db=th->PI c.dc x y z q e->PE c s th e:=by intro e j m K;refine⟨G,ht,j,m,λx' y' z' q' MG O Q M=>?_⟩;rw[x2]at MG;rw[y2]at O;rw[q2]at M;obtain rfl:=AAK MG;obtain rfl:=AAK O;obtain rfl:=AAK M;rw[z2]at Q;obtain rfl:=AAK Q;exact K
  refine tI (λ_=>tR λ_=>I _ ⟨ak,ak⟩ rfl ⟨ak,ak,.inl rfl,.inl rfl,.inl ⟨rfl,rfl⟩,ak⟩) λ_=>tI (λh=>tR λ_=>I _ ⟨ak,ak⟩ rfl ⟨ak,ak,.inl rfl,.inl rfl,.inr ⟨.inl ⟨eq_of_beq h,rfl⟩,rfl⟩,ak⟩) λ_=>tI (λT=>?_) λ_=>N;have T:=eq_of_beq T;refine tB (kind_tot ho) λk V=>?_;have hC:z.Op=7\/z.Op=9->0<=z.C/\z.C<y.DH:=by rintro(h|h);simp[rg7 h]at p;omega;simp[rg9 h]at p;omega
  have hB:z.Op=8\/z.Op=9\/z.Op=26->0<=z.B/\z.B<y.DH:=by rintro(h|h|h);simp[rg8 h]at p;omega;simp[rg9 h]at p;omega;simp[rg26 h]at p;omega
  have hA:z.Op=6\/z.Op=7\/z.Op=10\/z.Op=27->0<=z.A/\z.A<y.DH:=by rintro(h|h|h|h);simp[rg6 h]at p;omega;simp[rg7 h]at p;omega;simp[rg10 h]at p;omega;simp[rg27 h]at p;omega
  refine tB (x5 λh=>ah) λo H=>tI (λ_=>N) λuD=>?_;have V:=V.resolve_left am;obtain⟨⟨a1,a2,a3,a4,a5,a6,a7,a8,a9⟩,b1,b2,b3,b4,b5⟩:=V;have U:z.Op=7\/z.Op=9->(k=3\/k=4)/\(ix c.dc.di o).CM≠0:=by(have key:∀b v,Tm c.dc b z.N->o=A8 (b+v)->(1<=z.N/\z.N<=4->0<=v/\v<z.N)->(ix c.dc.di o).CM≠0:=by intro b v j m K;obtain⟨n1,n2⟩:=arr_cells G.v.w j;obtain⟨d,d1,d2⟩:=n2 v (K n1).1 (K n1).2;have hd:=d1;unfold gt at hd;split at hd;have:=(AAJ.1 hd).1;have:=(Dw G.v.w).c;rw[m,CD ah ah,AAE d1];exact d2;cases hd);rintro(h|h);obtain⟨v,v1,v2⟩:=H.1 h;exact⟨.inl (b1 h),key _ v (S.a.1 h) v1 v2⟩;obtain⟨v,v1,v2⟩:=H.2 h;exact⟨.inr (b2 h),key _ v (S.a.2 h) v1 v2⟩
  have mk:∀D F,(D=[]\/D∈x.C9/\(k=5\/(k=3\/k=4)/\(ix c.dc.di o).CM≠0))->(F=[]\/F∈x.C9/\(k=4\/k=22))->D.length<=100000->F.length<=100000->PE c s th ⟨th,k,o,0,z.d7,D,F⟩:=λD F j m K h4=>I _ ⟨K,h4⟩ rfl ⟨λh=>hA aA,λh=>hB aA,j,m,.inr ⟨.inr ⟨T,a6,a8,a9,a7⟩,rfl⟩,a3⟩;have X:∀D,(D=[]\/D∈x.C9/\(k=5\/(k=3\/k=4)/\(ix c.dc.di o).CM≠0))->D.length<=100000->Bp (DE.J3 x z ⟨th,k,o,0,z.d7,D,[]⟩) λr=>r.2=true->PE c s th r.1:=by(intro D j m;have Z:∀b,(b=true->z.Op=8\/z.Op=9\/z.Op=26)->Bp (DE.J4 ⟨th,k,o,0,z.d7,D,[]⟩ x z b) λr=>r.2=true->PE c s th r.1:=by intro b L;unfold DE.J4 DE.J5;refine tI (λh=>tG am λq u=>?_) λ_=>tR λ_=>mk _ _ j (.inl rfl) m ak;have R:=J q u;refine tC (Bq an) (tR λ_=>mk _ _ j (.inr ⟨am,?_⟩) m am);have:=L h;omega);unfold DE.J3;exact tI (λh=>Z _ λ_=>.inl (eq_of_beq h)) λ_=>tI (λh=>Z _ λ_=>.inr (.inl (eq_of_beq h))) λ_=>Z _ λh=>.inr (.inr (eq_of_beq h))
  have j2:∀b,(b=true->z.Op=7\/z.Op=9)->Bp (DE.J2 th k o x z b) λr=>r.2=true->PE c s th r.1:=by intro b h;unfold DE.J2;refine tI (λL=>tG am λq u=>?_) λ_=>X _ (.inl rfl) ak;have R:=J q u;exact tC (Bq ah) (X _ (.inr ⟨u,.inr (U (h L))⟩) R)
  refine tI (λh=>tG am λq u=>?_) λ_=>tI (λh=>j2 _ λ_=>.inl (eq_of_beq h)) λ_=>j2 _ λh=>.inr (eq_of_beq h);have R:=J q u;exact tC (Bq ah) (X _ (.inr ⟨u,.inl (b3 (eq_of_beq h))⟩) R)
 unfold DE;refine tB (fits_tot hc s) λv hv=>tI (λ_=>j1 _ λh=>by cases h) λh=>tD (λ_=>j1 _ λh=>by cases h) λj=>j1 _ λm=>⟨hv aA,ah,?_⟩;simp_all
def SI(N:Nat)(s:A4):Prop:=RB N s.df/\∀t∈s.AA,TH N t
theorem TH.mono{t:AN}(h:TH E t)(a:E<=k):TH k t:=⟨h.r,h.t,h.b,h.e.1,by have:=h.e.2;omega⟩
theorem Copy9_eq(h:∀t∈s.AA,TH E t)(b:E<=100000)(c:Wb s.df)(e:s.di.length<=1000)(g:s.AL.length<=1000)(f:s.AA.length<=1000):Gq s=some s:=by
 have key:Bp (Gq s) λr=>r=s:=by unfold Gq;refine tE (eC _ c) (tC (Bq ah) (tC (Bq ah) (Ru s.AA.length (λi o=>o=⟨s.df,s.di,s.AL,s.AA.take i⟩) (F:=λn o i=>Gq.AR s n o i) ah rfl λn i o hi d k=>?_)));subst d;unfold Gq.AR Gq.L1 Gq.J1;refine tD (λ_=>kV ah ?_) λ_=>tR (by rw[AAo (by omega)]);exact tE (oN (h _ (AAS ah)) b) (tC (Bq an) (k _ ah am))
 obtain⟨r,a,rfl⟩:=key;exact a
structure SR (c:Bx) (s:A4) (ch:An) (s':A4) (e:AH):Prop where
 p:PE c s ch.db e
 en:B0 c.dc s.df ch.db e.de e.dq=true
 sy:s'.df=(Cr c.dc s.df ch.db e.de e.dq ch.Ou).1
 va:(e.de=3->gt s.di e.dq=some e.dn)/\(e.de=23->gt s.AL e.dq=some e.dn)/\(e.de=5->e.dn=0\/e.dn=1)/\(e.de≠3->e.de≠23->e.de≠5->e.de≠4->e.de≠22->e.dn=(Cr c.dc s.df ch.db e.de e.dq ch.Ou).2)
 ce:s'.di=if e.de=4 then s.di.set e.dq.toNat e.dn else s.di
 fu:s'.AL=if e.de=22 then s.AL.set e.dq.toNat e.dn else s.AL
 th:∃x x',s.AA[ch.db.toNat]? =some x/\s'.AA=s.AA.set ch.db.toNat x'/\(e.de=16->x'.PC=x.PC)/\(x'=SE\/x'.AB=x.AB+1/\∀l∈x'.C9,∀k∈l,(∃m∈x.C9,k∈m)\/k=x.AB/\(e.de=3\/e.de=23))
theorem Step9_tot(hc:CK c)(O:SI E s)(hE:E<=10000)(g:An):Bp (Dq c s g) λr=>r.2.2=true->(SI (E+1) r.1/\zF r.2.1)/\SR c s g r.1 r.2.1:=by
 obtain⟨hr,O⟩:=O;have N:∀{x y} {P:A4×AH×Bool->Prop},Bp (some (x,y,false)) λr:A4×AH×Bool=>r.2.2=true->P r:=tR λh=>by cases h
 unfold Dq;refine tB (oT hc O ah g.db) λv hv=>tI (λ_=>N) λh=>?_;have hv:=hv (by simpa using h);obtain⟨D,ht,J,hh,hi⟩:=hv;have S:=Dw D.v.w;have w1:=S.c;have w2:=S.f;have w3:=S.t;have c1:=D.c';have c2:=D.u;have c3:=D.n;have c4:=D.v.n;refine tE (NT _ S _ (hr.mono ah) _ _ _ _) (tI (λ_=>N) λB=>?_);have M:B0 c.dc s.df g.db v.1.de v.1.dq:=by cases I:B0 c.dc s.df g.db v.1.de v.1.dq with|true=>rfl|false=>simp[OU,I]at B
 have X:BC c.dc v.1.de v.1.dq:=by have M:=M;unfold B0 at M;simp only[AAH]at M;exact M.2.2.1
 have hap:OU c.dc s.df g.db v.1.de v.1.dq g.Ou=((Cr c.dc s.df g.db v.1.de v.1.dq g.Ou).1,(Cr c.dc s.df g.db v.1.de v.1.dq g.Ou).2,true):=by simp[OU,M]
 rw[hap];have hR:=hr.apply c.dc g.db v.1.de v.1.dq g.Ou;refine tE (Copy9_eq O ah (Wb.of S D.f (hr.mono ah)) ah ah ah) ?_;obtain⟨x,x1,x2,x3⟩:=I6 (l:=s.AA) (i:=g.db) ah;obtain⟨y,y1,y2,y3⟩:=I6 (l:=c.AA) (i:=g.db) ah;obtain⟨p1,p2,p3⟩:=D.t _ x y x2 y2;obtain⟨z,z1,z2,z3⟩:=I6 (l:=y.CO) (i:=x.PC) ah;obtain⟨q,q1,q2,q3⟩:=I6 (l:=s.df.AA) (i:=g.db) (by have:=(Dl D.f).2.2;omega);have iA:=(hi x y z q x2 y2 z2 q2).a;have iB:=(hi x y z q x2 y2 z2 q2).b;have K:=O x x3;refine tE x1 (tE y1 (tE z1 ?_));have hpe:∀val,PE c s g.db ⟨v.1.db,v.1.de,v.1.dq,val,v.1.d7,v.1.Dy,v.1.DS⟩:=λval=>⟨D,ht,J,hh,λx y z q a b c d=>by have h:=hi x y z q a b c d;exact⟨h.a,h.b,h.d,h.r,h.s,h.j⟩⟩;generalize H:Cr c.dc s.df g.db v.1.de v.1.dq g.Ou=ap at hR |-;let VAC:Int->List Int->List Int->Prop:=λval C F=>((v.1.de=3->gt s.di v.1.dq=some val)/\(v.1.de=23->gt s.AL v.1.dq=some val)/\(v.1.de=5->val=0\/val=1)/\(v.1.de≠3->v.1.de≠23->v.1.de≠5->v.1.de≠4->v.1.de≠22->val=ap.2))/\C=(if v.1.de=4 then s.di.set v.1.dq.toNat val else s.di)/\F=(if v.1.de=22 then s.AL.set v.1.dq.toNat val else s.AL);let TX:AN->Prop:=λt=>t=SE\/t.AB=x.AB+1/\∀l∈t.C9,∀k∈l,(∃m∈x.C9,k∈m)\/k=x.AB/\(v.1.de=3\/v.1.de=23);have j6:∀val C F t,VAC val C F->TX t->(v.1.de=16->t.PC=x.PC)->TH (E+1) t->Bp (Dq.J6 g ⟨v.1.db,v.1.de,v.1.dq,val,v.1.d7,v.1.Dy,v.1.DS⟩ C F (ap.1,ap.2,true) s t) λr=>r.2.2=true->(SI (E+1) r.1/\zF r.2.1)/\SR c s g r.1 r.2.1:=by intro val C F t p B W h4;unfold Dq.J6;refine tE x1 (tR λ_=>⟨⟨⟨hR,?_⟩,J⟩,hpe val,M,by rw[H],?_,p.2.1,p.2.2,x,t,x2,rfl,W,B⟩);(intro q G;rcases AAw G with G|rfl);exact(O q G).mono ah;exact h4;rw[H];exact p.1
 have V:A8 (x.AB+1)=x.AB+1:=by have:=K.e;exact CD ah ah
 have j5:∀val n C F t b,VAC val C F->(v.1.de=16->n=x.PC/\b=false)->t.AB=x.AB->(∀l∈t.C9,∀k∈l,(∃m∈x.C9,k∈m)\/k=x.AB/\(v.1.de=3\/v.1.de=23))->TH (E+1) ⟨0,t.DH,t.C9,A8 (t.AB+1)⟩->Bp (Dq.J5 c g ⟨v.1.db,v.1.de,v.1.dq,val,v.1.d7,v.1.Dy,v.1.DS⟩ n C F t (ap.1,ap.2,true) s b) λr=>r.2.2=true->(SI (E+1) r.1/\zF r.2.1)/\SR c s g r.1 r.2.1:=by intro val n C F t b p hn I R B;unfold Dq.J5;have W:∀n,TH (E+1) ⟨n,t.DH,t.C9,A8 (t.AB+1)⟩:=λn=>⟨B.r,B.t,B.b,B.e⟩;refine tI (λo=>tE y1 (tB (uU (W n) R ah (hc.i y y3)) λu hu=>j6 _ _ _ _ p ?_ (λh=>by rw[(hn h).2]at o;cases o) hu.1)) λ_=>j6 _ _ _ _ p (.inr ⟨by rw[I,V],R⟩) (λh=>(hn h).1) (W n);exact hu.2.imp id λh=>⟨by rw[h.1,I,V],h.2⟩
 have j3:∀val n C F b,VAC val C F->(v.1.de=16->n=x.PC)->(b=true->(v.1.de=3\/v.1.de=23))->Bp (Dq.J3 c g ⟨v.1.db,v.1.de,v.1.dq,val,v.1.d7,v.1.Dy,v.1.DS⟩ n C F (ap.1,ap.2,true) s x z b) λr=>r.2.2=true->(SI (E+1) r.1/\zF r.2.1)/\SR c s g r.1 r.2.1:=by intro val n C F b p hn B;unfold Dq.J3 Dq.J4;have I:=K.e;have VF:∀{t},(∀l∈t.C9,∀k∈l,(∃m∈x.C9,k∈m)\/k=x.AB/\(v.1.de=3\/v.1.de=23))->t.AB=x.AB->TH (E+1) ⟨0,t.DH,t.C9,A8 (t.AB+1)⟩->Bp (if(v.1.de != 16)=true then Dq.J5 c g ⟨v.1.db,v.1.de,v.1.dq,val,v.1.d7,v.1.Dy,v.1.DS⟩ n C F t (ap.1,ap.2,true) s (v.1.de != 2)else Dq.J5 c g ⟨v.1.db,v.1.de,v.1.dq,val,v.1.d7,v.1.Dy,v.1.DS⟩ n C F t (ap.1,ap.2,true) s false) λr=>r.2.2=true->(SI (E+1) r.1/\zF r.2.1)/\SR c s g r.1 r.2.1:=λR I hT=>tI (λh=>j5 _ _ _ _ _ _ p (λQ=>by rw[Q]at h;cases h) I R hT) λ_=>j5 _ _ _ _ _ _ p (λh=>⟨hn h,rfl⟩) I R hT;refine tI (λo=>?_) λ_=>?_;have B:=B o;have hA:=iA ah;refine tG ah λ_ _=>tG ah λ_ _=>VF ?_ rfl ?_;(intro l J k Z;rcases AAw J with J|rfl);exact .inl ⟨l,J,Z⟩;exact .inr ⟨AAc.1 Z,B⟩;(simp only[V];refine⟨by simpa using K.r,by simpa using K.t,?_,aS⟩;intro q G;rcases AAw G with G|rfl);exact(K.b q G).mono aS;exact⟨ak,an⟩;refine VF (λl J k Z=>.inl ⟨l,J,Z⟩) rfl ?_;simp only[V];exact⟨K.r,K.t,λq G=>(K.b q G).mono aS,aS⟩
 have L:∀C F val n,VAC val C F->(v.1.de=16->n=x.PC)->Bp (Dq.J2 c g (ap.1,ap.2,true) s x z C F ⟨v.1.db,v.1.de,v.1.dq,val,v.1.d7,v.1.Dy,v.1.DS⟩ n) λr=>r.2.2=true->(SI (E+1) r.1/\zF r.2.1)/\SR c s g r.1 r.2.1:=by intro C F val n p hn;unfold Dq.J2;exact tI (λh=>j3 _ _ _ _ _ p hn λ_=>.inl (eq_of_beq h)) λ_=>j3 _ _ _ _ _ p hn λh=>.inr (eq_of_beq h)
 have j1:∀b,(b=true->v.1.de=1\/v.1.de=16\/v.1.de=2)->(b=false->v.1.de≠16)->Bp (Dq.J1 c g v (ap.1,ap.2,true) s x z b) λr=>r.2.2=true->(SI (E+1) r.1/\zF r.2.1)/\SR c s g r.1 r.2.1:=by intro b o hb2;unfold Dq.J1;refine tI (λh=>L _ _ _ _ ⟨⟨by have:=o h;omega,by have:=o h;omega,by have:=o h;omega,λ_ _ _ _ _=>rfl⟩,by rw[AAL (by have:=o h;omega)],by rw[AAL (by have:=o h;omega)]⟩ λ_=>rfl) λh0=>tI (λh=>?_) λn3=>tI (λh=>?_) λU=>tI (λh=>?_) λn4=>tI (λh=>?_) λT=>tI (λh=>?_) λn5=>?_;have h:=eq_of_beq h;have:=A0.1 (show CC v.1.dq c.dc.di.length=true by simpa[BC,h]using X);obtain⟨d,d1,_⟩:=I6 (l:=s.di) (i:=v.1.dq) ah;exact tE d1 (L _ _ _ _ ⟨⟨λ_=>d1,ah,ah,ah⟩,by rw[AAL ah],by rw[AAL ah]⟩ ah);have h:=eq_of_beq h;have:=A0.1 (show CC v.1.dq c.dc.AL.length=true by simpa[BC,h]using X);obtain⟨d,d1,_⟩:=I6 (l:=s.AL) (i:=v.1.dq) ah;exact tE d1 (L _ _ _ _ ⟨⟨ah,λ_=>d1,ah,ah⟩,by rw[AAL ah],by rw[AAL ah]⟩ ah);have h:=eq_of_beq h;have:=A0.1 (show CC v.1.dq c.dc.di.length=true by simpa[BC,h]using X);have o:=iB (.inl h);exact tG ah λ_ _=>tG ah λ_ _=>L _ _ _ _ ⟨⟨ah,ah,ah,ah⟩,by rw[AAM h],by rw[AAL ah]⟩ ah;have h:=eq_of_beq h;have:=A0.1 (show CC v.1.dq c.dc.AL.length=true by simpa[BC,h]using X);have o:=iB (.inr h);exact tG ah λ_ _=>tG ah λ_ _=>L _ _ _ _ ⟨⟨ah,ah,ah,ah⟩,by rw[AAL ah],by rw[AAM h]⟩ ah;have h:=eq_of_beq h;have o:=iA (.inr (.inr h));exact tG ah λ_ _=>tI (λ_=>L _ _ _ _ ⟨⟨ah,ah,λ_=>.inl rfl,ah⟩,by rw[AAL ah],by rw[AAL ah]⟩ ah) λ_=>L _ _ _ _ ⟨⟨ah,ah,λ_=>.inr rfl,ah⟩,by rw[AAL ah],by rw[AAL ah]⟩ ah;simp only[ABQ,ne_eq]at n3 U n4 T n5;exact L _ _ _ _ ⟨⟨λh=>absurd h n3,λh=>absurd h U,λh=>absurd h n5,λ_ _ _ _ _=>rfl⟩,by rw[AAL n4],by rw[AAL T]⟩ λh=>absurd h (hb2 h0)
 exact tI (λh=>j1 _ (λ_=>.inl (eq_of_beq h)) λQ=>by rw[Q]at h;cases h) λ_=>tI (λh=>j1 _ (λ_=>.inr (.inl (eq_of_beq h))) λQ=>by rw[Q]at h;cases h) λn16=>j1 _ (λh=>.inr (.inr (eq_of_beq h))) λ_=>by simpa using n16
structure TM (n:Nat) (t:Ck):Prop where
 n:t.AB.length<=n
 e:∀e∈t.AB,zF e
 w:t.AB≠[]->C6 t.dc=true
theorem zF.ok{e:AH}(h:zF e):KW e:=⟨by have:=h.1;omega,by have:=h.2;omega⟩
variable{z:AM->AM}{q:AM}
theorem getT{s:AQ}(hi:0<=i/\i<s.AA.length)(h:(KI s i z).AA[u]? =some q):(u:Int)=i/\q=z (ix s.AA i)\/(u:Int)≠i/\s.AA[u]? =some q:=by unfold KI at h;grind
theorem ix_of[Inhabited a]{l:List a}{x:a}(h:l[u]? =some x)(hi:(u:Int)=i):ix l i=x:=by subst hi;unfold ix;simp[h]
variable{t:Int}
theorem ready_two{s:AQ}{k:Int}(h:B0 w s t k o)(a:k≠1)(b:k≠17):(ix s.AA t).dm=2:=by unfold B0 Eg at h;grind
variable{wake:Int}
theorem Ng(h:W≠[]):EU wake W∈W:=by unfold EU;rw[AAL h];split;simp_all;cases W with|nil=>simp_all|cons a r=>simp
theorem yV(o:Int)(T:kx):∀(i:Nat)(u:Int),u∈CJ o i T->∃x,T[(u-i).toNat]? =some x/\x.dm=3:=by
 induction T with
 |nil=>intro i u h;cases h
 |cons x r ih=>
  intro i u h;unfold CJ at h;have key:u∈CJ o (i+1) r->∃y,(x::r)[(u-i).toNat]? =some y/\y.dm=3:=by intro h;have b:=(Jo o r (i+1) u h).1;obtain⟨y,y1,y2⟩:=ih (i+1) u h;refine⟨y,?_,y2⟩;rw[show(u-(i:Int)).toNat=(u-((i+1:Nat):Int)).toNat+1 from by omega,ABG];exact y1
  split at h;(rename_i a;rcases AAg.1 h with rfl|h);refine⟨x,ak,?_⟩;unfold Ic at a;simp_all;simp_all;simp_all
theorem yP{s:AQ}{k:Int}(h:B0 w s t k o)(c:(Cr w s t k o wake).1.AA[u]? =some q):((u:Int)=t->k=16\/q.dm=2\/q.dm=5)/\((u:Int)≠t->q.dm=1\/∃i,s.AA[u]? =some i/\(q=i\/i.dm=3/\q.dm=4)):=by
 have m:=λa b=>ready_two h (k:=k) a b;have D:=h;unfold B0 at D;simp only[AAH]at D;obtain⟨M,B,L,H⟩:=D;obtain⟨_,_,N⟩:=Dl M;have B:=A0.1 B;rw[<- N]at B;have own:∀(j:AQ)(f:AM->AM),j.AA=s.AA->(KI j t f).AA[u]? =some q->(k=16\/(f (ix s.AA t)).dm=2\/(f (ix s.AA t)).dm=5)->((u:Int)=t->k=16\/q.dm=2\/q.dm=5)/\((u:Int)≠t->q.dm=1\/∃i,s.AA[u]? =some i/\(q=i\/i.dm=3/\q.dm=4)):=by
  intro j f F wv y;rcases getT (by rw[F];exact B) wv with⟨e,rfl⟩|⟨e,p⟩
  rw[F];exact⟨λ_=>y,λh=>absurd e h⟩;rw[F]at p;exact⟨λh=>absurd h e,λ_=>.inr ⟨q,p,.inl rfl⟩⟩
 have g:∀(T:kx),T=s.AA->T[u]? =some q->(ix s.AA t).dm=2->((u:Int)=t->k=16\/q.dm=2\/q.dm=5)/\((u:Int)≠t->q.dm=1\/∃i,s.AA[u]? =some i/\(q=i\/i.dm=3/\q.dm=4)):=by rintro _ rfl wv y;exact⟨λe=>.inr (.inl (by rw[ix_of wv e]at y;exact y)),λ_=>.inr ⟨q,wv,.inl rfl⟩⟩
 unfold Cr at c;by_cases l:k=1;rw[AAM l]at c;exact own s _ rfl c (.inr (.inl rfl));rw[AAL l]at c;by_cases K:k=2;rw[AAM K]at c;exact own s _ rfl c (.inr (.inr rfl));rw[AAL K]at c;by_cases e:k=6\/k=10;rw[AAM e]at c;exact g _ rfl c (m l ah);rw[AAL e]at c;by_cases e:k=7\/k=11;rw[AAM e]at c;exact g _ rfl c (m l ah);rw[AAL e]at c;by_cases e:k=8;rw[AAM e]at c;exact g _ rfl c (m l ah);rw[AAL e]at c;by_cases e:k=9;rw[AAM e]at c;exact g _ rfl c (m l ah);rw[AAL e]at c;by_cases e:k=12;rw[AAM e]at c;exact g _ rfl c (m l ah);rw[AAL e]at c;by_cases e:k=13;rw[AAM e]at c;exact g _ rfl c (m l ah);rw[AAL e]at c;by_cases e:k=14;rw[AAM e]at c;exact own s _ rfl c (.inr (.inl (m l ah)));rw[AAL e]at c;by_cases e:k=15;rw[AAM e]at c;exact own s _ rfl c (.inr (.inl (m l ah)));rw[AAL e]at c;by_cases G:k=16;rw[AAM G]at c;exact own (HN s (ix w.Al o).dr λx=>⟨-1,x.Am⟩) _ rfl c (.inl G);rw[AAL G]at c;by_cases n:k=17;rw[AAM n]at c;exact own (HN s (ix w.Al o).dr λx=>⟨t,x.Am⟩) _ rfl c (.inr (.inl rfl));rw[AAL n]at c;have j:=m l n;by_cases e:k=18;rw[AAM e]at c;by_cases z:CJ o 0 s.AA=[];rw[AAM z]at c;exact g _ rfl c j;(rw[AAL z]at c;obtain⟨x,v,O⟩:=yV o s.AA 0 _ (Ng (wake:=wake) z);have I:=Jo o s.AA 0 _ (Ng (wake:=wake) z);generalize EU wake (CJ o 0 s.AA)=d at c v I;have v:s.AA[d.toNat]? =some x:=(by simpa using v);have hd:ix s.AA d=x:=ix_of v ah;rcases getT (by simp at I;omega) c with⟨e,rfl⟩|⟨e,p⟩);refine⟨λh=>?_,λ_=>.inr ⟨x,?_,.inr ⟨O,rfl⟩⟩⟩;rw[<- h,e,hd]at j;omega;rw[show u=d.toNat from by omega];exact v;exact g _ rfl p j;rw[AAL e]at c;by_cases e:k=19;(rw[AAM e]at c;have c:(s.AA.map (Hz o))[u]? =some q:=c;rw[AAU]at c;cases hx:s.AA[u]? with|none=>rw[hx]at c;cases c|some x=>rw[hx]at c;obtain rfl:=AAK c;unfold Hz;by_cases r:Ic x o=true;have:x.dm=3:=(by unfold Ic at r;simp only[AAH]at r;exact eq_of_beq r.1);rw[AAM r];refine⟨λe=>?_,λ_=>.inr ⟨x,rfl,.inr ⟨this,rfl⟩⟩⟩;rw[ix_of hx e]at j;omega;rw[AAL r];exact⟨λe=>.inr (.inl (by rw[ix_of hx e]at j;exact j)),λ_=>.inr ⟨x,rfl,.inl rfl⟩⟩);rw[AAL e]at c;by_cases C:k=20;(rw[AAM C]at c;have J:CC o w.AA.length:=(by simpa[BC,C]using L);have E:o≠t:=(by simp[Eg,C]at H;exact H.2.1);have J:=A0.1 J;rcases getT ah c with⟨e,rfl⟩|⟨e,p⟩);exact⟨λh=>absurd (e.symm.trans h) E,λ_=>.inl rfl⟩;exact g _ rfl p j;rw[AAL C]at c;by_cases e:k=22;rw[AAM e]at c;exact g _ rfl c j;rw[AAL e]at c;exact g _ rfl c j
theorem Zb(wv:AG)(s:AQ)(t k o wake:Int):(Cr wv s t k o (if k=18 then(Cr wv s t k o wake).2 else -1)).1=(Cr wv s t k o wake).1:=by by_cases h:k=18;(rw[AAM h,h];have key:∀w,(Cr wv s t 18 o w)=(if CJ o 0 s.AA=[]then s else KI s (EU w (CJ o 0 s.AA)) Iu,EU w (CJ o 0 s.AA)):=λw=>by simp[Cr]);rw[key,key];by_cases a:CJ o 0 s.AA=[];simp[a];have:=Ng (wake:=wake) a;simp only[a,AAY];rw[show EU (EU wake (CJ o 0 s.AA)) (CJ o 0 s.AA)=EU wake (CJ o 0 s.AA)from ?_];generalize EU wake (CJ o 0 s.AA)=d at this |-;unfold EU;simp_all;rw[AAL h];unfold Cr;simp only[AAL h]
theorem nums_of(D:i6):∀a:Int,D.Pairwise (· < ·)->(∀k∈D,a<k/\k<i)->Gk i a D:=by induction D with|nil=>exactλ_ _ _=>rfl|cons x r ih=>intro a f b;obtain⟨g,h⟩:=ABg.1 f;have e:=b x ABD;unfold Gk;simp only[AAH,AAa];exact⟨e.1,e.2,ih x h λk d=>⟨g k d,(b k (ABH _ d)).2⟩⟩
theorem isIn_app{l:ko}{b:Bool}(h:Ka l i):Ka (l++[b]) i:=by unfold Ka at h |-;simp only[AAH]at h |-;have hi:=A0.1 h.1;refine⟨A0.2 an,?_⟩;have:=h.2;unfold ix at this |-;rw[AAq ah];exact this
theorem isIn_last{l:ko}:Ka (l++[true]) (l.length:Int):=by unfold Ka;simp only[AAH];exact⟨A0.2 an,by unfold ix;simp⟩
structure GT (pre:List AH) (u:Int) (cnt:Int) (x:AN):Prop where
 c:cnt=x.AB
 n:x.AB=((JH pre u).length:Int)
 k:∀l∈x.C9,∀k∈l,Ka (JH pre u) k=true/\1<=k
structure LK (c:Bx) (pre:List AH) (S:AD) (s:A4):Prop where
 y:S.df=s.df
 ce:S.di=s.di
 f:S.AL=s.AL
 n:S.dh.length=c.dc.AA.length
 t:∀(u:Nat) x y,s.AA[u]? =some x->c.AA[u]? =some y->y.DH=0\/x=SE\/GT pre u (ix S.dh u) x
 w:∀(u:Nat) x y q,s.AA[u]? =some x->c.AA[u]? =some y->s.df.AA[u]? =some q->q.dm=3\/q.dm=4->∃z,gt y.CO x.PC=some z/\z.Op=21
 e:∀(u:Nat) x q,s.AA[u]? =some x->s.df.AA[u]? =some q->2<=q.dm->x=SE\/1<=x.AB
theorem apply_v0{s:AQ}(c:i≠18)(d:i≠19):(Cr w s t i o wake).2=0:=by
 have key:∀(P:Prop) [Decidable P] (a b:AQ×Int),a.2=0->b.2=0->(if P then a else b).2=0:=λP _ a b e f=>by by_cases h:P;rw[AAM h];exact e;rw[AAL h];exact f
 unfold Cr;rw[AAL c,AAL d];repeat' first|rfl|apply key
variable{s':A4}{m:js}{B:AD}
theorem sim{g:An}{e:AH}(hE:E<=10000)(L:SI E s)(p:LK c m B s)(hr:SR c s g s' e):FV c.dc B e/\P1 m e/\LK c (m++[e]) (Ed c.dc B e) s':=by
 obtain⟨hp,P,hsy,hva,hce,hfu,x,x',U,hth,h16,MG⟩:=hr;obtain⟨N,ht,_,R,hi⟩:=hp;have c1:=N.c';have c2:=N.u;have c3:=N.n;have c4:=N.v.n;have l3:=(Dl N.f).2.2;obtain⟨y,_,y2,_⟩:=I6 (l:=c.AA) (i:=g.db) ah;obtain⟨p1,p2,p3⟩:=N.t _ x y U y2;obtain⟨z,z1,z2,z3⟩:=I6 (l:=y.CO) (i:=x.PC) ah;obtain⟨q,_,q2,_⟩:=I6 (l:=s.df.AA) (i:=g.db) ah;have C:=hi x y z q U y2 z2 q2;have hz:=(N.v.t _ y y2).i z z3;have hx:=L.2 x (AAW U);have G:((g.db.toNat:Nat):Int)=g.db:=ah;have hgt:y.DH=0\/GT m g.db (ix B.dh g.db) x:=by
  rcases p.t _ x y U y2 with h|h|h
  exact .inl h;rw[h]at p2;exact .inl p2.symm;rw[G]at h;exact .inr h
 have J:∀D,D=[]\/D∈x.C9->Gk (ix B.dh e.db) 0 D/\D.all (Ka (JH m e.db)):=by rintro D (rfl|J);exact⟨rfl,rfl⟩;(rcases hgt with h|h);have:x.C9.length=0:=ah;rw[List.length_eq_zero_iff.1 this]at J;cases J;rw[R];refine⟨nums_of D 0 (hx.b D J).1 λk T=>⟨by have:=(h.k D J k T).2;omega,?_⟩,AAP.2 λk T=>(h.k D J k T).1⟩;rw[h.c];exact((hx.b D J).2 k T).2
 have Z:=J e.Dy (C.d.imp id λh=>h.1);have tS:=J e.DS (C.r.imp id λh=>h.1);have o:BC c.dc e.de e.dq:=by have P:=P;unfold B0 at P;simp only[AAH]at P;exact P.2.2.1
 have YM:OD c.dc e:=by
  unfold OD;have site:z.Op≠28->e.d7=z.d7->(CC e.d7 c.dc.Bt.length&&(ix c.dc.Bt e.d7).db==e.db):=by intro W I;have L:=hz.s;unfold dG at L;rw[AAL W,G]at L;obtain⟨b,V,b2⟩:=L;have S:=V;unfold gt at S;split at S;have:=(AAJ.1 S).1;rw[I,AAE V,b2,R];simp only[AAH,ABF,and_true];exact A0.2 ah;cases S
  rcases C.s with⟨k1,k2⟩|⟨⟨q4,TJ⟩|⟨q2',k2,n1,n17,VF⟩,F⟩
  rw[AAM (.inl k1),k2];rfl;obtain⟨z',V,b2⟩:=p.w _ x y q U y2 q2 (.inr q4);rw[z1]at V;obtain rfl:=AAK V;rw[AAL ah];exact site ah F;by_cases I:e.de=2;have L:=hz.s;unfold dG at L;rw[AAM (k2.1 I)]at L;rw[AAM (.inr I),F,L];rfl;rw[AAL ah];exact site (λh=>I (k2.2 h)) F
 have X:Ei c.dc B e:=by unfold Ei;rw[Z.1,tS.1];simp only[Bool.and_true,AAH,AAh];refine⟨C.d.imp (λh=>by rw[h];rfl) λh=>h.2.imp (λh=>by rw[h];rfl) λh=>?_,C.r.imp (λh=>by rw[h];rfl) λh=>h.2.imp (λh=>by rw[h];rfl) λh=>by rw[h];rfl⟩;unfold QJ;rw[AAM h.1];simpa using h.2
 have CG:Hy B e:=by unfold Hy;rw[p.ce,p.f,p.y];obtain⟨v1,v2,v3,v4⟩:=hva;by_cases k3:e.de=3;rw[AAM k3,AAE (v1 k3)];simp;rw[AAL k3];by_cases dY:e.de=23;rw[AAM dY,AAE (v2 dY)];simp;rw[AAL dY];by_cases k5:e.de=5;(rw[AAM k5];rcases v3 k5 with h|h<;>rw[h]<;>rfl);rw[AAL k5];by_cases k4:e.de=4\/e.de=22;rw[AAM k4];rw[AAL k4];have hv:=v4 k3 dY k5 ah ah;by_cases O:e.de=18;rw[AAM O];have:e.dn=EU g.Ou (CJ e.dq 0 s.df.AA):=(by rw[hv,O];simp[Cr]);by_cases hW:CJ e.dq 0 s.df.AA=[];rw[this,hW];rfl;have hm:=Ng (wake:=g.Ou) hW;rw[<- this]at hm;simp only[AAh];exact .inl (by simpa using hm);rw[AAL O];by_cases q7:e.de=19;rw[AAM q7,hv,q7];simp[Cr];rw[AAL q7,hv];simp[apply_v0 O q7]
 have Q:FV c.dc B e:=by unfold FV JS;rw[p.y,p.ce,p.f,N.f,R,P,YM,X,CG,p.n,c1,c2];simp only[ABF,Bool.and_true,AAf];exact A0.2 ah
 have K:P1 m e:=by unfold P1;rw[Z.2,tS.2];rfl
 refine⟨Q,K,?_⟩;have hsy':(Ed c.dc B e).df=s'.df:=by show(Cr c.dc B.df e.db e.de e.dq (if e.de=18 then e.dn else -1)).1=_;rw[p.y,hsy,R];by_cases O:e.de=18;have hv:=hva.2.2.2 ah ah ah ah ah;have:=Zb c.dc s.df g.db e.de e.dq g.Ou;rw[AAM O]at this |-;rw[hv];exact this;have:=Zb c.dc s.df g.db e.de e.dq g.Ou;rw[AAL O]at this |-;exact this
 have H:∀(u:Nat) a,s'.AA[u]? =some a->(u:Int)=g.db/\a=x'\/(u:Int)≠g.db/\s.AA[u]? =some a:=by intro u a o;rw[hth]at o;by_cases j:(u:Int)=g.db;rw[show g.db.toNat=u from by omega,AAN ah]at o;exact .inl ⟨j,(AAK o).symm⟩;rw[AAV ah]at o;exact .inr ⟨j,o⟩
 have M:∀u:Nat,ix (Ed c.dc B e).dh (u:Int)=if(u:Int)=g.db then A8 (ix B.dh g.db+1)else ix B.dh u:=by intro u;show ix (B.dh.set e.db.toNat (A8 (ix B.dh e.db+1))) u=_;rw[R];by_cases j:(u:Int)=g.db;rw[AAM j];have EM:u<B.dh.length:=(by rw[p.n];omega);rw[show g.db.toNat=u from by omega];unfold ix;simp[EM];rw[AAL j];unfold ix;rw[AAV ah]
 have PN:∀u:Int,JH (m++[e]) u=if g.db=u then JH m u++[fF e]else JH m u:=λu=>by rw[NR,R]
 have Cg:∀(u:Nat) b,s'.df.AA[u]? =some b->((u:Int)=g.db->e.de=16\/b.dm=2\/b.dm=5)/\((u:Int)≠g.db->b.dm=1\/∃q,s.df.AA[u]? =some q/\(b=q\/q.dm=3/\b.dm=4)):=by intro u b S;rw[hsy]at S;exact yP P S
 refine⟨hsy',?_,?_,?_,?_,?_,?_⟩;rw[hce,<- p.ce];rfl;rw[hfu,<- p.f];rfl;show(B.dh.set _ _).length=_;rw[List.length_set];exact p.n;(intro u a b o S;rcases H u a o with⟨j,rfl⟩|⟨j,o⟩);(rw[show u=g.db.toNat from by omega,y2]at S;obtain rfl:=AAK S;rcases hgt with h|h);exact .inl h;(rcases MG with MG|⟨e1,e2⟩);exact .inr (.inl MG);by_cases hR:y.DH=0;exact .inl hR;refine .inr (.inr ⟨?_,?_,?_⟩);rw[M,AAM j,h.c,e1];have:=hx.e;exact CD ah ah;rw[PN,j,AAM rfl,e1,h.n];simp;(intro l hl' k T;rw[PN,j,AAM rfl];rcases e2 l hl' k T with⟨pre,m1,m2⟩|⟨rfl,hk3⟩);exact⟨isIn_app (h.k pre m1 k m2).1,(h.k pre m1 k m2).2⟩;have hr:fF e:=(by unfold fF;rcases hk3 with h|h<;>simp[h]);rw[hr];(have:=isIn_last (l:=JH m g.db);rw[<- h.n]at this;refine⟨this,?_⟩;have hq:2<=q.dm:=(by rcases C.s with⟨k1,_⟩|⟨⟨_,TJ⟩|⟨q2',_⟩,_⟩<;>omega);rcases p.e _ x q U q2 hq with h0|h0);rw[h0]at p2;exact absurd p2.symm hR;exact h0;(rcases p.t u a b o S with h|h|h);exact .inl h;exact .inr (.inl h);refine .inr (.inr ⟨?_,?_,?_⟩);rw[M,AAL j];exact h.c;rw[PN,AAL (λh=>j h.symm)];exact h.n;rw[PN,AAL (λh=>j h.symm)];exact h.k;(intro u a b d o S hd hs34;rcases H u a o with⟨j,rfl⟩|⟨j,o⟩);(rw[show u=g.db.toNat from by omega,y2]at S;obtain rfl:=AAK S;have VF:e.de=16:=(by rcases(Cg u d hd).1 j with h|h|h<;>omega);rw[h16 VF];refine⟨z,z1,?_⟩;rcases C.s with⟨k1,_⟩|⟨⟨_,TJ⟩|⟨_,_,_,_,h⟩,_⟩);omega;omega;exact h VF;(rcases(Cg u d hd).2 j with h|⟨q',W,I⟩);omega;(refine p.w u a b q' o S W ?_;rcases I with rfl|I);exact hs34;exact .inl I.1;(intro u a d o hd I;rcases H u a o with⟨j,rfl⟩|⟨j,o⟩);(rcases MG with h|⟨e1,_⟩);exact .inl h;have:=hx.e;exact .inr ah;(rcases(Cg u d hd).2 j with h|⟨q',W,h3⟩);omega;refine p.e u a q' o W ?_;rcases h3 with rfl|h3<;>omega
theorem WM(h:(Kd w).AA[k]? =some q):q.dm=0\/q.dm=1:=by have h:=AAW h;unfold Kd at h;grind
theorem Start9_ok(G:CK c)(b:CV c=some true):Bp (Db c) λs=>SI 0 s/\LK c [] (IG c.dc) s:=by
 unfold Db;obtain⟨v,D,E⟩:=SK G;rw[b]at D;have p:=E (AAK D).symm;rw[b,AAG];refine tI bk λ_=>?_;have b:=p;have z:=Dw b.w;have W:=z.c;have X:=z.f;have Z:=G.n;refine tE (Rf _ z) (Ru c.dc.di.length (λi s=>s.df=Kd c.dc/\s.di=(c.dc.di.take i).map (·.dg)/\s.AL=[]/\s.AA=[]) (F:=λn s i=>Db.AR c n s i) ah ⟨rfl,rfl,rfl,rfl⟩ λn i s hi e k=>?_);obtain⟨I,g,J,K⟩:=e;have R:s.di.length=i:=by rw[g];simp;omega
 unfold Db.AR Db.L1 Db.J1;refine tD (λ_=>kV ah (tC (Bq ah) (k _ ah ⟨I,by simp only;rw[g,<- AAe ah,AAu];rfl,J,K⟩))) λ_=>?_;have g:s.di=c.dc.di.map (·.dg):=by rw[g,AAo ah]
 refine Ru c.dc.AL.length (λi t=>t.df=Kd c.dc/\t.AL=List.replicate i 0/\t.AA=[]/\t.di=s.di) (F:=λn s i=>Db.Bs c n s i) ah ⟨I,by simp[J],K,rfl⟩ λn i t hi e k=>?_;obtain⟨L,m,C,M⟩:=e;have R:t.AL.length=i:=by rw[m];simp
 unfold Db.Bs Db.L2 Db.J2;refine tD (λ_=>tC (Bq ah) (k _ ah ⟨L,by simp only;rw[m,<- ABX],C,M⟩)) λ_=>?_;have m:t.AL=List.replicate c.dc.AL.length 0:=by rw[m,show i=c.dc.AL.length by omega]
 refine Ru c.AA.length (λi u=>u.df=Kd c.dc/\u.AA.length=i/\(∀x∈u.AA,TH 0 x/\x.AB=0/\∀l∈x.C9,l=[])/\u.di=s.di/\u.AL=t.AL) (F:=λn s i=>Db.E3 c n s i) ah ⟨L,by simp[C],by simp[C],M,rfl⟩ λn i u hi e k=>?_;obtain⟨o,V,N,O,P⟩:=e;unfold Db.E3 Db.L3 Db.J3;refine tD (λ_=>kV ah ?_) λ_=>tR ⟨⟨by rw[o];exact RB.start _,λx a=>(N x a).1⟩,by rw[o];rfl,by rw[O,g];rfl,by rw[P,m];rfl,by have:=b.n;simp[IG],?_,?_,?_⟩;(have U:=(b.t i _ (AAO ah)).r;refine tC ⟨ah,ah,Bq ah⟩ (tC ⟨ah,ah,Bq ah⟩ (tC (Bq ah) (k _ ah ⟨o,an,?_,O,P⟩)));intro x a;rcases AAX.1 a with a|a);grind;rw[AAc.1 a];refine⟨⟨an,an,?_,ak⟩,rfl,λl H=>List.eq_of_mem_replicate H⟩;intro y B;have B:=List.eq_of_mem_replicate B;rw[B];exact⟨List.Pairwise.nil,ak⟩;intro j x y a _;have a:=N x (AAW a);refine .inr (.inr ⟨?_,by rw[a.2.1];rfl,λl H k T=>aA⟩);rw[a.2.1];show ix (List.replicate c.dc.AA.length 0) (j:Int)=0;unfold ix;simp only[AAi];by_cases S:j<c.dc.AA.length;grind;rw[List.getElem?_eq_none an];rfl;intro j x y q _ _ d Q;rw[o]at d;have:=WM d;omega;intro j x q _ d E;rw[o]at d;have:=WM d;omega
def Acc(wv:AG)(l:js)(S:AD):Prop:=∀r,F8 wv [] (IG wv) (l++r)=F8 wv l S r
theorem Acc.step{wv:AG}{l:js}{S:AD}(h:Acc wv l S){e:AH}(a:FV wv S e)(b:P1 l e):Acc wv (l++[e]) (Ed wv S e):=by intro r;rw[ABO,h,List.singleton_append,F8,a,b];rfl
theorem from_ok(p:CK c)(f:SI 0 s)(q:LK c [] (IG c.dc) s){l:lm}(B:l.length<=1000):Bp (GN c s [] l) λr=>(r.1.length<=l.length/\∀e∈r.1,zF e)/\∃S,Acc c.dc r.1 S/\LK c r.1 S r.2:=by unfold GN;refine Ru l.length (λi (s:List AH×A4)=>(SI i s.2/\s.1.length<=i/\∀e∈s.1,zF e)/\∃S,Acc c.dc s.1 S/\LK c s.1 S s.2) (F:=λn s i=>GN.AR c l n s.1 s.2 i) (s0:=([],s)) ah ⟨⟨f,ak,ak⟩,_,λ_=>rfl,q⟩ λn i s hi f k=>?_;obtain⟨⟨d,C,g⟩,S,a,b⟩:=f;have up:SI (i+1) s.2:=⟨d.1.mono ah,λt u=>(d.2 t u).mono ah⟩;unfold GN.AR GN.L1 GN.J1 GN.J2 GN.J3;refine tD (λ_=>tI (λ_=>tG ah λx _=>?_) λ_=>tR ⟨⟨aA,g⟩,S,a,b⟩) λ_=>tI bk λ_=>tR ⟨⟨aA,g⟩,S,a,b⟩;refine tB (Step9_tot p d ah x) λv w=>tI (λh=>?_) λ_=>k (_,_) ah ⟨⟨up,aA,g⟩,S,a,b⟩;obtain⟨⟨y,D⟩,z⟩:=w h;obtain⟨j,m,o⟩:=sim ah d b z;refine tC (Bq ah) (k (_,_) ah ⟨⟨y,an,?_⟩,_,a.step j m,o⟩);grind
structure TA (n:Nat) (t:Ck):Prop where
 m:TM n t
 c:F8 t.dc [] (IG t.dc) t.AB=(0,0)
theorem Run_ok(a:CK c){l:lm}(j:l.length<=1000):Bp (M6 c l) λr=>TA l.length r.1:=by
 unfold M6;obtain⟨v,d,i⟩:=SK a;rw[d,AAG];refine tI (λ_=>tR ⟨⟨ak,ak,λh=>absurd rfl h⟩,rfl⟩) λh=>?_;have f:v=true:=by simpa using h
 refine tB (Start9_ok a (by rw[d,f])) λs e=>tB (from_ok a e.1 e.2 j) λr b=>tR ⟨⟨b.1.1,b.1.2,λ_=>(i f).w⟩,?_⟩;obtain⟨S,g,_⟩:=b.2;have:=g [];rw[ABc]at this;exact this
end Go.Abs
