/- What the typed programs give, in plain Lean. -/
import Derived.Test.YtdadohkcmclilaaGreatDoorPlainB
import Derived.KernelRfl
import Derived.Shelf.Slices.SearchI
set_option linter.unusedSimpArgs false
set_option linter.unusedVariables false
namespace Go.Abs
set_option maxHeartbeats 4000000
section
variable {T:ABi->Prop}
theorem Qk (l:List EV) (s:ABi) (a:l.length<1000000):Cc (Cr l s) λr=> -1≤r/\r<l.length:=by unfold Cr;refine tL l.length (by omega) λn i hi k=> ?_;unfold Cr.AZ Cr.L1 Cr.J1;exact tD (λ_=>tG (by omega) λx _=>tI (λ_=>tR (by omega)) λ_=>k (by omega)) λ_=>tR (by omega)
theorem Kq (l:List Cj) (s:ABi) (a:l.length<1000000):Cc (Cp l s) λr=> -1≤r/\r<l.length:=by unfold Cp;refine tL l.length (by omega) λn i hi k=> ?_;unfold Cp.AZ Cp.L1 Cp.J1;exact tD (λ_=>tG (by omega) λx _=>tI (λ_=>tR (by omega)) λ_=>k (by omega)) λ_=>tR (by omega)
theorem Yp {p:AU} (h:MP p):TT (HL p.Decls):=by have hd:=h.dl;have key:Cc (Ed.bind HL) λ_=>True:=⟨(0,0),by decide +kernel,trivial⟩;rw[h.d]at key;exact key
theorem Uf {p:AU} (h:MP p):TT (CB p):=by
 have hd:=h.dl;have g:=h.t;have j1:∀{F:Int->ABh (Int×Int)} {i:Int} {x:Cj} (b:Bool),TT (F (Aq (i+1)))->TT (CB.J1 F i x b):=by intro F i x b k;unfold CB.J1;exact tI (λ_=>tR trivial) λ_=>k
 have c:∀{F:Int->ABh (Int×Int)} {i:Int} {x:Cj} (b:Bool),TT (F (Aq (i+1)))->TT (CB.J3 F i x b):=by intro F i x b k;unfold CB.J3;exact tI (λ_=>tR trivial) λ_=>k
 unfold CB;refine tL p.AA.length (by omega) λn i hi k=> ?_;unfold CB.AZ CB.L1 CB.J2;refine tD (λ_=>tG (by omega) λx a=>tB (Qk _ _ (by omega)) λ_ _=>tI (λ_=>j1 _ (k (by omega))) λ_=>tC (by omega) (tB (Kq _ _ (by simp;omega)) λ_ _=>j1 _ (k (by omega)))) λ_=> ?_;refine tL p.AA.length (by omega) λn i hi k=> ?_;unfold CB.DI CB.L2;refine tD (λ_=>tG (by omega) λx a=>tI (λ_=>tR trivial) λ_=>tL x.Fh.length (by have:=h.l x a;omega) λm j e d=> ?_) λ_=>tR trivial;have f:=h.l x a;unfold CB.GL CB.L3 CB.J4;refine tD (λ_=>tG (by omega) λy o=>tB (Qk _ _ (by omega)) λ_ _=>tI (λ_=>c _ (d (by omega))) λ_=>tB (Kq _ _ (by omega)) λ_ _=>tI (λ_=>c _ (d (by omega))) λ_=>tC (by omega) (tB (NA _ _ (by simp;omega)) λ_ _=>c _ (d (by omega)))) λ_=>k (by omega)
theorem o9 (d:Nat):∀(n:Nat) (l:List AR),d+1≤n->SZ T d l->TT (GA n l):=by
 induction d with
 |zero=>intro n l hn ⟨_,h⟩;obtain⟨n,rfl⟩:∃k,n=k+1:=⟨n-1,by omega⟩;have:l=[]:=AA3.2 λx a=>(h x a).elim;subst this;show TT (Cu (GA n) []);exact tR trivial
 |succ d ih=>intro n l hn ⟨h1,h2⟩;obtain⟨n,rfl⟩:∃k,n=k+1:=⟨n-1,by omega⟩;show TT (Cu (GA n) l);unfold Cu;refine OR l.length (λ_ _=>True) (F:=λn s i=>Cu.AZ _ l n s i) (by omega) trivial λm i s hi _ k=> ?_;unfold Cu.AZ Cu.L1 Cu.J1;exact tD (λ_=>tG (by omega) λx a=>Hy (ih n _ (by omega) (h2 x a).body) λ_=>Hy (ih n _ (by omega) (h2 x a).els) λ_=>k _ (by omega) trivial) λ_=>tR trivial
theorem lH {wv:BI} (h:wv.Fi.length≤100) (a b:Int) (s:ABi):Cc (BX wv a b s) λr=>r.2=wv:=by
 have j1:∀{F:Int->ABh (Bool×BI)} {i:Int} (b:Bool),Cc (F (Aq (i+1))) (λr=>r.2=wv)->Cc (BX.J1 F i wv b) λr=>r.2=wv:=by intro F i b k;unfold BX.J1;exact tI (λ_=>tR rfl) λ_=>k
 unfold BX;refine tL wv.Fi.length (by omega) λn i hi k=> ?_;unfold BX.AZ BX.L1 BX.J2;refine tD (λ_=>tG (by omega) λx c=> ?_) λ_=>tR rfl
 repeat' first|exact j1 _ (k (by omega))|refine tI (λ_=> ?_) λ_=> ?_
theorem hZ {p:AU} (h:MP p) (t:Int) (s:ABi):TT (EZ p t s):=by
 have hd:=h.dl;have d:=h.t;have j1:∀b,TT (EZ.J1 p s b):=by
  intro b;unfold EZ.J1;refine tI (λ_=>tR trivial) λ_=>tB (Qk _ _ (by omega)) λv e=>tD (λ_=>tB (Kq _ _ (by omega)) λ_ _=>tI (λ_=>tR trivial) λ_=>tR trivial) λ_=>tG (by omega) λx _=> ?_;have c:∀b,TT (EZ.J2 p v b):=by intro b;unfold EZ.J2;exact tI (λ_=>tG (by omega) λ_ _=>tR trivial) λ_=>tR trivial
  repeat' first|exact tR trivial|exact c _|refine tI (λ_=> ?_) λ_=> ?_
 unfold EZ;exact tD (λ_=>tD (λ_=>tG (by omega) λx a=>tB (NA _ _ (by have:=h.l x a;omega)) λ_ _=>j1 _) λ_=>j1 _) λ_=>j1 _
theorem Kb {p:AU} (h:MP p) (t:Int) (s:ABi) (a b:Int):TT (DE p t s a b):=by
 unfold DE DE.J1;refine Hy (hZ h t s) λ_=> ?_
 repeat' first|exact tR trivial|refine tI (λ_=> ?_) λ_=> ?_
theorem pO (d:Nat):∀(n:Nat) (e:BA),d≤n->dE d e->TT (Ja n e):=by
 induction d with
 |zero=>exactλn e _ h=>h.elim
 |succ d ih=>intro n e hn ⟨h1,h2⟩;obtain⟨n,rfl⟩:∃k,n=k+1:=⟨n-1,by omega⟩;show TT (E7 (Ja n) e);unfold E7;refine OR e.L.length (λ_ _=>True) (F:=λn (s:Int×Int) i=>E7.AZ _ e n s.1 s.2 i) (by omega) (s0:=(1,0)) trivial λm i s hi _ k=> ?_;unfold E7.AZ E7.L1 E7.J1;exact tD (λ_=>tG (by omega) λx a=>Hy (ih n x (by omega) (h2 x a)) λv=>k (_,_) (by omega) trivial) λ_=>tR trivial
theorem sS {p:AU} (h:MP p) (t:Int) (d:Nat):∀(n:Nat) (e:BA),d≤n->dE d e->TT (IK n p t e):=by
 induction d with
 |zero=>exactλn e _ h=>h.elim
 |succ d ih=>
  intro n e hn ⟨h1,h2⟩;obtain⟨n,rfl⟩:∃k,n=k+1:=⟨n-1,by omega⟩;show TT (D1 (IK n) p t e);have j1:∀r,TT (D1.J1 (IK n) e p t r):=by intro r;unfold D1.J1;refine OR e.L.length (λ_ _=>True) (F:=λm s i=>D1.AZ _ e p t m s i) (by omega) trivial λm i s hi _ k=> ?_;unfold D1.AZ D1.L1 D1.J2 D1.J3;exact tD (λ_=>tI (λ_=>tG (by omega) λx a=>Hy (ih n x (by omega) (h2 x a)) λv=>k _ (by omega) trivial) λ_=>tR trivial) λ_=>tI (λh=>by cases h) λ_=>tR trivial
  unfold D1;exact tI (λ_=>Hy (Kb h _ _ _ _) λ_=>j1 _) λ_=>tI (λ_=>Hy (Kb h _ _ _ _) λ_=>j1 _) λ_=>j1 _
theorem bQ {p:AU} (h:MP p) (t:Int) {e:BA} (a:dE 2 e):TT (E0 p t e):=by
 have j1:∀b,TT (E0.J1 e p t b):=by intro b;unfold E0.J1;exact tI (λ_=>tR trivial) λ_=>Hy (sS h t 2 _ e (Lg (by omega)) a) λ_=>tR trivial
 unfold E0;exact Hy (iG a) λ_=>tI (λ_=>tR trivial) λ_=>Hy (pO 2 _ e (Lg (by omega)) a) λ_=>tI (λ_=>j1 _) λ_=>j1 _
theorem NS (a b:Int):TT (E1 a b):=by unfold E1;exact tI (λ_=>tR trivial) λ_=>tR trivial
theorem Hq (b:Bool):TT (Bx b):=by unfold Bx;exact tI (λ_=>tR trivial) λ_=>tR trivial
structure WK (p:AU) (A K:Nat) (wv:BI):Prop where
 p:wv.p=p
 a:wv.Fi.length=A
 s:wv.LS.length≤K
 t:wv.Xf.length≤K
theorem WK.mono {p:AU} {A K L:Nat} {wv:BI} (h:WK p A K wv) (b:K≤L):WK p A L wv:=⟨h.p,h.a,by have:=h.s;omega,by have:=h.t;omega⟩
theorem one_tot {p:AU} (h:MP p) {A K:Nat} {wv:BI} (f:WK p A K wv) (H:A≤100) (J:K≤900000) {k:Nat} {s:AR} (o:Ha T (k+1) s):Cc (BF wv s) λr=>WK p A (K+1) r.2:=by
 have hd:=h.dl;have n:=h.t;have m:=f.a;have F:=f.s;have G:=f.t;obtain rfl:=f.p;have W:WK wv.p A (K+1) wv:=f.mono (by omega);have I:=λa b s=>lH (wv:=wv) (by omega) a b s;have E:=bQ h wv.Be o.e;have j:∀(b:Bool) e,Cc (BF.wJ s (b,wv) wv e) λr=>WK wv.p A (K+1) r.2:=by intro b e;unfold BF.wJ;exact tC (B9 (by simp only;omega)) (Hy E λ_=>Hy (NS _ _) λ_=>tR ⟨rfl,m,W.s,by simp;omega⟩)
 have g:∀(b c:Bool) e,Cc (BF.fV e s (b,wv) wv c) λr=>WK wv.p A (K+1) r.2:=by intro b c e;unfold BF.fV;exact tI (λ_=>j _ _) λ_=>j _ _
 have q:∀(b:Bool) e,Cc (BF.RX s (b,wv) wv e) λr=>WK wv.p A (K+1) r.2:=by intro b e;unfold BF.RX;exact tI (λ_=>tB (NA _ _ (by simp only;omega)) λ_ _=>g _ _ _) λ_=>g _ _ _
 have D:∀(b c:Bool),Cc (BF.J8 s (b,wv) c) λr=>WK wv.p A (K+1) r.2:=by intro b c;unfold BF.J8;exact tI (λ_=>tR W) λ_=>tB (NA _ _ (by simp only;omega)) λ_ _=>tI (λ_=>tR W) λ_=>tC (B9 (by simp only;omega)) (tR ⟨rfl,m,by simp;omega,W.t⟩)
 have z:s.Op∈[(9:Int),10,11]->Cc (Cr wv.p.Decls s.Name) λr=>0≤r/\r<9:=by
  intro B;rw[o.2.2.2.1 B];have key:Ed.bind (λl=>Cr l cN)=some 7:=by decide +kernel
  rw[h.d]at key;exact⟨7,key,by omega⟩
 have C:∀(b c d t:Bool),(t=true->s.Op∈[(9:Int),10,11])->Cc (BF.J6 s (b,wv) (c,wv) (d,wv) wv t) λr=>WK wv.p A (K+1) r.2:=by
  intro b c d t v;unfold BF.J6 BF.J7 BF.J9;refine tI (λn=>Hy (Kb h _ _ _ _) λ_=>tI (λ_=>tR W) λ_=>tB (z (v n)) λ_ _=>tG (by omega) λx _=>tB (I _ _ _) ?_) λ_=> ?_
  . rintro⟨e,_⟩ rfl
    repeat' first|exact tR W|refine Hy (Hq _) λ_=> ?_|refine tI (λ_=> ?_) λ_=> ?_
  . repeat' first|exact tR W|refine Hy (Kb h _ _ _ _) λ_=> ?_|refine Hy (Hq _) λ_=> ?_|refine Hy (NS _ _) λ_=> ?_|exact D _ _|exact q _ _|refine tB (Kq _ _ (by omega)) λ_ _=> ?_|refine tI (λ_=> ?_) λ_=> ?_
 have u:∀(b c d t:Bool),Cc (BF.J3 s (b,wv) (c,wv) (d,wv) wv t) λr=>WK wv.p A (K+1) r.2:=by
  intro b c d t;unfold BF.J3 BF.J4 BF.J5;refine tI (λn=>Hy (Kb h _ _ _ _) λ_=>tI (λ_=>Hy (Hq _) λ_=>Hy (NS _ _) λ_=>tR W) λ_=>tB (I _ _ _) ?_) λ_=> ?_
  . rintro⟨e,_⟩ rfl;exact Hy (Hq _) λ_=>Hy (NS _ _) λ_=>tR W
  . repeat' first|exact tR W|refine Hy (Hq _) λ_=> ?_|exact C _ _ _ _ (λh=>by simp_all)|refine tI (λ_=> ?_) λ_=> ?_
 have j1:∀(b c d t:Bool),Cc (BF.J1 s (b,wv) (c,wv) (d,wv) wv t) λr=>WK wv.p A (K+1) r.2:=by intro b c d t;unfold BF.J1 BF.J2;refine tI (λn=>Hy E λ_=>tR W) λ_=>tI (λ_=>Hy (Kb h _ _ _ _) λ_=>tI (λ_=>Hy (Hq _) λ_=>Hy (NS _ _) λ_=>tR W) λ_=>tB (I _ _ _) ?_) λ_=>tI (λ_=>u _ _ _ _) λ_=>u _ _ _ _;rintro⟨e,_⟩ rfl;exact Hy (Hq _) λ_=>Hy (NS _ _) λ_=>tR W
 unfold BF;refine tB (I _ _ _) ?_;rintro⟨b,w⟩ e;obtain rfl:wv=w:=e.symm;refine tB (I _ _ _) ?_;rintro⟨c,w⟩ e;obtain rfl:wv=w:=e.symm;refine tB (I _ _ _) ?_;rintro⟨d,w⟩ e;obtain rfl:wv=w:=e.symm;refine tI (λ_=> ?_) λ_=>tI (λ_=>j1 _ _ _ _) λ_=>j1 _ _ _ _;refine tI (λ_=>Hy (Kb h _ _ _ _) λ_=>Hy E λ_=>Hy (NS _ _) λ_=>tR W) λhi=>Hy (Kb h _ _ _ _) λ_=> ?_;rcases o.i with e|⟨a,e,m⟩
 . rw[e]at hi;cases hi
 . rw[e];exact tE (y:=a) rfl (Hy (bQ h wv.Be m) λ_=>Hy E λ_=>Hy (NS _ _) λ_=>Hy (NS _ _) λ_=>tR W)
def G6:Nat->Nat
 |0=>0
 |d+1=>1+20*G6 d
theorem mX {p:AU} (h:MP p) (d:Nat):∀(n A K:Nat) (wv:BI) (l:List AR),d+1≤n->A+d≤50->K+10*G6 d≤900000->WK p A K wv->SZ T d l->Cc (Ea n wv l) λr=>WK p A (K+10*G6 d) r.2.2:=by
 induction d with
 |zero=>intro n A K wv l hn B C b ⟨_,h⟩;obtain⟨n,rfl⟩:∃k,n=k+1:=⟨n-1,by omega⟩;have:l=[]:=AA3.2 λx j=>(h x j).elim;subst this;show Cc (B2 (Ea n) wv []) _;exact tR b
 |succ d ih=>
  intro n A K wv l hn B C b ⟨h1,h2⟩;obtain⟨n,rfl⟩:∃k,n=k+1:=⟨n-1,by omega⟩;show Cc (B2 (Ea n) wv l) _;unfold B2;have H:G6 (d+1)=1+20*G6 d:=rfl;refine OR l.length (λi wv=>WK p A (K+i*G6 (d+1)) wv) (F:=λn s i=>B2.AZ _ l n s i) (by omega) (by simpa using b) λm i s hi q k=> ?_;have J:i*G6 (d+1)≤10*G6 (d+1):=AA1 _ (by omega);have o:∀{w},WK p A (K+i*G6 (d+1)) w->WK p A (K+10*G6 (d+1)) w:=λh=>h.mono (by omega);unfold B2.AZ B2.L1 B2.J3;refine tD (λE=>tG (by omega) λx j=>tB (one_tot h q (by omega) (by omega) (h2 x j)) λv f=> ?_) λ_=>tR (o q);have G:(i+1)*G6 (d+1)≤10*G6 (d+1):=AA1 _ (by omega);have I:(i+1)*G6 (d+1)=i*G6 (d+1)+G6 (d+1):=ABM _ _;have u:∀(w:BI) (e c:Int),WK p (A+1) (K+(i+1)*G6 (d+1)) w->Cc (B2.J2 (B2.AZ (Ea n) l m) i w e c) λr=>WK p A (K+10*G6 (d+1)) r.2.2:=by intro w e c b;have D:=b.a;unfold B2.J2;rw[CC (n:=(w.Fi.length:Int)-1) (by omega) (by omega)];have y:WK p A (K+(i+1)*G6 (d+1)) (BI.mk w.p w.Be (w.Fi.take ((w.Fi.length:Int)-1).toNat) w.LS w.Xf):=⟨b.p,by simp;omega,b.s,b.t⟩;exact tC (by omega) (tI (λ_=>tR (y.mono (by omega))) λ_=>k _ (by omega) y)
  have j1:∀e,Cc (B2.J1 (B2.AZ (Ea n) l m) (Ea n) i v x e) λr=>WK p A (K+10*G6 (d+1)) r.2.2:=by intro e;have D:=f.a;unfold B2.J1;refine tI (λ_=>tR (f.mono (by omega))) λ_=>tC (B9 (by omega)) (tG (by simp;omega) λ_ _=> ?_);refine tB (ih n (A+1) (K+i*G6 (d+1)+1) _ _ (by omega) (by omega) (by omega) ⟨f.p,by simp;omega,f.s,f.t⟩ (h2 x j).body) λL g=> ?_;refine tI (λ_=> ?_) λ_=>u _ _ _ (g.mono (by omega));exact tB (ih n (A+1) _ _ _ (by omega) (by omega) (by omega) g (h2 x j).els) λM z=>u _ _ _ (z.mono (by omega))
  exact tI (λ_=>j1 _) λ_=>j1 _
theorem Ym {p:AU} (h:MP p):TT (A4 p):=by have hd:=h.dl;have j:=h.t;have g:G6 4=8421:=rfl;unfold A4;refine Hy (Vv h) λ_=>tI (λ_=>tR trivial) λ_=>Hy (Yp h) λ_=>tI (λ_=>tR trivial) λ_=>tI (λ_=>tR trivial) λ_=>Hy (Uf h) λ_=>tI (λ_=>tR trivial) λ_=> ?_;refine OR p.AA.length (λ_ _=>True) (F:=λn s i=>A4.AZ p n s i) (by omega) trivial λm i s hi _ k=> ?_;unfold A4.AZ A4.L1 A4.J1;refine tD (λ_=>tG (by omega) λx d=>Hy (o9 4 _ _ (Lg (by omega)) (h.b x d)) λ_=>k _ (by omega) trivial) λ_=>tI (λ_=>tR trivial) λ_=> ?_;refine OR p.AA.length (λi w=>WK p 0 (i*84210) w) (F:=λn s i=>A4.DI p n s i) (by omega) ⟨rfl,rfl,by simp,by simp⟩ λm i s hi c k=> ?_;unfold A4.DI A4.L2 A4.J2;refine tD (λf=>tG (by omega) λx d=> ?_) λ_=>tR trivial;refine tB (mX h 4 _ 0 (i*84210) _ _ (Lg (by omega)) (by omega) (by omega) ⟨c.p,c.a,c.s,c.t⟩ (h.b x d)) λv e=>tI (λ_=>tR trivial) λ_=>k _ (by omega) (e.mono (by omega))
end
section
variable {T:ABi->Prop}
structure MK1 (N i:Nat) (m:AO) (p:AU):Prop where
 t:Ix m.t
 h:m.held=[]
 d:Ed=some p.Decls
 n:p.AA.length=i
 b:∀t∈p.AA,SZ (λs=>s∈La.take N) 4 t.Body
 nm:p.AA.map (·.Name)=La.take i
 lo:∀t∈p.AA,t.Fh=YG
theorem take_thr {i:Nat} (h:i<La.length):La.take i++[La[i]]=La.take (i+1):=AAX h
abbrev MPO (p:AU):Prop:=MP p/\∃l,A4 p=some (0,l)
theorem bT {l:List Int} (V:l.length≤4000000000000000000) (W:∀x∈l,0≤x/\x<256):Cc (Bs l) MPO:=by
 have hd:∃D,Ed=some D:=⟨_,rfl⟩;obtain⟨D,o⟩:=hd;have J:La.length=4:=rfl;unfold Bs;refine tE o (tB (GU (t:=⟨l,0⟩) ⟨V,by simp,W⟩ (by omega)) ?_);rintro⟨v,G⟩ ⟨X,r⟩;simp only at X r;have O:Aq (2+v)=2+v:=CC (by omega) (by omega);refine OR (2+v).toNat (λi (s:AO×AU)=>MK1 (2+v).toNat i s.1 s.2) (F:=λn s i=>Bs.AZ (v,G) n s.1 s.2 i) (by omega) (s0:=(_,_)) ⟨r,rfl,o,rfl,by simp,rfl,by simp⟩ λn i s hi f k=> ?_;unfold Bs.AZ Bs.L1;simp only[O]
 -- the end
 have Z:¬(i:Int)<2+v->Cc (Bs.J5 s.2) MPO:=by
  intro bB;have hi:i=(2+v).toNat:=by omega
  have N:MP s.2:=⟨f.d,by have:=f.n;omega,λt C=>by rw[f.lo t C];simp[YG],by rw[f.nm,hi];exact f.b,⟨i,by omega,by omega,f.nm⟩,f.lo⟩;unfold Bs.J5 JV Eh;obtain⟨q,B,_⟩:=Ym N;refine tE B (tI (λ_=>tE o ?_) λh=>tR ⟨N,q.2,B.trans (congrArg some (Prod.ext (by simpa using h) rfl))⟩);simp only[AAF];have key:Ed.bind (λD=>A4 ⟨D,[⟨⟨#[109,97,105,110]⟩,0,[⟨#[97]⟩,⟨#[98]⟩],[⟨1,0,⟨#[120]⟩,⟨#[]⟩,[],⟨1,1,⟨#[]⟩,[]⟩,[],[]⟩]⟩]⟩)=some (0,0):=by decide +kernel
  rw[o,AAF]at key;refine tR ⟨⟨o,by simp,by simp,?_,⟨1,by omega,by omega,rfl⟩,by simp[YG]⟩,0,key⟩;simp only[AAh,forall_eq];refine⟨by simp,?_⟩;simp only[AAh,forall_eq];exact Kz (.inl ⟨rfl,rfl⟩) (Wz (by decide)) _
 have E:∀m t,(hi:i<(2+v).toNat)->Ix m.t->m.held=[]->(t.Fh=YG/\t.Name=La[i]'(by omega))->SZ (λs=>s∈La.take (2+v).toNat) 4 t.Body->Cc (Bs.J3 (λm p i=>Bs.AZ (v,G) n m p i) i s.2 m t) MPO:=by
  intro m t g j I u J;unfold Bs.J3 Bs.J4;have hn:=f.n;refine tC (B9 (by omega)) (k (m,_) g ⟨j,I,f.d,by simp;omega,?_,?_,?_⟩)
  . simp only[AAa,AAh];rintro x (e|rfl)
    . exact f.b x e
    . exact J
  . simp only[AAv,f.nm,AAb,AAy,u.2];exact take_thr _
  . simp only[AAa,AAh];rintro x (e|rfl)
    . exact f.lo x e
    . exact u.1
 have j1:∀t,(hi:i<(2+v).toNat)->(t.Fh=YG/\t.Name=La[i]'(by omega))->t.Body.length≤3->(∀x∈t.Body,Ha (λs=>s∈La.take (2+v).toNat) 4 x)->Cc (Bs.J1 (λm p i=>Bs.AZ (v,G) n m p i) i s.1 s.2 t) MPO:=by
  intro t g j I u;have M:s.1.held=[]:=f.h;unfold Bs.J1;refine tB (GU f.t (by omega)) λa U=> ?_;rw[CC (n:=1+a.1) (by omega) (by omega)];have K:=Bn;obtain⟨R,z⟩:∃n,Bg=n+1:=⟨Bg-1,by omega⟩;rw[z];refine tB ((made_tot (T:=λs=>s∈La.take (2+v).toNat) 2 0 R (by omega) (by omega) (by omega)).2 (AO.mk a.2 i s.1.left s.1.HB s.1.tx s.1.atomic s.1.loop s.1.held) (1+a.1) ⟨U.2,by rw[show _=s.1.held from rfl,M];simp⟩ (by omega)) λb K=> ?_;obtain⟨⟨g1,S⟩,y⟩:=K;have H:b.2.held=[]:=y.h.trans M;have w:∀x∈t.Body++b.1,Ha (λs=>s∈La.take (2+v).toNat) 4 x:=λx e=>(AAa.1 e).elim (u x) (S x);refine tC (B9 (by omega)) (tI (λ_=>tB (GU y.t (by omega)) λc L=> ?_) λ_=> ?_)<;>unfold Bs.J2
  . refine tI (λ_=>tC (B9 (by simp;omega)) (E _ _ g L.2 H j ⟨by simp;omega,?_⟩)) λ_=>E _ _ g L.2 H j ⟨by simp;omega,w⟩;intro x e;rcases AAa.1 e with e|e
    . exact w x e
    . rw[AAh.1 e];refine O4 (by decide) (by decide) (by decide) ⟨by simp,by simp,by simp,λ_=> ?_,by simp,by simp⟩;exact List.mem_take_iff_getElem.2 ⟨1,by omega,rfl⟩
  . exact tI (λh=>by cases h) λ_=>E _ _ g y.t H j ⟨by simp;omega,w⟩
 refine tD (λh=>YX (l:=La) (by omega) (tI (λ_=> ?_) λ_=>j1 _ (by omega) ⟨rfl,rfl⟩ (by simp) (by simp))) Z;refine tLk (2+v).toNat 1 (λk (t:Cj)=>(t.Fh=YG/\t.Name=La[i]'(by omega))/\t.Body.length+1≤k/\∀x∈t.Body,Ha (λs=>s∈La.take (2+v).toNat) 4 x) (F:=λn t k=>Bs.DI _ _ _ _ _ n t k) (by omega) (by omega) ⟨⟨rfl,rfl⟩,by simp,by simp⟩ λm q t B C k2=> ?_;obtain⟨P,t2,Q⟩:=C;unfold Bs.DI Bs.L2;simp only[O];refine tD (λ_=>YX (l:=La) (by omega) (tC (B9 (by omega)) (k2 _ (by omega) ⟨P,by simp;omega,?_⟩))) λ_=>j1 _ (by omega) P (by omega) Q;intro x e;rcases AAa.1 e with e|e
 . exact Q x e
 . rw[AAh.1 e];refine O4 (by decide) (by decide) (by simp) ⟨by simp,by simp,by simp,λ_=> ?_,by simp,by simp⟩;exact List.mem_take_iff_getElem.2 ⟨q,by omega,rfl⟩
theorem Xw {l:List Int} (a:l.length≤1000):Cc (EY l) λr=>r.length≤l.length:=by unfold EY;refine OR l.length (λi (s:List BJ)=>s.length≤i) (F:=λn s i=>EY.AZ l n s i) (by omega) (by simp) λn i s hi b k=> ?_;unfold EY.AZ EY.L1 EY.J1;exact tD (λ_=>tG (by omega) λx _=>tC (B9 (by omega)) (k _ (by omega) (by simp;omega))) λ_=>tR (by omega)
theorem tX (d:Nat):∀(n K:Nat) (o:List DS) (t a:Int) (l:List AR),d+1≤n->K+10*G6 d≤900000->o.length≤K->SZ T d l->Cc (GC n o t a l) λr=>r.1.length≤K+10*G6 d:=by
 induction d with
 |zero=>intro n K o t a l hn e b ⟨_,h⟩;obtain⟨n,rfl⟩:∃k,n=k+1:=⟨n-1,by omega⟩;have:l=[]:=AA3.2 λx c=>(h x c).elim;subst this;show Cc (Cv (GC n) o t a []) _;exact tR b
 |succ d ih=>intro n K o t a l hn e b ⟨h1,h2⟩;obtain⟨n,rfl⟩:∃k,n=k+1:=⟨n-1,by omega⟩;show Cc (Cv (GC n) o t a l) _;unfold Cv;have p:G6 (d+1)=1+20*G6 d:=rfl;refine OR l.length (λi (s:List DS×Int)=>s.1.length≤K+i*G6 (d+1)) (F:=λm s i=>Cv.AZ _ l t m s.1 s.2 i) (s0:=(o,a)) (by omega) (by simpa using b) λm i s hi y k=> ?_;have u:i*G6 (d+1)≤10*G6 (d+1):=AA1 _ (by omega);unfold Cv.AZ Cv.L1 Cv.J1;refine tD (λg=>tG (by omega) λx c=>tC (B9 (by omega)) ?_) λ_=>tR (by simp only;omega);have j:(i+1)*G6 (d+1)≤10*G6 (d+1):=AA1 _ (by omega);have q:(i+1)*G6 (d+1)=i*G6 (d+1)+G6 (d+1):=ABM _ _;refine tB (ih n (K+i*G6 (d+1)+1) _ _ _ _ (by omega) (by omega) (by simp;omega) (h2 x c).body) λv f=> ?_;refine tB (ih n _ _ _ _ _ (by omega) (by omega) f (h2 x c).els) λw b=>k (_,_) (by omega) (by simp only;omega)
structure MW (w:AD):Prop where
 q:Cc (Bi w qS) λr=>0≤r/\r<w.Cells.length
 c:w.Cells.length≤100
 l:w.AG.length≤100
 d:w.Af.length≤100
 f:w.AH.length≤100
 t:w.AA.length≤4
def Kf:List DR:=[⟨⟨#[120]⟩,0,0,false,0⟩,⟨⟨#[121]⟩,0,0,false,1⟩,⟨⟨#[118]⟩,0,0,true,0⟩,⟨⟨#[113]⟩,0,2,false,0⟩,⟨⟨#[113]⟩,1,2,false,0⟩]
theorem Yc {p:AU} (h:MP p) (j:∃l,A4 p=some (0,l)):Cc (Br p) MW:=by
 obtain⟨l,j⟩:=j;have B:=h.t;have z:G6 4=8421:=rfl;unfold Br;refine tE j (tI (λh=>by cases h) λ_=> ?_);have key:∀D T,Ed=some D->Br.AZ ⟨D,T⟩ Bg (AD.mk [] [] [] [] [] []) 0=Br.J4 ⟨D,T⟩ ⟨Kf,[⟨⟨#[109]⟩,false⟩,⟨⟨#[110]⟩,false⟩,⟨⟨#[114]⟩,true⟩],[⟨⟨#[99]⟩,0⟩],[⟨#[102]⟩],[],[]⟩:=by
  intro D T m;unfold Ed at m;obtain rfl:=AAJ m
  kernel_rfl
 rw[show Br.AZ p Bg (AD.mk [] [] [] [] [] []) 0=_ from key p.Decls p.AA h.d];unfold Br.J4;rw[show AU.mk p.Decls p.AA=p from rfl];refine OR p.AA.length (λi w=>w.BL.length≤i*84210/\w.AA.length=i/\w.Cells=Kf/\w.AG.length=3/\w.Af.length=1/\w.AH.length=1) (F:=λn s i=>Br.GL _ n s i) (by omega) ⟨by simp,rfl,rfl,rfl,rfl,rfl⟩ λn i w hi e k=> ?_;obtain⟨q,E,g,r,u,y⟩:=e;unfold Br.GL Br.L3 Br.J5;refine tD (λ_=>tG (by omega) λx o=>tC (B9 (by omega)) (tB (tX 4 _ (i*84210) _ _ _ _ (Lg (by omega)) (by omega) q (h.b x o)) λv C=>k _ (by omega) ⟨by simp only;omega,by simp;omega,g,r,u,y⟩)) λ_=>tR ⟨?_,by rw[g];decide,by omega,by omega,by omega,by omega⟩;rw[g];have a:∀w:AD,w.Cells=Kf->Bi w qS=some 3:=by
  intro w e;obtain⟨c,l,d,f,t,s⟩:=w;simp only at e;subst e
  kernel_rfl
 exact⟨3,a w g,by omega,by decide⟩
end
section
variable {T:ABi->Prop}
structure GS (g:A8) (n:Nat) (r:A8):Prop where
 w:r.w=g.w
 l:r.locals=g.locals
 a:g.out.length≤r.out.length
 b:r.out.length≤g.out.length+n
structure GB (g:A8) (n:Nat):Prop where
 w:MW g.w
 l:g.locals.length≤2
 n:g.out.length+n≤8000000
theorem GS.refl (g:A8) (n:Nat):GS g n g:=⟨rfl,rfl,by omega,by omega⟩
theorem GS.trans {g h r:A8} {m n k:Nat} (a:GS g m h) (b:GS h n r) (c:m+n≤k):GS g k r:=⟨b.w.trans a.w,b.l.trans a.l,by have:=a.a;have:=b.a;omega,by have:=a.b;have:=b.b;omega⟩
theorem GB.next {g h:A8} {m n k:Nat} (a:GB g k) (s:GS g m h) (c:m+n≤k):GB h n:=⟨by rw[s.w];exact a.w,by rw[s.l];exact a.l,by have:=s.b;have:=a.n;omega⟩
theorem GB.less {g:A8} {n k:Nat} (a:GB g k) (b:n≤k):GB g n:=a.next (GS.refl g 0) (by omega)
theorem Pm {g:A8} (h:GB g 1) (i:Ac):Cc (A5 g i) λr=>GS g 1 r/\r.out.length=g.out.length+1:=by have:=h.n;unfold A5;exact tC (B9 (by omega)) (tR ⟨⟨rfl,rfl,by simp,by simp⟩,by simp⟩)
theorem Hs {g:A8} (h:GB g 1) (i:Ac):Cc ((A5 g i).bind λv=>some v) (GS g 1):=tB (Pm h i) λ_ h=>tR h.1
theorem Vn {w:AD} (h:MW w) (s:ABi):TT (Bi w s):=by have a:=h.c;unfold Bi;refine tL w.Cells.length (by omega) λn i hi k=> ?_;unfold Bi.AZ Bi.L1 Bi.J1;exact tD (λ_=>tG (by omega) λx _=>tI (λ_=>tR trivial) λ_=>k (by omega)) λ_=>tR trivial
theorem lK {w:AD} (h:MW w) (s:ABi):TT (Dq w.AG s):=by have a:=h.l;unfold Dq;refine tL w.AG.length (by omega) λn i hi k=> ?_;unfold Dq.AZ Dq.L1 Dq.J1;exact tD (λ_=>tG (by omega) λx _=>tI (λ_=>tR trivial) λ_=>k (by omega)) λ_=>tR trivial
theorem yQ {g:A8} (h:MW g.w) (s:ABi):Cc (CO g s) λr=>r.2=g:=by have a:=h.d;unfold CO;refine tL g.w.Af.length (by omega) λn i hi k=> ?_;unfold CO.AZ CO.L1 CO.J1;exact tD (λ_=>tG (by omega) λx _=>tI (λ_=>tR rfl) λ_=>k (by omega)) λ_=>tR rfl
theorem cR {w:AD} (h:MW w) {s:ABi} (b:s=qS) {a:Type} {f:Int->DR->ABh a} {Q:a->Prop} (k:∀i c,Cc (f i c) Q):Cc ((Bi w s).bind λi=>(gt w.Cells i).bind (f i)) Q:=by rw[b];exact tB h.q λi hi=>tG hi λc _=>k i c
theorem uF (d:Nat):∀(n:Nat) (g:A8) (e:BA) (r:Int),d≤n->SX d e->GB g (3^d)->Cc (Ch n g e r) (GS g (3^d)):=by
 induction d with
 |zero=>exactλn g e r _ h=>h.elim
 |succ d ih=>
  intro n g e r hn z j;obtain⟨n,rfl⟩:∃k,n=k+1:=⟨n-1,by omega⟩;have F:3^(d+1)=3*3^d:=by rw[Nat.pow_succ];omega
  have E:0<3^d:=Nat.pow_pos (by omega);show Cc (Fm (Ch n) g e r) _;have up:∀{r},GS g 1 r->GS g (3^(d+1)) r:=λh=>h.trans (GS.refl _ 0) (by omega);unfold Fm;rcases z with⟨f,_⟩|⟨f,_⟩|⟨f,t,a,p,q⟩|⟨f,a,b,p,q,x⟩
  . simp only[f];exact tI (λ_=>tM (Hs (j.less (by omega)) _) λ_=>up) λh=>by cases h
  . simp only[f];refine tI (λh=>by cases h) λ_=>tI (λ_=>tB (NA _ _ (by have:=j.l;omega)) λ_ _=>tI (λ_=>tM (Hs (j.less (by omega)) _) λ_=>up) λ_=> ?_) λh=>(by cases h);exact Hy (Vn j.w _) λ_=>tM (Hs (j.less (by omega)) _) λ_=>up
  . simp only[f,p];refine tI (λh=>by cases h) λ_=>tI (λh=>by cases h) λ_=>tI (λ_=>tE (y:=a) rfl ?_) λh=>(by cases h);refine tB (ih n g a r (by omega) q (j.less (by omega))) λv m=> ?_;have o:GB v 1:=j.next m (by omega);exact cR o.w t λi c=>tM (Hs o _) λ_ h=>m.trans h (by omega)
  . have B:e.Op≠1:=λh=>(by rw[h]at f;simp at f);have C:e.Op≠2:=λh=>(by rw[h]at f;simp at f);have D:e.Op≠3:=λh=>(by rw[h]at f;simp at f);rw[AAO (by simpa using B),AAO (by simpa using C),AAO (by simpa using D),p];refine tI (λh=>by cases h) λ_=>tE (y:=a) rfl (tB (ih n g a r (by omega) q (j.less (by omega))) λv m=>tE (y:=b) rfl (tB (ih n v b _ (by omega) x (j.next m (by omega))) λu s=> ?_));exact tM (Hs (j.next (m.trans s (AAr _)) (by omega)) _) λ_ h=>(m.trans s (AAr _)).trans h (by omega)
theorem TU {g:A8} {e:BA} (a:SX 2 e) (b:GB g 9) (r:Int):Cc (Ch Bg g e r) (GS g 9):=uF 2 _ g e r (Lg (by omega)) a b
theorem jB {g:A8} (e:GB g 30) {k:Nat} {s:AR} (j:Ha T (k+1) s) (o:s.Op=1):Cc (FG g s) (GS g 30):=by
 have f:SX 2 s.Expr:=j.2.2.1.resolve_right λh=>h.1 (by simp[o]);unfold FG;rcases j.2.1 with h|⟨_,p,a,h,n⟩
 . rw[h];refine tI (λh=>by cases h) λ_=>tB (TU f (e.less (by omega)) _) λv d=> ?_;have b:GB v 1:=e.next d (by omega);refine tB (NA _ _ (by have:=b.l;omega)) λ_ _=>tI (λ_=>tM (Hs b _) λ_ h=>d.trans h (by omega)) λ_=>Hy (Vn b.w _) λ_=>tM (Hs b _) λ_ h=>d.trans h (by omega)
 . rw[h];refine tI (λ_=>tE (y:=a) rfl ?_) λh=>(by cases h);refine tB (TU n (e.less (by omega)) _) λv d=>tB (TU f (e.next d (by omega)) _) λu m=> ?_;have b:GB u 1:=e.next (d.trans m (AAr _)) (by omega);exact cR b.w p λi c=>tM (Hs b _) λ_ h=>(d.trans m (AAr _)).trans h (by omega)
def cg:Nat->Nat
 |0=>0
 |d+1=>40+20*cg d
theorem GS.site {g r:A8} {n:Nat} (h:GS g n r) (a b:Int):GS g n ⟨r.w,r.locals,r.out,a,b⟩:=⟨h.w,h.l,h.a,h.b⟩
theorem GS.set {g r:A8} {n:Nat} (h:GS g n r) (i:Nat) (x:Ac) (a b:Int):GS g n ⟨r.w,r.locals,r.out.set i x,a,b⟩:=⟨h.w,h.l,by simpa using h.a,by simpa using h.b⟩
section
variable {R:A8->List AR->ABh A8} {g:A8} {s:AR} {n:Nat}
theorem iX (d:GB g (n+2)) (i:∀g,GB g n->Cc (R g s.Body) (GS g n)) (a b c:Int):Cc (C7 R g s a b c) (GS g (n+2)):=by unfold C7;refine tB (Pm (d.less (by omega)) _) λv f=>tB (i v (d.next f.1 (by omega))) λu j=> ?_;have e:GS g (n+1) ⟨u.w,u.locals,u.out,g.site,u.next⟩:=(f.1.trans j (by omega)).site _ _;exact tM (Hs (d.next e (by omega)) _) λ_ h=>e.trans h (by omega)
theorem Zh (b:GB g (2*n+11)) (r:SX 2 s.Expr) (q:∀g,GB g n->Cc (R g s.Body) (GS g n)) (p:∀g,GB g n->Cc (R g s.Else) (GS g n)):Cc (Cq R g s) (GS g (2*n+11)):=by
 unfold Cq;refine tB (TU r (b.less (by omega)) _) λv j=>tB (Pm (b.next j (by omega)) _) λu i=> ?_;have e:GS g 10 u:=j.trans i.1 (by omega);refine tB (q u (b.next e (by omega))) λx k=> ?_;have f:GS g (n+10) x:=e.trans k (by omega);have t:=i.2;have w:=k.a;have d:=f.site g.site x.next;refine tI (λ_=>tB (Pm (b.next d (by omega)) _) λy c=>tG ?_ λ_ _=>tR ?_) λ_=>tI (λ_=>tG ?_ λ_ _=>tR ?_) λ_=>tB (Pm (b.next d (by omega)) _) λy c=>tG ?_ λ_ _=> ?_
 . have:=c.2;simp only at this;omega
 . exact((d.trans c.1 (AAr _)).set _ _ _ _).trans (GS.refl _ 0) (by omega)
 . omega
 . exact(f.set _ _ _ _).trans (GS.refl _ 0) (by omega)
 . have:=c.2;simp only at this;omega
 . have h:=(d.trans c.1 (AAr _)).set v.out.length (Ac.mk (‹Ac›).Op (‹Ac›).A (y.out.length:Int) (‹Ac›).C (‹Ac›).N (‹Ac›).Site) y.site y.next;refine tB (p _ (b.next h (by omega))) λz l=>tG ?_ λ_ _=>tR (((h.trans l (AAr _)).set _ _ _ _).trans (GS.refl _ 0) (by omega));have m:=c.2;have o:=l.a;simp only[List.length_set]at m o;omega
variable {R1:A8->AR->ABh A8} {R2:A8->AR->Int->Int->Int->ABh A8}
theorem rO (hn:30≤n) (j:GB g n) {k:Nat} (o:Ha T (k+1) s) (u:SX 2 s.Expr->∀g,GB g n->Cc (R1 g s) (GS g n)) (x:∀g a b c,GB g n->Cc (R2 g s a b c) (GS g n)):Cc (CY R1 R2 g s) (GS g n):=by
  have D:=j.l;have C:=j.w.f;have E:=j.w.t;have d:GB (A8.mk g.w g.locals g.out g.next (Aq (g.next+1))) n:=j.next ((GS.refl g 0).site _ _) (by omega);have up:∀{r},GS (A8.mk g.w g.locals g.out g.next (Aq (g.next+1))) n r->GS g n r:=λh=>⟨h.w,h.l,h.a,h.b⟩;have e:∀{m r},m≤n->GS (A8.mk g.w g.locals g.out g.next (Aq (g.next+1))) m r->GS g n r:=λz h=>up (h.trans (GS.refl _ 0) z);have A:∀a b c,Cc ((R2 (A8.mk g.w g.locals g.out g.next (Aq (g.next+1))) s a b c).bind λv=>some v) (GS g n):=λa b c=>tB (x _ a b c d) λ_ h=>tR (up h);have P:∀i,Cc ((A5 (A8.mk g.w g.locals g.out g.next (Aq (g.next+1))) i).bind λv=>some v) (GS g n):=λi=>tM (Hs (d.less (by omega)) i) λ_ h=>e (by omega) h;have j1:∀b,(b=true->s.Op∈[(2:Int),3])->Cc (CY.J1 R1 R2 g s b) (GS g n):=by
    intro b y;unfold CY.J1;refine tI (λh=>tB (u (o.2.2.1.resolve_right λq=>q.1 ?_) _ d) λ_ h=>tR (up h)) λ_=> ?_
    . have:=y h;simp at this ⊢;omega
    repeat' first
      |exact A _ _ _
      |exact P _
      |exact tR (up (GS.refl _ _))
      |refine tI (λB=>tB (TU (o.2.2.1.resolve_right λq=>q.1 (by have:=eq_of_beq B;simp[this])) (d.less (by omega)) _) λv p=>tB (NA _ _ (by rw[p.w];simp only;omega)) λ_ _=>tM (Hs (d.next p (by omega)) _) λ_ h=>e (by omega) (p.trans h (AAr _))) λ_=> ?_
      |refine tI (λ_=> ?_) λ_=> ?_
      |refine Hy (lK j.w _) λ_=> ?_
      | (refine tB (yQ d.w _) ?_
         rintro⟨i,w⟩ rfl)
      |refine tB (NA _ _ (by omega)) λ_ _=> ?_
  unfold CY;refine tI (λh=>tB (jB (d.less (by omega)) o (eq_of_beq h)) λ_ h=>tR (e (by omega) h)) λ_=>tI (λh=>j1 _ λ_=> ?_) λ_=>j1 _ λh=> ?_
  . simp[eq_of_beq h]
  . simp[eq_of_beq h]
end
theorem WS (d:Nat):∀(n:Nat) (g:A8) (l:List AR),3*d+1≤n->GB g (10*cg d)->SZ T d l->Cc (DF n g l) (GS g (10*cg d)):=by
 induction d with
 |zero=>intro n g l hn e ⟨_,h⟩;obtain⟨n,rfl⟩:∃k,n=k+1:=⟨n-1,by omega⟩;have:l=[]:=AA3.2 λx f=>(h x f).elim;subst this;show Cc (B7 (N0 n) g []) _;exact tR (GS.refl _ _)
 |succ d ih=>
  intro n g l hn e ⟨h1,h2⟩;obtain⟨n,rfl⟩:∃k,n=k+3:=⟨n-3,by omega⟩;show Cc (B7 (CY (Cq (DF n)) (C7 (DF n))) g l) _;have w:cg (d+1)=40+20*cg d:=rfl;unfold B7;refine OR l.length (λi s=>GS g (i*cg (d+1)) s) (F:=λm s i=>B7.AZ _ l m s i) (by omega) (GS.refl _ _) λm i s hi j k=> ?_;have y:i*cg (d+1)≤10*cg (d+1):=AA1 _ (by omega);unfold B7.AZ B7.L1;refine tD (λt=>tG (by omega) λx f=> ?_) λ_=>tR (j.trans (GS.refl _ 0) (by omega));have u:(i+1)*cg (d+1)≤10*cg (d+1):=AA1 _ (by omega);have p:(i+1)*cg (d+1)=i*cg (d+1)+cg (d+1):=ABM _ _;have o:∀g,GB g (10*cg d)->Cc (DF n g x.Body) (GS g (10*cg d)):=λg e=>ih n g _ (by omega) e (h2 x f).body;have q:∀g,GB g (10*cg d)->Cc (DF n g x.Else) (GS g (10*cg d)):=λg e=>ih n g _ (by omega) e (h2 x f).els;refine tB (rO (n:=cg (d+1)) (by omega) (e.next j (by omega)) (h2 x f) (λp g e=> ?_) λg a b c e=> ?_) λv r=>k _ (by omega) (j.trans r (by omega))
  . exact tM (Zh (n:=10*cg d) (e.less (by omega)) p o q) λ_ h=>h.trans (GS.refl _ 0) (by omega)
  . exact tM (iX (n:=10*cg d) (e.less (by omega)) o a b c) λ_ h=>h.trans (GS.refl _ 0) (by omega)
def rg (i:Ac):List Int:=(AY i).getD []
theorem EX (i:Ac):AY i=some (rg i)/\(rg i).length≤3:=by
 have key:Cc (AY i) λr=>r.length≤3:=by
  unfold AY AY.J1 AY.J2 AY.J3
  repeat' first|exact tR (by simp)|refine tI (λ_=> ?_) λ_=> ?_
 obtain⟨r,a,b⟩:=key;unfold rg;rw[a];exact⟨rfl,b⟩
structure CK (c:BB):Prop where
 n:c.AA.length≤4
 i:∀t∈c.AA,t.Aw.length≤8000000
theorem cY {p:AU} (h:MP p):Cc (As p) λr=>CK r.1:=by
 have a:=h.t;have M:cg 4=336840:=rfl;unfold As;obtain⟨v,c,_⟩:=Ym h;refine tE c (tI (λ_=>tR ⟨by simp,by simp⟩) λf=>tB (Yc h ⟨v.2,?_⟩) λw I=> ?_)
 . rw[c];have:v.1=0:=(by simpa using f);rw[← this]
 refine OR p.AA.length (λi (s:BB×Int)=>s.1.World=w/\s.1.AA.length=i/\∀t∈s.1.AA,t.Aw.length≤8000000) (F:=λn s i=>As.AZ p n s.1 s.2 i) (s0:=(_,_)) (by omega) ⟨rfl,rfl,by simp⟩ λn i s hi G k=> ?_;obtain⟨o,O,B⟩:=G;unfold As.AZ As.L1 As.J4;refine tD (λ_=>tG (by omega) λx j=> ?_) λ_=>tR ⟨by simp only;omega,B⟩;have D:=h.l x j;have g:GB (A8.mk s.1.World x.Fh [] 0 s.2) 4000000:=⟨by rw[o];exact I,D,by simp⟩;refine tB (WS 4 _ _ _ (Lg (by omega)) (g.less (by omega)) (h.b x j)) λv c=> ?_;refine tB (Pm (g.next (c.site (-1) v.next) (by omega)) _) λu H=> ?_;have e:=H.2;have C:=c.b;simp only[ABA]at e C;refine OR u.out.length (λ_ (t:Al)=>t.Aw=u.out) (F:=λn t k=>As.DI _ _ _ _ _ n t k) (by omega) rfl λm q t E a J=> ?_;unfold As.DI As.L2 As.J2 As.J3;refine tD (λ_=>tG (by omega) λy _=> ?_) λ_=>tC (B9 (by omega)) (k (_,_) (by omega) ⟨o,by simp;omega,?_⟩)
 . obtain⟨L,N⟩:=EX y;refine tE L (OR (rg y).length (λ_ (t:Al)=>t.Aw=u.out) (F:=λn t k=>As.GL _ _ _ n t k) (by omega) a λm q t E a K=> ?_);unfold As.GL As.L3 As.J1;exact tD (λ_=>tG (by omega) λ_ _=>K _ (by omega) a) λ_=>J _ (by omega) a
 . intro z d;rcases AAa.1 d with d|d
   . exact B z d
   . rw[AAh.1 d,a];omega
end
theorem take_one {b:Type} {l:List b} {i:Nat} (h:i<l.length) {P:b->Prop} (c:∀x∈l.take i,P x) (d:P l[i]):∀x∈l.take (i+1),P x:=by
 intro x a;rw[← AAX h]at a;rcases AAa.1 a with a|a
 . exact c x a
 . rw[AAh.1 a];exact d
theorem Ue {a:Type} {l:List a} {i:Nat} (h:l.length≤i) {P:a->Prop} (b:∀x∈l.take i,P x):∀x∈l,P x:=by rwa [AAs h]at b
theorem F8 {a:Type} {l:List a} {i:Int} (h:0≤i/\i<l.length):∃x,gt l i=some x/\l[i.toNat]? =some x/\x∈l:=by
 have:i.toNat<l.length:=by omega
 exact⟨l[i.toNat],by simp[gt,h.1,this],by simp[this],AAW this⟩
theorem LF (i n:Int):Cc (DL i n) λb=>b=true->0≤i/\i<n:=by unfold DL DL.J1;exact tD (λh=>tR λa=>⟨h,AAT a⟩) λ_=>tR λh=>by cases h
def Qm (w:AD) (b n:Int):Prop:=∃x,gt w.Cells b=some x/\x.Index=0/\x.CG≠0/\x.CG=n
theorem Yh (w:AD) (b n:Int):Cc (Ei w b n) λr=>r=true->Qm w b n:=by
 have N:∀{g:Prop},Cc (some false) λb:Bool=>b=true->g:=tR λh=>by cases h
 unfold Ei Ei.J1;refine tB (LF _ _) λv f=>tI (λh=> ?_) λ_=>N;obtain⟨x,a,_⟩:=F8 (f h);exact tE a (tI (λc=>tI (λd=>tR λe=>⟨x,a,eq_of_beq c,by simpa using d,eq_of_beq e⟩) λ_=>N) λ_=>N)
theorem eG (w:AD) (i:Ac):Cc (AL w i) λb=>b=true->(i.Op=7->Qm w i.B i.N)/\(i.Op=9->Qm w i.A i.N):=by
 have l:∀b,TT (AL.J8 i w b):=by
  intro b;unfold AL.J8 AL.J9 AL.RX
  repeat' first|exact tR trivial|refine tB (LF _ _) λ_ _=> ?_|refine tI (λ_=> ?_) λ_=> ?_
 have k:∀b,TT (AL.J7 i w b):=by
  intro b;unfold AL.J7
  repeat' first|exact tR trivial|exact l _|refine tB (LF _ _) λ_ _=> ?_|refine tI (λ_=> ?_) λ_=> ?_
 have j:∀b,TT (AL.J5 i w b):=by
  intro b;unfold AL.J5 AL.J6;refine tI (λ_=>tB (LF _ _) λv a=>tI (λh=>tG (a h) λx _=>tR trivial) λ_=>tR trivial) λ_=> ?_
  repeat' first|exact k _|refine tI (λ_=> ?_) λ_=> ?_
 have e:∀b,TT (AL.J3 i w b):=by
  intro b;unfold AL.J3 AL.J4;refine tI (λ_=>tB (LF _ _) λv a=>tI (λh=>tG (a h) λx _=>tR trivial) λ_=>tR trivial) λ_=> ?_
  repeat' first|exact j _|refine tI (λ_=> ?_) λ_=> ?_
 unfold AL AL.J1 AL.J2;have M:∀{o:ABh Bool},TT o->i.Op≠7->i.Op≠9->Cc o λb=>b=true->(i.Op=7->Qm w i.B i.N)/\(i.Op=9->Qm w i.A i.N):=λh f g=>tM h λ_ _ _=>⟨λh=>absurd h f,λh=>absurd h g⟩;refine tI (λh=>M (tB (LF _ _) λv a=>tI (λh=>tG (a h) λx _=>tR trivial) λ_=>tR trivial) ?_ ?_) λp=>tI (λh=>M (tB (LF _ _) λv a=>tI (λh=>tG (a h) λx _=>tR trivial) λ_=>tR trivial) ?_ ?_) λq=> ?_
 . rw[eq_of_beq h];decide
 . rw[eq_of_beq h];decide
 . rw[eq_of_beq h];decide
 . rw[eq_of_beq h];decide
 . refine tI (λh=>tB (Yh _ _ _) λv a=>tR λd=>⟨λ_=>a d,λc=> ?_⟩) λm=>tI (λh=>tB (Yh _ _ _) λv a=>tR λd=>⟨λc=> ?_,λ_=>a d⟩) λn=> ?_
   . rw[eq_of_beq h]at c;cases c
   . rw[eq_of_beq h]at c;cases c
   . exact M (tI (λ_=>e _) λ_=>e _) (by simpa using m) (by simpa using n)
def T4 (o:Int):Bool:=decide (1≤o)&&decide (o≤5)
theorem Lb (o:Int):FP o=some (T4 o):=by unfold FP FP.J1 T4;by_cases h:o≥1<;>simp[h]
theorem sL {l:List Ac} (b:l.length≤8000000) (a:Int):TT (Bj l a):=by unfold Bj;refine OR (l.length+1) (λ_ _=>True) (F:=λn s i=>Bj.AZ l n s i) (by omega) trivial λn i s hi _ k=> ?_;unfold Bj.AZ Bj.L1 Bj.J1 Bj.J2 Bj.J3;refine tD (λ_=>tD (λ_=>tR trivial) λ_=>tD (λ_=>tR trivial) λ_=>tG (by omega) λx _=>tE (Lb _) ?_) λ_=>tR trivial;exact tI (λ_=>tR trivial) λ_=>tI (λ_=>k _ (by omega) trivial) λ_=>k _ (by omega) trivial
def Xh (w:AD) (t:Int) (x:Ac):Prop:=if x.Op=28 then x.Site= -1 else∃y,gt w.BL x.Site=some y/\y.Thread=t
structure VI (w:AD) (t R:Int) (x:Ac):Prop where
 o:1≤x.Op/\x.Op≤28
 g:∀y∈rg x,0≤y/\y<R
 s:Xh w t x
 a:(x.Op=7->Qm w x.B x.N)/\(x.Op=9->Qm w x.A x.N)
structure VT (w:AD) (t:Int) (c:Al):Prop where
 r:0≤c.B5/\c.B5≤32
 i:∀x∈c.Aw,VI w t c.B5 x
theorem VQ (w:AD) (t:Int) {c:Al} (E:c.Aw.length≤8000000):Cc (AN w t c) λb=>b=true->VT w t c:=by
 have N:∀{K:Prop},Cc (some false) λb:Bool=>b=true->K:=tR λh=>by cases h
 have j1:∀b,(b=false->0≤c.B5/\c.B5≤32)->Cc (AN.J1 c t w b) λb=>b=true->VT w t c:=by
  intro b p;unfold AN.J1;refine tI (λ_=>N) λD=>OR c.Aw.length (λi (_:Unit)=>∀x∈c.Aw.take i,VI w t c.B5 x) (s0:=()) (F:=λn _ i=>AN.AZ c t w n i) (by omega) (by simp) λn i _ hi r k=> ?_;unfold AN.AZ AN.L1 AN.J6;refine tD (λo=>YX (by omega) ?_) λL=>tR λ_=>⟨p D,Ue (by omega) r⟩;have o:i<c.Aw.length:=by omega
  generalize H:c.Aw[i]=x;have I:∀b,(b=false->(1≤x.Op/\x.Op≤28)/\Xh w t x/\(x.Op=7->Qm w x.B x.N)/\(x.Op=9->Qm w x.A x.N))->Cc (AN.J4 (AN.AZ c t w n) c i x b) λb=>b=true->VT w t c:=by intro b d;unfold AN.J4;refine tI (λ_=>N) λe=>tE (EX x).1 (OR (rg x).length (λi (_:Unit)=>∀y∈(rg x).take i,0≤y/\y<c.B5) (s0:=()) (F:=λn _ i=>AN.DI _ c _ (rg x) n i) (by have:=(EX x).2;omega) (by simp) λm j _ M C J=> ?_);unfold AN.DI AN.L2 AN.J5;refine tD (λ_=>YX (by omega) (tB (LF _ _) λv g=>tI (λ_=>N) λh=>J () (by omega) (take_one (by omega) C (g (by simpa using h))))) λ_=>k () o (take_one o r (by rw[H];exact⟨(d e).1,Ue (by omega) C,(d e).2.1,(d e).2.2⟩))
  have q:∀b,(b=false->(1≤x.Op/\x.Op≤28)/\Xh w t x/\(x.Op=7->Qm w x.B x.N)/\(x.Op=9->Qm w x.A x.N))->Cc (AN.J3 (AN.AZ c t w n) c i x b) λb=>b=true->VT w t c:=by
   intro b d;unfold AN.J3;refine tI (λ_=>N) λe=> ?_
   repeat' first|exact I _ λ_=>d e|refine tB (LF _ _) λ_ _=> ?_|refine tI (λ_=> ?_) λ_=> ?_
  have l:∀b,(b=false->(1≤x.Op/\x.Op≤28)/\(x.Op=7->Qm w x.B x.N)/\(x.Op=9->Qm w x.A x.N))->Cc (AN.J2 (AN.AZ c t w n) c i t w x b) λb=>b=true->VT w t c:=by
   intro b d;unfold AN.J2;refine tI (λ_=>N) λe=> ?_;obtain⟨u,z⟩:=d e;have T:∀b,b=true->Cc (AN.J3 (AN.AZ c t w n) c i x b) λb=>b=true->VT w t c:=λb p=>q b λh=>(by rw[p]at h;cases h);refine tI (λa=>tI (λ_=>T _ rfl) λf=>tI (λh=>by rw[eq_of_beq a]at h;cases h) λ_=>q _ λ_=>⟨u,?_,z⟩) λa=>tI (λ_=> ?_) λh=>by simp at h a;omega
   . unfold Xh;rw[AAP (eq_of_beq a)];simpa using f
   . refine tB (LF _ _) λv g=>tI (λ_=>T _ rfl) λh=> ?_;obtain⟨y,s,_⟩:=F8 (g (by simpa using h));refine tE s (q _ λG=>⟨u,?_,z⟩);unfold Xh;rw[AAO (by simpa using a)];exact⟨y,s,by simpa using G⟩
  refine tD (λ_=>l _ λh=>by cases h) λ_=>tD (λ_=>l _ λh=>by cases h) λ_=> ?_;have d:1≤x.Op/\x.Op≤28:=by omega
  exact tI (λ_=>l _ λh=>by cases h) λ_=>tB (eG _ _) λv g=>tI (λ_=>l _ λh=>by cases h) λh=>Hy (sL E _) λ_=>l _ λ_=>⟨d,g (by simpa using h)⟩
 unfold AN;exact tD (λ_=>j1 _ λh=>by cases h) λ_=>tD (λ_=>j1 _ λh=>by cases h) λ_=>j1 _ λ_=>by omega
structure VC (c:BB):Prop where
 w:Ct c.World=true
 n:c.AA.length=c.World.AA.length
 t:∀(i:Nat) t,c.AA[i]? =some t->VT c.World i t
theorem N8 {c:BB} (g:CK c):Cc (BV c) λb=>b=true->VC c:=by
 have N:∀{p:Prop},Cc (some false) λb:Bool=>b=true->p:=tR λh=>by cases h
 have hn:=g.n;have j1:∀b,(b=false->Ct c.World=true/\c.AA.length=c.World.AA.length)->Cc (BV.J1 c b) λb=>b=true->VC c:=by
  intro b f;unfold BV.J1;refine tI (λ_=>N) λd=>OR c.AA.length (λi (_:Unit)=>∀(j:Nat) x,j<i->c.AA[j]? =some x->VT c.World j x) (s0:=()) (F:=λn _ i=>BV.AZ c n i) (by omega) (λj _ h=>by omega) λn i _ hi l k=> ?_;unfold BV.AZ BV.L1 BV.J2;refine tD (λq=>YX (by omega) (tB (VQ _ _ (g.i _ (AAW (by omega)))) λv o=>tI (λ_=>N) λh=>k () (by omega) ?_)) λ_=>tR λ_=>⟨(f d).1,(f d).2,λj x a=>l j x ?_ a⟩
  . intro j x r a;by_cases e:j<i
    . exact l j x e a
    . obtain rfl:j=i:=(by omega);rw[AAL (by omega)]at a;rw[← AAJ a];exact o (by simpa using h)
  . have:=(AAI.1 a).1;omega
 unfold BV;refine tE (LP _) (tI (λ_=>j1 _ λh=>by cases h) λh=>j1 _ λm=>⟨by simpa using h,?_⟩)
 have:=AAT (by simpa using m:decide ((c.AA.length:Int)=(c.World.AA.length:Int))=true);omega
def Hi {α:Type} (o:ABh α) (Q:α->Prop):Prop:=∀r,o=some r->Q r
theorem pR {a:Type} {r:a} {Q:a->Prop} (h:Q r):Hi (some r) Q:=λ_ e=>by cases e;exact h
theorem pN {a:Type} {Q:a->Prop}:Hi (none:ABh a) Q:=λ_ e=>by cases e
theorem pB {a b:Type} {o:ABh a} {Q:a->Prop} {f:a->ABh b} {R:b->Prop} (h:Hi o Q) (k:∀x,Q x->Hi (f x) R):Hi (o.bind f) R:=by
 intro r e;cases o with
 |none=>cases e
 |some x=>exact k x (h x rfl) r e
theorem pB' {a b:Type} {o:ABh a} {f:a->ABh b} {R:b->Prop} (k:∀x,Hi (f x) R):Hi (o.bind f) R:=pB (Q:=λ_=>True) (λ_ _=>trivial) λx _=>k x
theorem pE {a b:Type} {o:ABh a} {y:a} {f:a->ABh b} {R:b->Prop} (h:o=some y) (k:Hi (f y) R):Hi (o.bind f) R:=by rw[h];exact k
theorem pC {b:Type} {p:Prop} [Decidable p] {a:ABh b} {R:b->Prop} (k:p->Hi a R):Hi (if p then a else none) R:=by
 by_cases h:p
 . rw[AAP h];exact k h
 . rw[AAO h];exact pN
theorem pI {d:Type} {c:Bool} {a b:ABh d} {R:d->Prop} (e:c=true->Hi a R) (f:c=false->Hi b R):Hi (if c=true then a else b) R:=by
 cases c with
 |true=>exact e rfl
 |false=>exact f rfl
theorem pD {c:Type} {p:Prop} [Decidable p] {a b:ABh c} {R:c->Prop} (d:p->Hi a R) (e:¬p->Hi b R):Hi (if decide p=true then a else b) R:=by
 by_cases h:p
 . simpa[h]using d h
 . simpa[h]using e h
theorem pM {a:Type} {o:ABh a} {Q R:a->Prop} (h:Hi o Q) (k:∀x,Q x->R x):Hi o R:=λr e=>k r (h r e)
theorem pT {a:Type} {o:ABh a} {Q:a->Prop} (h:Cc o Q):Hi o Q:=by obtain⟨x,rfl,b⟩:=h;exact pR b
theorem pA {a:Type} {o:ABh a} {P Q:a->Prop} (h:Hi o P) (k:Hi o Q):Hi o λr=>P r/\Q r:=λr e=>⟨h r e,k r e⟩
theorem tP {a:Type} {o:ABh a} {P Q:a->Prop} (h:Cc o P) (k:Hi o Q):Cc o λr=>P r/\Q r:=by obtain⟨x,e,b⟩:=h;exact⟨x,e,b,k x e⟩
theorem wA {σ b:Type} {Q:b->Prop} (N:Nat) (I:Nat->σ->Prop) {F:Nat->σ->Int->ABh b} (g:∀s i,F 0 s i=none) (k:N<1000000000000) {s0:σ} (c:I 0 s0)
 (h:∀n (i:Nat) s,i≤N->I i s->(∀a,i<N->I (i+1) a->Hi (F n a (Aq (i+1))) Q)->Hi (F (n+1) s i) Q):Hi (F Bg s0 0) Q:=by
 have key:∀n (i:Nat) s,i≤N->I i s->Hi (F n s i) Q:=by
  intro n;induction n with
  |zero=>intro i s _ _;rw[g];exact pN
  |succ n ih=>intro i s d e;refine h n i s d e λa j f=> ?_;rw[Ai (by omega)];exact ih (i+1) a (by omega) f
 exact key Bg 0 s0 (by omega) c
def StI (l:List Ac) (k m:Nat):Prop:=∃x,l[k]? =some x/\T4 x.Op=true/\(x.Op=5/\x.A=(m:Int)∨x.Op≠5/\m=k+1)
def Pv (l:List Ac) (a b:Nat):Nat->Nat->Nat->Prop
 |0,k,m=>k=m
 |n+1,k,m=>(a≤k/\k<b)/\∃j,StI l k j/\Pv l a b n j m
def Ev (l:List Ac) (m:Nat):Prop:=∃x,l[m]? =some x/\T4 x.Op=false
theorem Pv.frame {l l':List Ac} {a b c d:Nat} (h:∀i,a≤i->i<b->l[i]? =l'[i]?) (f:c≤a) (g:b≤d):∀{n k m},Pv l a b n k m->Pv l' c d n k m
 |0,_,_,e=>e
 |n+1,k,m,⟨⟨h1,h2⟩,j,⟨x,x1,x2⟩,h4⟩=>⟨⟨by omega,by omega⟩,j,⟨x,by rw[← h k h1 h2];exact x1,x2⟩,h4.frame h f g⟩
theorem Pv.trans {l:List Ac} {a b:Nat}:∀{n k m p q},Pv l a b n k m->Pv l a b p m q->Pv l a b (n+p) k q
 |0,_,_,p,_,e,h=>by cases e;rw[ABN];exact h
 |n+1,_,_,p,_,⟨h1,j,h2,h3⟩,h=>by rw[Nat.succ_add];exact⟨h1,j,h2,h3.trans h⟩
theorem Pv.one {l:List Ac} {a b k m:Nat} (h:a≤k/\k<b) (s:StI l k m):Pv l a b 1 k m:=⟨h,m,s,rfl⟩
structure LV (w:AD) (lo hi:Int) (c:Nat) (x:Ac):Prop where
 o:1≤x.Op/\x.Op≤27
 ob:AL w x=some true
 g:∀y∈rg x,0≤y/\y<32
 s:lo≤x.Site/\x.Site<hi
 j:x.Op=5->0≤x.A/\x.A≤c
 b:x.Op=10->0≤x.B/\x.B≤c
structure SG (w:AD) (lo hi:Int) (l:List Ac) (a b c:Nat):Prop where
 h:a≤b/\b≤l.length
 i:∀k x,a≤k->k<b->l[k]? =some x->LV w lo hi c x
 f:∀k,a≤k->k<b->(∃n m,Pv l a b n k m/\(a≤m/\m<b)/\Ev l m/\n+a+1≤b)∨∃n,Pv l a b n k b/\n+k≤b
section
variable {w:AD} {lo hi lo' hi':Int} {l l':List Ac} {a b c d:Nat}
theorem LV.mono {x:Ac} (h:LV w lo hi c x) (a:lo'≤lo) (f:hi≤hi') (i:c≤d):LV w lo' hi' d x:=
 ⟨h.o,h.ob,h.g,⟨by have:=h.s;omega,by have:=h.s;omega⟩,λe=>by have:=h.j e;omega,λe=>by have:=h.b e;omega⟩
theorem SG.frame (h:SG w lo hi l a b c) (e:∀i,a≤i->i<b->l[i]? =l'[i]?) (t:b≤l'.length) (p:lo'≤lo) (q:hi≤hi') (s:c≤d):SG w lo' hi' l' a b d:=by
 refine⟨⟨h.h.1,t⟩,λk x g j u=>(h.i k x g j (by rw[e k g j];exact u)).mono p q s,λk g j=> ?_⟩;rcases h.f k g j with⟨n,m,r,o,⟨x,v,y⟩,hn⟩|⟨n,r,hn⟩
 . exact .inl ⟨n,m,r.frame e (by omega) (by omega),o,⟨x,by rw[← e m o.1 o.2];exact v,y⟩,hn⟩
 . exact .inr ⟨n,r.frame e (by omega) (by omega),hn⟩
theorem SG.mono (h:SG w lo hi l a b c) (e:lo'≤lo) (f:hi≤hi') (g:c≤d):SG w lo' hi' l a b d:=h.frame (λ_ _ _=>rfl) h.h.2 e f g
theorem SG.nil (h:a≤l.length):SG w lo hi l a a c:=⟨⟨by omega,h⟩,λk x _ _=>by omega,λk _ _=>by omega⟩
theorem SG.app {e:Nat} (h:SG w lo hi l a b c) (g:SG w lo hi l b e c):SG w lo hi l a e c:=by
 have B:=h.h;have y:=g.h;refine⟨⟨by omega,y.2⟩,λk x p q u=> ?_,λk p q=> ?_⟩
 . by_cases o:k<b
   . exact h.i k x p o u
   . exact g.i k x (by omega) q u
 . have up:∀{n k m},Pv l b e n k m->Pv l a e n k m:=λr=>r.frame (λ_ _ _=>rfl) (by omega) (by omega);have d:∀{n k m},Pv l a b n k m->Pv l a e n k m:=λr=>r.frame (λ_ _ _=>rfl) (by omega) (by omega);by_cases o:k<b
   . rcases h.f k p o with⟨n,m,r,v,ev,hn⟩|⟨n,r,hn⟩
     . exact .inl ⟨n,m,d r,by omega,ev,by omega⟩
     . by_cases j:b<e
       . rcases g.f b (by omega) j with⟨s,m,t,v,ev,z⟩|⟨s,t,z⟩
         . exact .inl ⟨n+s,m,(d r).trans (up t),by omega,ev,by omega⟩
         . exact .inr ⟨n+s,(d r).trans (up t),by omega⟩
       . have:b=e:=(by omega);subst this;exact .inr ⟨n,d r,by omega⟩
   . rcases g.f k (by omega) q with⟨n,m,r,v,ev,hn⟩|⟨n,r,hn⟩
     . exact .inl ⟨n,m,up r,by omega,ev,by omega⟩
     . exact .inr ⟨n,up r,hn⟩
theorem SG.one {x:Ac} (b:l[a]? =some x) (f:LV w lo hi c x) (e:x.Op≠5):SG w lo hi l a (a+1) c:=by
 have i:=(AAI.1 b).1;refine⟨⟨by omega,by omega⟩,λk y g h d=> ?_,λk g h=> ?_⟩
 . obtain rfl:k=a:=(by omega);rw[b]at d;cases d;exact f
 . obtain rfl:k=a:=(by omega);cases hs:T4 x.Op with
   |false=>exact .inl ⟨0,k,rfl,by omega,⟨x,b,hs⟩,by omega⟩
   |true=>exact .inr ⟨1,Pv.one (by omega) ⟨x,b,hs,.inr ⟨e,rfl⟩⟩,by omega⟩
theorem SG.jump {j e:Nat} {x:Ac} (h:SG w lo hi l a j c) (u:l[j]? =some x) (C:LV w lo hi c x) (t:x.Op=5) (B:x.A=(e:Int)) (g:SG w lo hi l (j+1) e c):SG w lo hi l a e c:=by
 have E:=h.h;have z:=g.h;have s:StI l j e:=⟨x,u,by rw[t];rfl,.inl ⟨t,B⟩⟩;have up:∀{n k m},Pv l (j+1) e n k m->Pv l a e n k m:=λr=>r.frame (λ_ _ _=>rfl) (by omega) (by omega);have v:∀{n k m},Pv l a j n k m->Pv l a e n k m:=λr=>r.frame (λ_ _ _=>rfl) (by omega) (by omega);refine⟨⟨by omega,z.2⟩,λk y p q b=> ?_,λk p q=> ?_⟩
 . by_cases o:k<j
   . exact h.i k y p o b
   . by_cases d:k=j
     . subst d;rw[u]at b;cases b;exact C
     . exact g.i k y (by omega) q b
 . by_cases o:k<j
   . rcases h.f k p o with⟨n,m,r,D,ev,hn⟩|⟨n,r,hn⟩
     . exact .inl ⟨n,m,v r,by omega,ev,by omega⟩
     . exact .inr ⟨n+1,(v r).trans (Pv.one (by omega) s),by omega⟩
   . by_cases d:k=j
     . subst d;exact .inr ⟨1,Pv.one (by omega) s,by omega⟩
     . rcases g.f k (by omega) q with⟨n,m,r,D,ev,hn⟩|⟨n,r,hn⟩
       . exact .inl ⟨n,m,up r,by omega,ev,by omega⟩
       . exact .inr ⟨n,up r,hn⟩
theorem SG.back {p j:Nat} {x y:Ac} (h:SG w lo hi l a p c) (H:l[p]? =some y) (B:LV w lo hi c y) (C:T4 y.Op=false) (g:SG w lo hi l (p+1) j c) (v:l[j]? =some x) (O:LV w lo hi c x) (G:x.Op=5) (M:x.A=(a:Int)):SG w lo hi l a (j+1) c:=by
 have R:=h.h;have Q:=g.h;have S:=(AAI.1 v).1;have s:StI l j a:=⟨x,v,by rw[G];rfl,.inl ⟨G,M⟩⟩;have up:∀{n k m},Pv l (p+1) j n k m->Pv l a (j+1) n k m:=λr=>r.frame (λ_ _ _=>rfl) (by omega) (by omega);have o:∀{n k m},Pv l a p n k m->Pv l a (j+1) n k m:=λr=>r.frame (λ_ _ _=>rfl) (by omega) (by omega);have e:Ev l p:=⟨y,H,C⟩
 -- from the beginning on
 have t:∃n m,Pv l a (j+1) n a m/\(a≤m/\m<j+1)/\Ev l m/\n+a≤p:=by
  by_cases N:a<p
  . rcases h.f a (by omega) N with⟨n,m,r,J,ev,hn⟩|⟨n,r,hn⟩
    . exact⟨n,m,o r,by omega,ev,by omega⟩
    . exact⟨n,p,o r,by omega,e,by omega⟩
  . have:a=p:=(by omega);exact⟨0,p,this,by omega,e,by omega⟩
 obtain⟨K,I,L,E,F,T⟩:=t;refine⟨⟨by omega,by omega⟩,λk z D P d=> ?_,λk D P=>.inl ?_⟩
 . by_cases u:k<p
   . exact h.i k z D u d
   . by_cases q:k=p
     . subst q;rw[H]at d;cases d;exact B
     . by_cases b:k<j
       . exact g.i k z (by omega) b d
       . obtain rfl:k=j:=(by omega);rw[v]at d;cases d;exact O
 . by_cases u:k<p
   . rcases h.f k D u with⟨n,m,r,J,ev,hn⟩|⟨n,r,hn⟩
     . exact⟨n,m,o r,by omega,ev,by omega⟩
     . exact⟨n,p,o r,by omega,e,by omega⟩
   . by_cases q:k=p
     . subst q;exact⟨0,k,rfl,by omega,e,by omega⟩
     . by_cases b:k<j
       . rcases g.f k (by omega) b with⟨n,m,r,J,ev,hn⟩|⟨n,r,hn⟩
         . exact⟨n,m,up r,by omega,ev,by omega⟩
         . exact⟨n+(1+K),I,(up r).trans ((Pv.one (by omega) s).trans L),E,F,by omega⟩
       . obtain rfl:k=j:=(by omega);exact⟨1+K,I,(Pv.one (by omega) s).trans L,E,F,by omega⟩
end
def TB (E:Int) (x:List Int):Prop:=x.Pairwise (· < ·)/\∀y∈x,0≤y/\y<E
theorem TB.len {E:Int} {x:List Int} (h:TB E x) (d:0≤E):(x.length:Int)≤E:=by
 have key:∀(x:List Int) (a:Int),x.Pairwise (· < ·)->(∀y∈x,a≤y/\y<E)->a≤E->(x.length:Int)≤E-a:=by
  intro x;induction x with
  |nil=>intro a _ _ h;simp;omega
  |cons y r ih=>
   intro a e b i;obtain⟨f,g⟩:=List.pairwise_cons.1 e;have j:=b y AA9
   have:=ih (y+1) g (λz c=>⟨f z c,(b z (List.mem_cons_of_mem _ c)).2⟩) (by omega);simp only[AAx];omega
 have:=key x 0 h.1 h.2 d;omega
theorem TB.mono {E F:Int} {x:List Int} (h:TB E x) (b:E≤F):TB F x:=⟨h.1,λy a=>⟨(h.2 y a).1,by have:=(h.2 y a).2;omega⟩⟩
structure TH (E:Nat) (s:AM):Prop where
 r:s.B5.length≤100
 t:s.CA.length≤100
 b:∀x∈s.CA,TB s.AE x
 e:0≤s.AE/\s.AE≤E
theorem TH.zero (E:Nat):TH E ⟨0,[],[],0⟩:=⟨by simp,by simp,by simp,by simp,by simp⟩
theorem bO {E:Nat} {s:AM} (h:TH E s) (f:E≤100000):DG s=some s:=by
 have g:=h.r;have j:=h.t;have c:=h.e;have key:Cc (DG s) λr=>r=s:=by
  unfold DG;refine tC (B9 (by omega)) (OR s.CA.length (λi o=>o=⟨s.PC,s.B5,s.CA.take i,s.AE⟩) (F:=λn o i=>DG.AZ s n o i) (by omega) rfl λn i o hi d k=> ?_);subst d;unfold DG.AZ DG.L1 DG.J1;refine tD (λ_=>YX (by omega) ?_) λ_=>tR (by rw[AAs (by omega)])
  have:=(h.b _ (AAW (show i<s.CA.length by omega))).len c.1;exact tC (B9 (by omega)) (tC (B9 (by simp;omega)) (k _ (by omega) (by rw[AAX])))
 obtain⟨r,a,rfl⟩:=key;exact a
theorem rg1 {i:Ac} (h:i.Op=1):rg i=[i.A]:=by unfold rg AY AY.J1;simp[h]
theorem rg2 {i:Ac} (h:i.Op=2):rg i=[i.A,i.B]:=by unfold rg AY AY.J1 AY.J2;simp[h]
theorem rg3 {i:Ac} (h:i.Op=3):rg i=[i.A,i.B]:=by unfold rg AY AY.J1 AY.J2;simp[h]
theorem rg4 {i:Ac} (h:i.Op=4):rg i=[i.A,i.B,i.C]:=by unfold rg AY AY.J1 AY.J2;simp[h]
theorem rg6 {i:Ac} (h:i.Op=6):rg i=[i.A]:=by unfold rg AY AY.J1;simp[h]
theorem rg7 {i:Ac} (h:i.Op=7):rg i=[i.A,i.C]:=by unfold rg AY AY.J1 AY.J2;simp[h]
theorem rg8 {i:Ac} (h:i.Op=8):rg i=[i.B]:=by unfold rg AY AY.J1 AY.J2 AY.J3;simp[h]
theorem rg9 {i:Ac} (h:i.Op=9):rg i=[i.B,i.C]:=by unfold rg AY AY.J1 AY.J2 AY.J3;simp[h]
theorem rg10 {i:Ac} (h:i.Op=10):rg i=[i.A]:=by unfold rg AY AY.J1;simp[h]
theorem rg26 {i:Ac} (h:i.Op=26):rg i=[i.B]:=by unfold rg AY AY.J1 AY.J2 AY.J3;simp[h]
theorem rg27 {i:Ac} (h:i.Op=27):rg i=[i.A]:=by unfold rg AY AY.J1;simp[h]
theorem Sd (n:Int):TT (DH n):=by
 unfold DH DH.J1
 repeat' first|exact tR trivial|refine tI (λ_=> ?_) λ_=> ?_
theorem ZP (b:Bool):TT (D3 b):=by unfold D3;exact tI (λ_=>tR trivial) λ_=>tR trivial
theorem pQ (o a:Int):TT (Ht o a):=by
 unfold Ht
 repeat' first|exact tR trivial|refine Hy (ZP _) λ_=> ?_|refine tI (λ_=> ?_) λ_=> ?_
theorem gV (o a b:Int):TT (Dp o a b):=by
 unfold Dp Dp.J1 Dp.J2
 repeat' first|exact tR trivial|refine Hy (ZP _) λ_=> ?_|refine tD (λ_=>tR trivial) λc=>tC c ?_|refine tI (λ_=> ?_) λ_=> ?_
theorem step_tot {E:Nat} {i:Ac} {s:AM} {P:Int->Prop} (d:TH E s) (g:∀x∈s.CA,∀k∈x,P k) (S:E≤100000) (u:s.CA.length=s.B5.length) (K:T4 i.Op=true):Cc (CX i s) λr=>r.2=true->(TH E r.1/\r.1.CA.length=r.1.B5.length)/\r.1.AE=s.AE/\∀x∈r.1.CA,∀k∈x,P k:=by
 have N:∀{x} {P:AM×Bool->Prop},Cc (some (x,false)) λr:AM×Bool=>r.2=true->P r:=tR λh=>by cases h
 have l:=d.e;have w:=d.r;have B:=d.t;have o:∀v ok t,0≤i.A/\i.A<s.B5.length->TB s.AE t->(∀k∈t,P k)->Cc (CX.J3 i s v ok t) λr=>r.2=true->(TH E r.1/\r.1.CA.length=r.1.B5.length)/\r.1.AE=s.AE/\∀x∈r.1.CA,∀k∈x,P k:=by
  intro v ok t J m p
  have:=m.len l.1;unfold CX.J3;refine tC (B9 (by omega)) (tG J λ_ _=>tG (by omega) λ_ _=>tR λ_=>⟨⟨⟨by simpa using w,by simpa using B,?_,l⟩,by simpa using u⟩,rfl,?_⟩)
  . intro x a;rcases AAm a with a|rfl
    . exact d.b x a
    . exact m
  . intro x a;rcases AAm a with a|rfl
    . exact g x a
    . exact p
 have L:(∀y∈rg i,0≤y/\y<s.B5.length)->Cc (CX.J2 i s) λr=>r.2=true->(TH E r.1/\r.1.CA.length=r.1.B5.length)/\r.1.AE=s.AE/\∀x∈r.1.CA,∀k∈x,P k:=by
  intro c;unfold CX.J2;refine tI (λ_=>tR λ_=>⟨⟨⟨w,B,d.b,l⟩,u⟩,rfl,g⟩) λR=>tI (λD=> ?_) λM=>tI (λG=> ?_) λO=>tI (λH=> ?_) λQ=> ?_
  . simp only[rg1 (eq_of_beq D),AAh,forall_eq]at c;exact o _ _ _ c ⟨List.Pairwise.nil,by simp⟩ (by simp)
  . simp only[rg2 (eq_of_beq G),AAg,ABJ,ABQ,forall_eq_or_imp,forall_eq]at c;exact tG c.2 λ_ _=>tG (by omega) λx a=>o _ _ _ c.1 (d.b x a) (g x a)
  . simp only[rg3 (eq_of_beq H),AAg,ABJ,ABQ,forall_eq_or_imp,forall_eq]at c;exact Hy (Sd _) λ_=>tG c.2 λ_ _=>Hy (pQ _ _) λ_=>tG (by omega) λx a=>o _ _ _ c.1 (d.b x a) (g x a)
  . have I:i.Op=4:=(by simp[T4]at K R M O Q;omega);simp only[rg4 I,AAg,ABJ,ABQ,forall_eq_or_imp,forall_eq]at c;refine Hy (Sd _) λ_=>tG c.2.1 λ_ _=>tG c.2.2 λ_ _=>Hy (gV _ _ _) λ_=>tG (by omega) λx a=>tG (by omega) λy q=> ?_;have U:=(d.b x a).len l.1;have V:=(d.b y q).len l.1;refine tE (bY x y (by omega)) (o _ _ _ c.1 ⟨NY _,λz f=> ?_⟩ λz f=> ?_)
    . rcases AAa.1 ((Pj _ _).1 f)with f|f
      . exact(d.b x a).2 z f
      . exact(d.b y q).2 z f
    . rcases AAa.1 ((Pj _ _).1 f)with f|f
      . exact g x a z f
      . exact g y q z f
 unfold CX;refine tE (EX i).1 (OR (rg i).length (λj (_:Unit)=>∀y∈(rg i).take j,0≤y/\y<(s.B5.length:Int)) (s0:=()) (F:=λn _ j=>CX.AZ i s (rg i) n j) (by have:=(EX i).2;omega) (by simp) λn j _ T C k=> ?_);unfold CX.AZ CX.L1 CX.J1;refine tD (λ_=>YX (by omega) (tD (λ_=>tI (λ_=>N) λh=>by cases h) λ_=>tD (λ_=>N) λ_=>k () (by omega) (take_one (by omega) C (by omega)))) λ_=>L (Ue (by omega) C)
def PX:AM:=⟨0,[],[],0⟩
theorem iJ {E:Nat} {c:Al} {s:AM} {P:Int->Prop} (e:TH E s) (l:∀x∈s.CA,∀k∈x,P k) (d:E≤100000) (p:c.Aw.length≤8000000):Cc (B3 c s) λr=>TH E r.1/\(r.1=PX∨r.1.AE=s.AE/\∀x∈r.1.CA,∀k∈x,P k):=by
 have Z:TH E PX/\(PX=PX∨PX.AE=s.AE/\∀x∈PX.CA,∀k∈x,P k):=⟨TH.zero E,.inl rfl⟩;have j1:∀b,(b=false->s.CA.length=s.B5.length)->Cc (B3.J1 c s b) λr=>TH E r.1/\(r.1=PX∨r.1.AE=s.AE/\∀x∈r.1.CA,∀k∈x,P k):=by intro b m;unfold B3.J1;refine tI (λ_=>tR Z) λf=>tE (bO e d) (OR (c.Aw.length+1) (λ_ t=>(TH E t/\t.CA.length=t.B5.length)/\t.AE=s.AE/\∀x∈t.CA,∀k∈x,P k) (F:=λn s j=>B3.AZ c n s j) (by omega) ⟨⟨e,m f⟩,rfl,l⟩ λn i t hi a k=> ?_);unfold B3.AZ B3.L1 B3.J2 B3.J3;refine tD (λ_=>tD (λ_=>tI (λ_=>tR Z) λh=>by cases h) λ_=>tD (λ_=>tR Z) λ_=>tG (by omega) λx _=>tE (Lb _) (tI (λ_=>tR ⟨a.1.1,.inr a.2⟩) λh=>tI (λ_=>tR Z) λ_=> ?_)) λ_=>tR Z;exact tB (step_tot a.1.1 a.2.2 d a.1.2 (by simpa using h)) λv o=>tI (λ_=>tR Z) λh=>k _ (by omega) (by have:=o (by simpa using h);rw[a.2.1]at this;exact this)
 unfold B3;refine tI (λ_=>j1 _ λh=>by cases h) λh=>j1 _ λg=> ?_;simp at h g;omega
def Wx:List I6:=[⟨⟨#[109]⟩,false⟩,⟨⟨#[110]⟩,false⟩,⟨⟨#[114]⟩,true⟩]
def W9:AD:=⟨Kf,[],[],[],[],[]⟩
structure WF (T:ABi->Prop) (w:AD):Prop where
 c:w.Cells=Kf
 l:w.AG=Wx
 d:w.Af=[⟨cN,0⟩]
 f:w.AH=[⟨#[102]⟩]
 t:∀s,T s->s∈w.AA
 n:w.AA.length≤4
structure GW (T:ABi->Prop) (g:A8):Prop where
 w:WF T g.w
 l:g.locals=YG
theorem Le {w:AD} (h:w.Cells=Kf) (s:ABi):Bi w s=Bi W9 s:=by
 unfold Bi;have key:∀n i,Bi.AZ s w n i=Bi.AZ s W9 n i:=by
  intro n;induction n with
  |zero=>exactλ_=>rfl
  |succ n ih=>intro i;unfold Bi.AZ Bi.L1;rw[h,show W9.Cells=Kf from rfl];simp only[ih]
 exact key _ _
theorem Yx {a:Type} {l:List a} {i:Int} {x:a} (h:gt l i=some x):0≤i/\i<l.length:=by
 unfold gt at h;split at h
 . have:=(AAI.1 h).1;omega
 . cases h
theorem IG {i n:Int} (h:0≤i/\i<n):DL i n=some true:=by unfold DL DL.J1;simp[h.1,h.2]
theorem lO {w:AD} {x:Ac} (h:x.Op∈[(1:Int),2,5,10,17,18,19,20]):AL w x=some true:=by simp only[AAg,ABJ,ABQ]at h;rcases h with h|h|h|h|h|h|h|h<;>simp[AL,AL.J3,AL.J5,AL.J7,AL.J8,h]
theorem obj4 {w:AD} {x:Ac} (h:x.Op=4) (hn:6≤x.N/\x.N≤18):AL w x=some true:=by simp[AL,AL.J3,AL.J5,AL.J7,AL.J8,AL.RX,h,hn.1,hn.2]
theorem obj6 {w:AD} {x:Ac} {y:DR} (h:x.Op=6) (a:gt w.Cells x.B=some y) (b:y.CG=0):AL w x=some true:=by simp[AL,AL.J1,h,IG (Yx a),a,b]
theorem obj8 {w:AD} {x:Ac} {y:DR} (h:x.Op=8) (a:gt w.Cells x.A=some y) (b:y.CG=0):AL w x=some true:=by simp[AL,AL.J2,h,IG (Yx a),a,b]
theorem cH {w:AD} {b n:Int} {y:DR} (a:gt w.Cells b=some y) (hi:y.Index=0) (c:y.CG≠0) (hn:y.CG=n):Ei w b n=some true:=by subst hn;simp[Ei,Ei.J1,IG (Yx a),a,hi,c]
theorem obj7 {w:AD} {x:Ac} {y:DR} (h:x.Op=7) (b:gt w.Cells x.B=some y) (hi:y.Index=0) (a:y.CG≠0) (hn:y.CG=x.N):AL w x=some true:=by simp[AL,h,cH b hi a hn]
theorem obj9 {w:AD} {x:Ac} {y:DR} (h:x.Op=9) (b:gt w.Cells x.A=some y) (hi:y.Index=0) (a:y.CG≠0) (hn:y.CG=x.N):AL w x=some true:=by simp[AL,h,cH b hi a hn]
theorem objM {w:AD} {x:Ac} {y:I6} (h:x.Op=11∨x.Op=12) (a:gt w.AG x.A=some y) (b:y.RW=false):AL w x=some true:=by rcases h with h|h<;>simp[AL,AL.J3,AL.J4,h,IG (Yx a),a,b]
theorem objR {w:AD} {x:Ac} {y:I6} (h:x.Op=13∨x.Op=14∨x.Op=15∨x.Op=16) (a:gt w.AG x.A=some y) (b:y.RW=true):AL w x=some true:=by rcases h with h|h|h|h<;>simp[AL,AL.J3,AL.J5,AL.J6,h,IG (Yx a),a,b]
theorem objC {w:AD} {x:Ac} (h:x.Op=21∨x.Op=22∨x.Op=23) (a:0≤x.A/\x.A<w.Af.length):AL w x=some true:=by rcases h with h|h|h<;>simp[AL,AL.J3,AL.J5,AL.J7,h,IG a]
theorem objT {w:AD} {x:Ac} (h:x.Op=24∨x.Op=25) (a:0≤x.A/\x.A<w.AA.length):AL w x=some true:=by rcases h with h|h<;>simp[AL,AL.J3,AL.J5,AL.J7,AL.J8,h,IG a]
theorem obj26 {w:AD} {x:Ac} (h:x.Op=26) (a:0≤x.A/\x.A<w.AH.length):AL w x=some true:=by simp[AL,AL.J3,AL.J5,AL.J7,AL.J8,h,IG a]
theorem obj27 {w:AD} {x:Ac} (h:x.Op=27) (a:0≤x.B/\x.B<w.AH.length):AL w x=some true:=by simp[AL,AL.J3,AL.J5,AL.J7,AL.J8,h,IG a]
theorem rg0 {i:Ac} (h:i.Op=5∨11≤i.Op/\i.Op≤25∨i.Op=28):rg i=[]:=by have n:∀k:Int,i.Op≠k->(i.Op==k)=false:=λk h=>beq_eq_false_iff_ne.2 h;unfold rg AY AY.J1 AY.J2 AY.J3;simp[n 1 (by omega),n 2 (by omega),n 3 (by omega),n 4 (by omega),n 6 (by omega),n 7 (by omega),n 8 (by omega),n 9 (by omega),n 10 (by omega),n 26 (by omega),n 27 (by omega)]
def NameF (x:ABi):Prop:=(∃e,CN YG x=some e/\0≤e/\e<2)∨(∃e,CN YG x=some e/\e<0)/\∃c y,Bi W9 x=some c/\gt Kf c=some y/\y.CG=0
theorem name_f {x:ABi} (h:x∈vN):NameF x:=by
 unfold vN at h;simp only[AAg,ABJ,ABQ]at h;rcases h with rfl|rfl|rfl|rfl|rfl
 . exact .inl ⟨0,by decide +kernel,by omega,by omega⟩
 . exact .inl ⟨1,by decide +kernel,by omega,by omega⟩
 . exact .inr ⟨⟨-1,by decide +kernel,by omega⟩,0,_,by decide +kernel,rfl,rfl⟩
 . exact .inr ⟨⟨-1,by decide +kernel,by omega⟩,1,_,by decide +kernel,rfl,rfl⟩
 . exact .inr ⟨⟨-1,by decide +kernel,by omega⟩,2,_,by decide +kernel,rfl,rfl⟩
theorem q_at:Bi W9 qS=some 3:=by decide +kernel
structure GV (g r:A8) (lo hi:Int):Prop where
 w:r.w=g.w
 l:r.locals=g.locals
 n:g.out.length≤r.out.length
 p:∀i,i<g.out.length->r.out[i]? =g.out[i]?
 s:SG g.w lo hi r.out g.out.length r.out.length r.out.length
section
variable {T:ABi->Prop} {g h r:A8} {lo hi lo' hi':Int}
theorem GV.refl:GV g g lo hi:=⟨rfl,rfl,AAr _,λ_ _=>rfl,SG.nil (AAr _)⟩
theorem GV.trans (a:GV g h lo hi) (b:GV h r lo hi):GV g r lo hi:=by
 have c:=a.n;have e:=b.n;refine⟨b.w.trans a.w,b.l.trans a.l,by omega,λi hi=>(b.p i (by omega)).trans (a.p i hi),(a.s.frame (l':=r.out) (d:=r.out.length) (λi _ hi=>(b.p i hi).symm) (by omega) (by omega) (by omega) (by omega)).app ?_⟩
 have:=b.s;rw[a.w]at this;exact this
theorem GV.mono (a:GV g r lo hi) (b:lo'≤lo) (c:hi≤hi'):GV g r lo' hi':=⟨a.w,a.l,a.n,a.p,a.s.mono b c (AAr _)⟩
theorem GV.site (a:GV g r lo hi) (s n:Int):GV g ⟨r.w,r.locals,r.out,s,n⟩ lo hi:=⟨a.w,a.l,a.n,a.p,a.s⟩
theorem GW.next (a:GW T g) (b:GV g r lo hi):GW T r:=⟨by rw[b.w];exact a.w,b.l.trans a.l⟩
theorem GW.site (a:GW T g) (s n:Int):GW T ⟨g.w,g.locals,g.out,s,n⟩:=⟨a.w,a.l⟩
theorem put_eq (i:Ac):Hi (A5 g i) λr=>r=⟨g.w,g.locals,g.out++[⟨i.Op,i.A,i.B,i.C,i.N,g.site⟩],g.site,g.next⟩:=by unfold A5;exact pC λ_=>pR rfl
theorem GV.put {x:Ac} {s n:Int} (b:LV g.w lo hi (g.out.length+1) x) (a:x.Op≠5):GV g ⟨g.w,g.locals,g.out++[x],s,n⟩ lo hi:=by refine⟨rfl,rfl,by simp,λi hi=>by simp only;rw[AAf hi],?_⟩;simp only[AAu,AAx,ABA];exact SG.one (by simp) b a
abbrev GK (g r:A8) (lo hi:Int):Prop:=GV g r lo hi/\r.site=g.site/\r.next=g.next
theorem oP {i:Ac} (b:LV g.w lo hi (g.out.length+1) ⟨i.Op,i.A,i.B,i.C,i.N,g.site⟩) (a:i.Op≠5):Hi (A5 g i) λr=>GK g r lo hi:=
 pM (put_eq i) λ_ e=>by subst e;exact⟨GV.put b a,rfl,rfl⟩
theorem Hr {i:Ac} (b:LV g.w lo hi (g.out.length+1) ⟨i.Op,i.A,i.B,i.C,i.N,g.site⟩) (a:i.Op≠5):Hi ((A5 g i).bind λv=>some v) λr=>GK g r lo hi:=pB (oP b a) λ_ h=>pR h
theorem GK.trans (a:GK g h lo hi) (b:GK h r lo hi):GK g r lo hi:=⟨a.1.trans b.1,b.2.1.trans a.2.1,b.2.2.trans a.2.2⟩
theorem Pl {x r:Int} (h:0≤r/\r<32):∀y∈[r],0≤y/\y<32:=λy a=>by rw[AAh.1 a];exact h
theorem Vi {r s:Int} (h:0≤r/\r<32) (k:0≤s/\s<32):∀y∈[r,s],0≤y/\y<32:=λy a=>by
 simp only[AAg,ABJ,ABQ]at a;rcases a with rfl|rfl
 . exact h
 . exact k
theorem uE (d:Nat):∀(n:Nat) (g:A8) (e:BA) (r:Int),SX d e->GW T g->(lo≤g.site/\g.site<hi)->0≤r/\r+d≤32->Hi (Ch n g e r) λv=>GK g v lo hi:=by
 induction d with
 |zero=>exactλn g e r h=>h.elim
 |succ d ih=>
  intro n g e r H m j P;cases n with
  |zero=>exact pN
  |succ n=>
  have i:0≤r/\r<32:=by omega
  show Hi (Fm (Ch n) g e r) _;unfold Fm;rcases H with⟨f,_⟩|⟨f,_,hn⟩|⟨f,F,a,t,s⟩|⟨f,a,b,t,s,G⟩
  . simp only[f];exact pI (λ_=>Hr ⟨by simp,lO (by simp),by rw[rg1 rfl];exact Pl (x:=0) i,j,by simp,by simp⟩ (by simp)) λh=>by cases h
  . simp only[f];refine pI (λh=>by cases h) λ_=>pI (λ_=> ?_) λh=>(by cases h);rw[m.l];rcases name_f hn with⟨k,z,K,Q⟩|⟨⟨k,z,K⟩,c,y,C,D,E⟩
    . exact pE z (pD (λ_=>Hr ⟨by simp,lO (by simp),by rw[rg2 rfl];exact Vi i (by simp only;omega),j,by simp,by simp⟩ (by simp)) λh=>by omega)
    . refine pE z (pD (λh=>by omega) λ_=>pE ((Le m.w.c _).trans C) (Hr ⟨by simp,obj6 rfl (y:=y) (by rw[m.w.c];exact D) E,by rw[rg6 rfl];exact Pl (x:=0) i,j,by simp,by simp⟩ (by simp)))
  . simp only[f,t];refine pI (λh=>by cases h) λ_=>pI (λh=>by cases h) λ_=>pI (λ_=>pE (y:=a) rfl ?_) λh=>(by cases h);refine pB (ih n g a r s m j (by omega)) λv p=> ?_;have o:=m.next p.1;rw[F];refine pE ((Le o.w.c _).trans q_at) (pE (y:=⟨⟨#[113]⟩,0,2,false,0⟩) (by rw[o.w.c];rfl) ?_);exact pM (Hr ⟨by simp,obj7 rfl (y:=⟨⟨#[113]⟩,0,2,false,0⟩) (by rw[o.w.c];rfl) rfl (by simp) rfl,by rw[rg7 rfl];exact Vi i i,by simp only;rw[p.2.1];exact j,by simp,by simp⟩ (by simp)) λ_ h=>p.trans h
  . have L:e.Op≠1:=λh=>(by rw[h]at f;simp at f);have M:e.Op≠2:=λh=>(by rw[h]at f;simp at f);have N:e.Op≠3:=λh=>(by rw[h]at f;simp at f);have O:6≤e.Op/\e.Op≤18:=(by simp only[AAg,ABJ,ABQ]at f;omega);rw[AAO (by simpa using L),AAO (by simpa using M),AAO (by simpa using N),t];have B:Aq (r+1)=r+1:=CC (by omega) (by omega);refine pI (λh=>by cases h) λ_=>pE (y:=a) rfl (pB (ih n g a r s m j (by omega)) λv p=>pE (y:=b) rfl (pB (ih n v b _ G (m.next p.1) (by rw[p.2.1];exact j) (by rw[B];omega)) λu I=> ?_));rw[B];have q:=p.trans I;by_cases hd:d=0
    . subst hd;exact s.elim
    exact pM (Hr ⟨by simp,obj4 rfl O,by rw[rg4 rfl];intro y J;simp only[AAg,ABJ,ABQ]at J;omega,by simp only;rw[q.2.1];exact j,by simp,by simp⟩ (by simp)) λ_ h=>q.trans h
theorem TS {e:BA} (a:SX 2 e) (b:GW T g) (c:lo≤g.site/\g.site<hi) {r:Int} (d:0≤r/\r≤30):Hi (Ch Bg g e r) λv=>GK g v lo hi:=uE 2 _ g e r a b c (by omega)
theorem jA (f:GW T g) (i:lo≤g.site/\g.site<hi) {k:Nat} {s:AR} (m:Ha T (k+1) s) (n:s.Op=1):Hi (FG g s) λr=>GK g r lo hi:=by
 have o:SX 2 s.Expr:=m.2.2.1.resolve_right λh=>h.1 (by simp[n]);have q:(g.locals.length:Int)=2:=by rw[f.l];rfl
 unfold FG;rw[q];rcases m.2.1 with h|⟨_,t,a,h,p⟩
 . rw[h];refine pI (λh=>by cases h) λ_=>pB (TS o f i (by omega)) λv b=> ?_;have d:=f.next b.1;have j:lo≤v.site/\v.site<hi:=(by rw[b.2.1];exact i);rw[d.l];rcases name_f (m.2.2.2.2.2.2.2.2.2.1 n h)with⟨c,k1,k2,k3⟩|⟨⟨c,k1,k2⟩,c,y,c1,c2,c3⟩
   . exact pE k1 (pD (λ_=>pM (Hr ⟨by simp,lO (by simp),by rw[rg2 rfl];exact Vi (by simp only;omega) (by simp),j,by simp,by simp⟩ (by simp)) λ_ h=>b.trans h) λh=>by omega)
   . refine pE k1 (pD (λh=>by omega) λ_=>pE ((Le d.w.c _).trans c1) (pM (Hr ⟨by simp,obj8 rfl (y:=y) (by rw[d.w.c];exact c2) c3,by rw[rg8 rfl];exact Pl (x:=0) (by simp),j,by simp,by simp⟩ (by simp)) λ_ h=>b.trans h))
 . rw[h];refine pI (λ_=>pE (y:=a) rfl ?_) λh=>(by cases h);rw[show Aq (2+1)=3 from rfl];refine pB (TS p f i (by omega)) λv b=>pB (TS o (f.next b.1) (by rw[b.2.1];exact i) (by omega)) λu z=> ?_;have e:=b.trans z;have d:=f.next e.1;have j:lo≤u.site/\u.site<hi:=(by rw[e.2.1];exact i);rw[t];refine pE ((Le d.w.c _).trans q_at) (pE (y:=⟨⟨#[113]⟩,0,2,false,0⟩) (by rw[d.w.c];rfl) ?_);exact pM (Hr ⟨by simp,obj9 rfl (y:=⟨⟨#[113]⟩,0,2,false,0⟩) (by rw[d.w.c];rfl) rfl (by simp) rfl,by rw[rg9 rfl];exact Vi (by simp) (by simp),j,by simp,by simp⟩ (by simp)) λ_ h=>e.trans h
end
theorem yL {l:List DR} (r:l.length≤12) {L:List ABi->Int->ABh (List ABi×Bool)} {i:Nat} {names:List ABi} {x:DR} {v:List ABi×Bool} (q:1≤x.CG/\x.CG≤4) (hi:(i:Int)+x.CG≤l.length) (p:v.2=true):
 ∀(n t:Nat) (d:DR),d.CG=x.CG->(t:Int)≤x.CG->AW.DI L i l names x n d t=some v->
 (∀k:Nat,t≤k->(k:Int)<x.CG->∃c,l[i+k]? =some c/\c.Index=k/\c.CG=x.CG)/\L (names++[x.Name]) (i+x.CG)=some v:=by
 intro n;induction n with
 |zero=>intro t d _ _ h;cases h
 |succ n ih=>
  intro t d g s h;unfold AW.DI AW.L2 at h;by_cases j:(t:Int)<x.CG
  . rw[A2 j,CC (n:=(i:Int)+t) (by omega) (by omega),show(i:Int)+t=((i+t:Nat):Int)from by omega,B8 (by omega),AAF]at h;split at h
    . cases h;cases p
    . rename_i f;rw[Ai (by omega)]at h;obtain⟨a,b⟩:=ih (t+1) ⟨d.Name,t,d.CG,d.G4,d.Init⟩ g (by omega) h;refine⟨λk o m=> ?_,b⟩;by_cases e:k=t
      . subst e;refine⟨l[i+k],AAL (by omega),?_⟩;simp only[ABT,Bool.not_eq_false,AAH,AAV]at f;exact⟨f.2.1,f.2.2.1.trans g⟩
      . exact a k (by omega) m
  . rw[Ad j]at h;unfold AW.J2 at h;rw[g,CC (by omega) (by omega)]at h;exact⟨λk o m=>by omega,h⟩
theorem qQ {l:List DR} (E:l.length≤12) {v:List ABi×Bool} (m:v.2=true):∀(n i:Nat) (names:List ABi),names.length≤i->i≤l.length->AW.AZ l n names i=some v->
 ∀(b:Nat) (c:DR),i≤b->l[b]? =some c->c.Index=0->c.CG≠0->(1≤c.CG/\c.CG≤4)/\∀k:Nat,(k:Int)<c.CG->∃d,l[b+k]? =some d/\d.CG≠0:=by
 intro n;induction n with
 |zero=>intro i names _ _ h;cases h
 |succ n ih=>
  intro i names hn C h b c K f s g;have B:=(AAI.1 f).1;unfold AW.AZ AW.L1 at h;have hi:i<l.length:=by omega
  rw[A2 (by omega),B8 hi,AAF,BO (by omega)]at h;have o:l[i]? =some l[i]:=AAL hi;generalize l[i]=x at h o;by_cases e:x.CG=0
  . rw[AAP (by simpa using e)]at h;split at h
    . cases h;cases m
    . rw[Ai (by omega)]at h;by_cases q:b=i
      . subst q;rw[o]at f;cases f;exact absurd e g
      . exact ih (i+1) _ (by simp;omega) (by omega) h b c (by omega) f s g
  . rw[AAO (by simpa using e)]at h;have J:∀t,AW.J1 (AW.AZ l n) i l names x t=some v->t=false/\AW.DI (AW.AZ l n) i l names x Bg x 0=some v:=by
     intro t j;unfold AW.J1 at j;cases t with
     |true=>cases j;cases m
     |false=>exact⟨rfl,j⟩
    have key:(1≤x.CG/\x.CG≤4)/\(i:Int)+x.CG≤l.length/\AW.DI (AW.AZ l n) i l names x Bg x 0=some v:=by
     rw[CC (n:=(l.length:Int)-i) (by omega) (by omega)]at h;split at h
     . exact absurd (J _ h).1 (by simp)
     . rename_i w;split at h
       . exact absurd (J _ h).1 (by simp)
       . rename_i y;split at h
         . exact absurd (J _ h).1 (by simp)
         . obtain⟨H,I⟩:=J _ h;simp at w y H;exact⟨by omega,by omega,I⟩
    obtain⟨u,F,G⟩:=key;obtain⟨a,r⟩:=yL E u F m Bg 0 x rfl (by omega) G;by_cases q:(b:Int)<i+x.CG
    . obtain⟨d,d1,z,p⟩:=a (b-i) (by omega) (by omega);rw[show i+(b-i)=b from by omega,f]at d1;cases d1;have:b=i:=(by omega);subst this;rw[o]at f;cases f;refine⟨u,λk D=> ?_⟩;obtain⟨d,d1,z,p⟩:=a k (by omega) D;exact⟨d,d1,by rw[p];exact g⟩
    . rw[show(i:Int)+x.CG=((i+x.CG.toNat:Nat):Int)from by omega]at r;exact ih (i+x.CG.toNat) _ (by simp;omega) (by omega) r b c (by omega) f s g
theorem p7 {w:AD} (a:Ct w=true) {b n:Int} (h:Qm w b n):(1≤n/\n≤4)/\∀k,0≤k->k<n->∃d,gt w.Cells (b+k)=some d/\d.CG≠0:=by
 have o:=(DB a).c;obtain⟨x,e,i,p,hn⟩:=h;have t:0≤b:=by
  unfold gt at e;split at e
  . assumption
  . cases e
 obtain⟨m,rfl⟩:∃m:Nat,b=m:=⟨b.toNat,by omega⟩;rw[JJ]at e;have l:∃v,AW w.Cells=some v/\v.2=true:=by
  unfold Ct at a;cases hv:AW w.Cells with
  |none=>simp[hv]at a
  |some v=>simp[hv]at a;exact⟨v,rfl,a.2.1.1.1⟩
 obtain⟨v,r,s⟩:=l;obtain⟨f,g⟩:=qQ o s Bg 0 [] (by simp) (by omega) r m x (by omega) e i p;rw[hn]at f g;refine⟨f,λk u q=> ?_⟩;obtain⟨j,rfl⟩:∃j:Nat,k=j:=⟨k.toNat,by omega⟩;rw[show(m:Int)+j=((m+j:Nat):Int)from by omega,JJ];exact g j q
structure FT (c:BB) (s:Ae):Prop where
 v:VC c
 f:HD c.World s.Sync=true
 c':s.Cells.length=c.World.Cells.length
 u:s.AH.length=c.World.AH.length
 n:s.AA.length=c.AA.length
 t:∀(i:Nat) x y,s.AA[i]? =some x->c.AA[i]? =some y->(0≤x.PC/\x.PC<y.Aw.length)/\(x.B5.length:Int)=y.B5/\(x.CA.length:Int)=y.B5
theorem zD {c:BB} (p:CK c) (s:Ae):Cc (Ef c s) λb=>b=true->FT c s:=by
 have N:∀{C:Prop},Cc (some false) λb:Bool=>b=true->C:=tR λh=>by cases h
 have hn:=p.n;have j1:∀b,(b=false->VC c/\HD c.World s.Sync=true/\s.Cells.length=c.World.Cells.length/\s.AH.length=c.World.AH.length/\s.AA.length=c.AA.length)->Cc (Ef.J1 c s b) λb=>b=true->FT c s:=by
  intro b B;unfold Ef.J1;refine tI (λ_=>N) λu=> ?_;obtain⟨g,l,m,o,z⟩:=B u;refine OR c.AA.length (λi (_:Unit)=>∀(j:Nat) x y,j<i->s.AA[j]? =some x->c.AA[j]? =some y->(0≤x.PC/\x.PC<y.Aw.length)/\(x.B5.length:Int)=y.B5/\(x.CA.length:Int)=y.B5) (s0:=()) (F:=λn _ i=>Ef.AZ c s n i) (by omega) (λj _ _ h=>by omega) λn i _ hi q k=> ?_;unfold Ef.AZ Ef.L1 Ef.J2 Ef.J3;refine tD (λ_=>YX (by omega) (tD (λ_=>tI (λ_=>N) λh=>by cases h) λE=>YX (by omega) (tD (λ_=>tI (λ_=>N) λh=>by cases h) λG=>tI (λ_=>tI (λ_=>N) λh=>by cases h) λr=>tI (λ_=>N) λt=>k () (by omega) ?_))) λ_=>tR λ_=>⟨g,l,m,o,z,λj x y d a=>q j x y ?_ d a⟩
  . intro j x y D d a;by_cases e:j<i
    . exact q j x y e d a
    . obtain rfl:j=i:=(by omega);rw[AAL (by omega)]at d a;rw[← AAJ d,← AAJ a];simp at r t;exact⟨by omega,r,t⟩
  . have:=(AAI.1 a).1;omega
 unfold Ef;refine tB (N8 p) λv f=>tI (λ_=>j1 _ λh=>by cases h) λh=> ?_;have f:=f (by simpa using h);refine tE (N9 _ (DB f.w) _) (tI (λ_=>j1 _ λh=>by cases h) λg=>tI (λ_=>j1 _ λh=>by cases h) λl=>tI (λ_=>j1 _ λh=>by cases h) λm=>j1 _ λo=>⟨f,by simpa using g,?_,?_,?_⟩)
 . simp at l;omega
 . simp at m;omega
 . simp at o;omega
theorem YZ (i n:Int):Cc (GH i n) λv=>1≤n/\n≤4->0≤v/\v<n:=by
 unfold GH GH.J1;refine tD (λ_=>tR (by omega)) λh=>tC (by omega) (tD (λa=>tR λb=> ?_) λa=>tR λb=> ?_)
 . have:=Int.lt_tmod_of_pos i (show 0<n by omega);rw[CC (by omega) (by omega)];omega
 . have:=Int.tmod_lt_of_pos i (show 0<n by omega);omega
def kindL:List Int:=[3,3,4,4,5,6,7,8,9,10,11,12,13,14,15,16,18,19,20,21,22,23,2]
def KO (o k:Int):Prop:=((k=3->o=6∨o=7)/\(k=4->o=8∨o=9)/\(k=5->o=10)/\(k=22->o=26)/\(k=23->o=27)/\(k=2↔o=28)/\(k=16->o=21)/\k≠1/\k≠17)/\(o=7->k=3)/\(o=9->k=4)/\(o=10->k=5)/\(o=8->k=4)/\(o=26->k=22)
instance (o k:Int):Decidable (KO o k):=by unfold KO;infer_instance
theorem eA:∀n:Fin 23,KO ((n.1:Int)+6) kindL[n.1]:=by decide
theorem kind_tot {o:Int} (h:1≤o/\o≤28):Cc (HS o) λk=>k=0∨KO o k:=by
 unfold HS HS.J1;refine tD (λ_=>tI (λ_=>tR (.inl rfl)) λh=>by cases h) λb=>tD (λh=>by omega) λ_=> ?_;rw[CC (by omega) (by omega)];obtain⟨n,hn⟩:∃n:Nat,o-6=n:=⟨(o-6).toNat,by omega⟩;rw[hn];have a:n<23:=by omega
 refine YX (l:=kindL) a (tR (.inr ?_))
 have:=eA ⟨n,a⟩;simp only at this;rw[show(n:Int)+6=o from by omega]at this;exact this
theorem lP {i:Ac} {t:AM} (e:i.Op=7∨i.Op=9->0≤i.C/\i.C<t.B5.length):
 Cc (E2 i t) λo=>(i.Op=7->∃v,o=Aq (i.B+v)/\(1≤i.N/\i.N≤4->0≤v/\v<i.N))/\(i.Op=9->∃v,o=Aq (i.A+v)/\(1≤i.N/\i.N≤4->0≤v/\v<i.N)):=by
 have T:∀{o:ABh Int},TT o->i.Op≠7->i.Op≠9->Cc o λo=>(i.Op=7->∃v,o=Aq (i.B+v)/\(1≤i.N/\i.N≤4->0≤v/\v<i.N))/\(i.Op=9->∃v,o=Aq (i.A+v)/\(1≤i.N/\i.N≤4->0≤v/\v<i.N)):=λh a b=>tM h λ_ _=>⟨λh=>absurd h a,λh=>absurd h b⟩;have j1:∀b,(b=true->i.Op≠7/\i.Op≠9)->Cc (E2.J1 i t b) λo=>(i.Op=7->∃v,o=Aq (i.B+v)/\(1≤i.N/\i.N≤4->0≤v/\v<i.N))/\(i.Op=9->∃v,o=Aq (i.A+v)/\(1≤i.N/\i.N≤4->0≤v/\v<i.N)):=by
  intro b f;unfold E2.J1 E2.J2;refine tI (λh=>T (tR trivial) (f h).1 (f h).2) λ_=>tI (λh=>tG (e (.inl (eq_of_beq h))) λ_ _=>tB (YZ _ _) λv d=>tR ⟨λ_=>⟨v,rfl,d⟩,λc=> ?_⟩) λg=>tI (λh=>tG (e (.inr (eq_of_beq h))) λ_ _=>tB (YZ _ _) λv d=>tR ⟨λc=> ?_,λ_=>⟨v,rfl,d⟩⟩) λj=>T ?_ (by simpa using g) (by simpa using j)
  . rw[eq_of_beq h]at c;cases c
  . rw[eq_of_beq h]at c;cases c
  . repeat' first|exact tR trivial|refine tI (λ_=> ?_) λ_=> ?_
 unfold E2;refine tI (λh=>j1 _ λ_=> ?_) λ_=>j1 _ λh=> ?_<;>rw[eq_of_beq h]<;>decide
def mV (e:AK):Prop:=e.EI.length≤100000/\e.Dr.length≤100000
structure PI (w:AD) (x:AM) (y:Al) (z:Ac) (q:AF) (e:AK):Prop where
 a:e.Kind=3∨e.Kind=23∨e.Kind=5->0≤z.A/\z.A<y.B5
 b:e.Kind=4∨e.Kind=22->0≤z.B/\z.B<y.B5
 d:e.EI=[]∨e.EI∈x.CA/\(e.Kind=5∨(e.Kind=3∨e.Kind=4)/\(ix w.Cells e.Obj).CG≠0)
 r:e.Dr=[]∨e.Dr∈x.CA/\(e.Kind=4∨e.Kind=22)
 s:e.Kind=1/\e.Site= -1∨(q.Status=4/\e.Kind=17∨q.Status=2/\(e.Kind=2↔z.Op=28)/\e.Kind≠1/\e.Kind≠17/\(e.Kind=16->z.Op=21))/\e.Site=z.Site
 j:e.Kind=5->z.Op=10
structure PE (c:BB) (s:Ae) (th:Int) (e:AK):Prop where
 f:FT c s
 t:0≤th/\th<c.AA.length
 l:mV e
 h:e.Thread=th
 i:∀x y z q,s.AA[th.toNat]? =some x->c.AA[th.toNat]? =some y->y.Aw[x.PC.toNat]? =some z->s.Sync.AA[th.toNat]? =some q->PI c.World x y z q e
theorem nQ {a:Type} [Inhabited a] {l:List a} {i:Int} {x:a} (h:gt l i=some x):ix l i=x:=by
 unfold gt at h;split at h
 . unfold ix;rw[h];rfl
 . cases h
theorem RU {E:Nat} {c:BB} (hc:CK c) {s:Ae} (hs:∀t∈s.AA,TH E t) (hE:E≤100000) (th:Int):Cc (CZ c s th) λr=>r.2=true->PE c s th r.1:=by
 have N:∀{x} {P:AK×Bool->Prop},Cc (some (x,false)) λr:AK×Bool=>r.2=true->P r:=tR λh=>by cases h
 have j1:∀b,(b=false->FT c s/\0≤th/\th<c.AA.length)->Cc (CZ.J1 c s th b) λr=>r.2=true->PE c s th r.1:=by
  intro b K;unfold CZ.J1;refine tI (λ_=>N) λh0=> ?_;obtain⟨G,ht⟩:=K h0;obtain⟨_,_,l3⟩:=Em G.f;have hn:=G.n;have hn2:=G.v.n;obtain⟨x,x1,x2,x3⟩:=F8 (l:=s.AA) (i:=th) (by omega);obtain⟨y,y1,y2,y3⟩:=F8 (l:=c.AA) (i:=th) (by omega);obtain⟨p1,p2,p3⟩:=G.t _ x y x2 y2;obtain⟨z,z1,z2,z3⟩:=F8 (l:=y.Aw) (i:=x.PC) (by omega);obtain⟨q,q1,q2,q3⟩:=F8 (l:=s.Sync.AA) (i:=th) (by omega);have S:=(G.v.t _ y y2).i z z3;have ho:=S.o;have u:=S.g;have W:=hs x x3;have J:∀q∈x.CA,q.length≤100000:=λq m=>by have:=(W.b q m).len W.e.1;have:=W.e.2;omega
  refine tE x1 (tE y1 (tE z1 (tE q1 ?_)));have I:∀e:AK,mV e->e.Thread=th->PI c.World x y z q e->PE c s th e:=by intro e p j L;refine⟨G,ht,p,j,λx' y' z' q' Kc Q R O=> ?_⟩;rw[x2]at Kc;rw[y2]at Q;rw[q2]at O;obtain rfl:=AAJ Kc;obtain rfl:=AAJ Q;obtain rfl:=AAJ O;rw[z2]at R;obtain rfl:=AAJ R;exact L
  refine tI (λ_=>tR λ_=>I _ ⟨by simp,by simp⟩ rfl ⟨by simp,by simp,.inl rfl,.inl rfl,.inl ⟨rfl,rfl⟩,by simp⟩) λ_=>tI (λh=>tR λ_=>I _ ⟨by simp,by simp⟩ rfl ⟨by simp,by simp,.inl rfl,.inl rfl,.inr ⟨.inl ⟨eq_of_beq h,rfl⟩,rfl⟩,by simp⟩) λ_=>tI (λT=> ?_) λ_=>N;have T:=eq_of_beq T;refine tB (kind_tot ho) λk V=> ?_;have hC:z.Op=7∨z.Op=9->0≤z.C/\z.C<y.B5:=by
   rintro(h|h)
   . simp[rg7 h]at u;omega
   . simp[rg9 h]at u;omega
  have hB:z.Op=8∨z.Op=9∨z.Op=26->0≤z.B/\z.B<y.B5:=by
   rintro(h|h|h)
   . simp[rg8 h]at u;omega
   . simp[rg9 h]at u;omega
   . simp[rg26 h]at u;omega
  have hA:z.Op=6∨z.Op=7∨z.Op=10∨z.Op=27->0≤z.A/\z.A<y.B5:=by
   rintro(h|h|h|h)
   . simp[rg6 h]at u;omega
   . simp[rg7 h]at u;omega
   . simp[rg10 h]at u;omega
   . simp[rg27 h]at u;omega
  refine tB (lP λh=>by have:=hC h;omega) λo H=>tI (λ_=>N) λdJ=> ?_;have V:=V.resolve_left (by simpa using dJ);obtain⟨⟨a1,a2,a3,a4,a5,a6,a7,a8,a9⟩,b1,b2,b3,b4,b5⟩:=V;have U:z.Op=7∨z.Op=9->(k=3∨k=4)/\(ix c.World.Cells o).CG≠0:=by
   have key:∀b v,Qm c.World b z.N->o=Aq (b+v)->(1≤z.N/\z.N≤4->0≤v/\v<z.N)->(ix c.World.Cells o).CG≠0:=by
    intro b v p j L;obtain⟨n1,n2⟩:=p7 G.v.w p;obtain⟨d,d1,d2⟩:=n2 v (L n1).1 (L n1).2;have hd:=d1;unfold gt at hd;split at hd
    . have:=(AAI.1 hd).1
      have:=(DB G.v.w).c;rw[j,CC (by omega) (by omega),nQ d1];exact d2
    . cases hd
   rintro(h|h)
   . obtain⟨v,v1,v2⟩:=H.1 h;exact⟨.inl (b1 h),key _ v (S.a.1 h) v1 v2⟩
   . obtain⟨v,v1,v2⟩:=H.2 h;exact⟨.inr (b2 h),key _ v (S.a.2 h) v1 v2⟩
  have mk:∀D F,(D=[]∨D∈x.CA/\(k=5∨(k=3∨k=4)/\(ix c.World.Cells o).CG≠0))->(F=[]∨F∈x.CA/\(k=4∨k=22))->D.length≤100000->F.length≤100000->PE c s th ⟨th,k,o,0,z.Site,D,F⟩:=
   λD F p j L h4=>I _ ⟨L,h4⟩ rfl ⟨λh=>hA (by simp only at h;omega),λh=>hB (by simp only at h;omega),p,j,.inr ⟨.inr ⟨T,a6,a8,a9,a7⟩,rfl⟩,a3⟩
  have X:∀D,(D=[]∨D∈x.CA/\(k=5∨(k=3∨k=4)/\(ix c.World.Cells o).CG≠0))->D.length≤100000->Cc (CZ.J3 x z ⟨th,k,o,0,z.Site,D,[]⟩) λr=>r.2=true->PE c s th r.1:=by
   intro D p j;have Z:∀b,(b=true->z.Op=8∨z.Op=9∨z.Op=26)->Cc (CZ.J4 ⟨th,k,o,0,z.Site,D,[]⟩ x z b) λr=>r.2=true->PE c s th r.1:=by
    intro b K;unfold CZ.J4 CZ.J5;refine tI (λh=>tG (by have:=hB (K h);omega) λq m=> ?_) λ_=>tR λ_=>mk _ _ p (.inl rfl) j (by simp);have M:=J q m;refine tC (B9 (by simp;omega)) (tR λ_=>mk _ _ p (.inr ⟨by simpa using m,?_⟩) j (by simpa using M))
    have:=K h;omega
   unfold CZ.J3;exact tI (λh=>Z _ λ_=>.inl (eq_of_beq h)) λ_=>tI (λh=>Z _ λ_=>.inr (.inl (eq_of_beq h))) λ_=>Z _ λh=>.inr (.inr (eq_of_beq h))
  have j2:∀b,(b=true->z.Op=7∨z.Op=9)->Cc (CZ.J2 th k o x z b) λr=>r.2=true->PE c s th r.1:=by intro b h;unfold CZ.J2;refine tI (λK=>tG (by have:=hC (h K);omega) λq m=> ?_) λ_=>X _ (.inl rfl) (by simp);have M:=J q m;exact tC (B9 (by omega)) (X _ (.inr ⟨m,.inr (U (h K))⟩) M)
  refine tI (λh=>tG (by have:=hA (.inr (.inr (.inl (eq_of_beq h))));omega) λq m=> ?_) λ_=>tI (λh=>j2 _ λ_=>.inl (eq_of_beq h)) λ_=>j2 _ λh=>.inr (eq_of_beq h);have M:=J q m;exact tC (B9 (by omega)) (X _ (.inr ⟨m,.inl (b3 (eq_of_beq h))⟩) M)
 unfold CZ;refine tB (zD hc s) λv hv=>tI (λ_=>j1 _ λh=>by cases h) λh=>tD (λ_=>j1 _ λh=>by cases h) λp=>j1 _ λj=>⟨hv (by simpa using h),by omega,?_⟩
 have:=of_decide_eq_false j;omega
def SI (N:Nat) (s:Ae):Prop:=RB N s.Sync/\∀t∈s.AA,TH N t
theorem TH.mono {E F:Nat} {t:AM} (h:TH E t) (a:E≤F):TH F t:=⟨h.r,h.t,h.b,h.e.1,by have:=h.e.2;omega⟩
theorem bP {E:Nat} {s:Ae} (h:∀t∈s.AA,TH E t) (b:E≤100000) (c:T9 s.Sync) (e:s.Cells.length≤1000) (g:s.AH.length≤1000) (f:s.AA.length≤1000):FH s=some s:=by
 have key:Cc (FH s) λr=>r=s:=by unfold FH;refine tE (mQ _ c) (tC (B9 (by omega)) (tC (B9 (by omega)) (OR s.AA.length (λi o=>o=⟨s.Sync,s.Cells,s.AH,s.AA.take i⟩) (F:=λn o i=>FH.AZ s n o i) (by omega) rfl λn i o hi d k=> ?_)));subst d;unfold FH.AZ FH.L1 FH.J1;refine tD (λ_=>YX (by omega) ?_) λ_=>tR (by rw[AAs (by omega)]);exact tE (bO (h _ (AAW (by omega))) b) (tC (B9 (by simp;omega)) (k _ (by omega) (by rw[AAX])))
 obtain⟨r,a,rfl⟩:=key;exact a
structure SR (c:BB) (s:Ae) (ch:BJ) (s':Ae) (e:AK):Prop where
 p:PE c s ch.Thread e
 en:Da c.World s.Sync ch.Thread e.Kind e.Obj=true
 sy:s'.Sync=(EA c.World s.Sync ch.Thread e.Kind e.Obj ch.Px).1
 va:(e.Kind=3->gt s.Cells e.Obj=some e.Value)/\(e.Kind=23->gt s.AH e.Obj=some e.Value)/\(e.Kind=5->e.Value=0∨e.Value=1)/\(e.Kind≠3->e.Kind≠23->e.Kind≠5->e.Kind≠4->e.Kind≠22->e.Value=(EA c.World s.Sync ch.Thread e.Kind e.Obj ch.Px).2)
 ce:s'.Cells=if e.Kind=4 then s.Cells.set e.Obj.toNat e.Value else s.Cells
 fu:s'.AH=if e.Kind=22 then s.AH.set e.Obj.toNat e.Value else s.AH
 th:∃x x',s.AA[ch.Thread.toNat]? =some x/\s'.AA=s.AA.set ch.Thread.toNat x'/\(e.Kind=16->x'.PC=x.PC)/\(x'=PX∨x'.AE=x.AE+1/\∀l∈x'.CA,∀k∈l,(∃m∈x.CA,k∈m)∨k=x.AE/\(e.Kind=3∨e.Kind=23))
theorem Vk {E:Nat} {c:BB} (hc:CK c) {s:Ae} (O:SI E s) (hE:E≤10000) (g:BJ):Cc (Ay c s g) λr=>r.2.2=true->(SI (E+1) r.1/\mV r.2.1)/\SR c s g r.1 r.2.1:=by
 obtain⟨hr,O⟩:=O;have N:∀{x y} {P:Ae×AK×Bool->Prop},Cc (some (x,y,false)) λr:Ae×AK×Bool=>r.2.2=true->P r:=tR λh=>by cases h
 unfold Ay;refine tB (RU hc O (by omega) g.Thread) λv hv=>tI (λ_=>N) λh=> ?_;have hv:=hv (by simpa using h);obtain⟨D,ht,J,hh,hi⟩:=hv;have S:=DB D.v.w;have w1:=S.c;have w2:=S.f;have w3:=S.t;have c1:=D.c';have c2:=D.u;have c3:=D.n;have c4:=D.v.n;refine tE (Ms _ S _ (hr.mono (by omega)) _ _ _ _) (tI (λ_=>N) λB=> ?_);have M:Da c.World s.Sync g.Thread v.1.Kind v.1.Obj=true:=by
  cases I:Da c.World s.Sync g.Thread v.1.Kind v.1.Obj with
  |true=>rfl
  |false=>simp[K4,I]at B
 have Z:Cm c.World v.1.Kind v.1.Obj=true:=by have M:=M;unfold Da at M;simp only[AAH]at M;exact M.2.2.1
 have hap:K4 c.World s.Sync g.Thread v.1.Kind v.1.Obj g.Px=((EA c.World s.Sync g.Thread v.1.Kind v.1.Obj g.Px).1,(EA c.World s.Sync g.Thread v.1.Kind v.1.Obj g.Px).2,true):=by simp[K4,M]
 rw[hap];have hR:=hr.apply c.World g.Thread v.1.Kind v.1.Obj g.Px;refine tE (bP O (by omega) (T9.of S D.f (hr.mono (by omega))) (by omega) (by omega) (by omega)) ?_;obtain⟨x,x1,x2,x3⟩:=F8 (l:=s.AA) (i:=g.Thread) (by omega);obtain⟨y,y1,y2,y3⟩:=F8 (l:=c.AA) (i:=g.Thread) (by omega);obtain⟨p1,p2,p3⟩:=D.t _ x y x2 y2;obtain⟨z,z1,z2,z3⟩:=F8 (l:=y.Aw) (i:=x.PC) (by omega);obtain⟨q,q1,q2,q3⟩:=F8 (l:=s.Sync.AA) (i:=g.Thread) (by have:=(Em D.f).2.2;omega);have iA:=(hi x y z q x2 y2 z2 q2).a;have iB:=(hi x y z q x2 y2 z2 q2).b;have K:=O x x3;refine tE x1 (tE y1 (tE z1 ?_));have hpe:∀val,PE c s g.Thread ⟨v.1.Thread,v.1.Kind,v.1.Obj,val,v.1.Site,v.1.EI,v.1.Dr⟩:=λval=>⟨D,ht,J,hh,λx y z q a b c d=>by have h:=hi x y z q a b c d;exact⟨h.a,h.b,h.d,h.r,h.s,h.j⟩⟩;generalize H:EA c.World s.Sync g.Thread v.1.Kind v.1.Obj g.Px=ap at hR ⊢
 let VAC:Int->List Int->List Int->Prop:=λval C F=>((v.1.Kind=3->gt s.Cells v.1.Obj=some val)/\(v.1.Kind=23->gt s.AH v.1.Obj=some val)/\(v.1.Kind=5->val=0∨val=1)/\(v.1.Kind≠3->v.1.Kind≠23->v.1.Kind≠5->v.1.Kind≠4->v.1.Kind≠22->val=ap.2))/\C=(if v.1.Kind=4 then s.Cells.set v.1.Obj.toNat val else s.Cells)/\F=(if v.1.Kind=22 then s.AH.set v.1.Obj.toNat val else s.AH)
 let TX:AM->Prop:=λt=>t=PX∨t.AE=x.AE+1/\∀l∈t.CA,∀k∈l,(∃m∈x.CA,k∈m)∨k=x.AE/\(v.1.Kind=3∨v.1.Kind=23)
 have j6:∀val C F t,VAC val C F->TX t->(v.1.Kind=16->t.PC=x.PC)->TH (E+1) t->Cc (Ay.J6 g ⟨v.1.Thread,v.1.Kind,v.1.Obj,val,v.1.Site,v.1.EI,v.1.Dr⟩ C F (ap.1,ap.2,true) s t) λr=>r.2.2=true->(SI (E+1) r.1/\mV r.2.1)/\SR c s g r.1 r.2.1:=by
  intro val C F t p B X h4;unfold Ay.J6;refine tE x1 (tR λ_=>⟨⟨⟨hR,?_⟩,J⟩,hpe val,M,by rw[H],?_,p.2.1,p.2.2,x,t,x2,rfl,X,B⟩)
  . intro q G;rcases AAm G with G|rfl
    . exact(O q G).mono (by omega)
    . exact h4
  . rw[H];exact p.1
 have W:Aq (x.AE+1)=x.AE+1:=by have:=K.e;exact CC (by omega) (by omega)
 have j5:∀val n C F t b,VAC val C F->(v.1.Kind=16->n=x.PC/\b=false)->t.AE=x.AE->(∀l∈t.CA,∀k∈l,(∃m∈x.CA,k∈m)∨k=x.AE/\(v.1.Kind=3∨v.1.Kind=23))->TH (E+1) ⟨0,t.B5,t.CA,Aq (t.AE+1)⟩->
  Cc (Ay.J5 c g ⟨v.1.Thread,v.1.Kind,v.1.Obj,val,v.1.Site,v.1.EI,v.1.Dr⟩ n C F t (ap.1,ap.2,true) s b) λr=>r.2.2=true->(SI (E+1) r.1/\mV r.2.1)/\SR c s g r.1 r.2.1:=by
  intro val n C F t b p hn I R B;unfold Ay.J5;have X:∀n,TH (E+1) ⟨n,t.B5,t.CA,Aq (t.AE+1)⟩:=λn=>⟨B.r,B.t,B.b,B.e⟩;refine tI (λo=>tE y1 (tB (iJ (X n) R (by omega) (hc.i y y3)) λu hu=>j6 _ _ _ _ p ?_ (λh=>by rw[(hn h).2]at o;cases o) hu.1)) λ_=>j6 _ _ _ _ p (.inr ⟨by rw[I,W],R⟩) (λh=>(hn h).1) (X n);exact hu.2.imp id λh=>⟨by rw[h.1,I,W],h.2⟩
 have j3:∀val n C F b,VAC val C F->(v.1.Kind=16->n=x.PC)->(b=true->(v.1.Kind=3∨v.1.Kind=23))->Cc (Ay.J3 c g ⟨v.1.Thread,v.1.Kind,v.1.Obj,val,v.1.Site,v.1.EI,v.1.Dr⟩ n C F (ap.1,ap.2,true) s x z b) λr=>r.2.2=true->(SI (E+1) r.1/\mV r.2.1)/\SR c s g r.1 r.2.1:=by
  intro val n C F b p hn B;unfold Ay.J3 Ay.J4;have I:=K.e;have T:∀{t},(∀l∈t.CA,∀k∈l,(∃m∈x.CA,k∈m)∨k=x.AE/\(v.1.Kind=3∨v.1.Kind=23))->t.AE=x.AE->TH (E+1) ⟨0,t.B5,t.CA,Aq (t.AE+1)⟩->Cc (if(v.1.Kind != 16)=true then Ay.J5 c g ⟨v.1.Thread,v.1.Kind,v.1.Obj,val,v.1.Site,v.1.EI,v.1.Dr⟩ n C F t (ap.1,ap.2,true) s (v.1.Kind != 2)else Ay.J5 c g ⟨v.1.Thread,v.1.Kind,v.1.Obj,val,v.1.Site,v.1.EI,v.1.Dr⟩ n C F t (ap.1,ap.2,true) s false) λr=>r.2.2=true->(SI (E+1) r.1/\mV r.2.1)/\SR c s g r.1 r.2.1:=λR I hT=>
   tI (λh=>j5 _ _ _ _ _ _ p (λQ=>by rw[Q]at h;cases h) I R hT) λ_=>j5 _ _ _ _ _ _ p (λh=>⟨hn h,rfl⟩) I R hT
  refine tI (λo=> ?_) λ_=> ?_
  . have B:=B o;have hA:=iA (by omega);refine tG (by omega) λ_ _=>tG (by omega) λ_ _=>T ?_ rfl ?_
    . intro l J k hk;rcases AAm J with J|rfl
      . exact .inl ⟨l,J,hk⟩
      . exact .inr ⟨AAh.1 hk,B⟩
    . simp only[W];refine⟨by simpa using K.r,by simpa using K.t,?_,by simp only;omega⟩;intro q G;rcases AAm G with G|rfl
      . exact(K.b q G).mono (by simp only;omega)
      . exact⟨by simp,by simp;omega⟩
  . refine T (λl J k hk=>.inl ⟨l,J,hk⟩) rfl ?_;simp only[W];exact⟨K.r,K.t,λq G=>(K.b q G).mono (by simp only;omega),by simp only;omega⟩
 have L:∀C F val n,VAC val C F->(v.1.Kind=16->n=x.PC)->Cc (Ay.J2 c g (ap.1,ap.2,true) s x z C F ⟨v.1.Thread,v.1.Kind,v.1.Obj,val,v.1.Site,v.1.EI,v.1.Dr⟩ n) λr=>r.2.2=true->(SI (E+1) r.1/\mV r.2.1)/\SR c s g r.1 r.2.1:=by intro C F val n p hn;unfold Ay.J2;exact tI (λh=>j3 _ _ _ _ _ p hn λ_=>.inl (eq_of_beq h)) λ_=>j3 _ _ _ _ _ p hn λh=>.inr (eq_of_beq h)
 have j1:∀b,(b=true->v.1.Kind=1∨v.1.Kind=16∨v.1.Kind=2)->(b=false->v.1.Kind≠16)->Cc (Ay.J1 c g v (ap.1,ap.2,true) s x z b) λr=>r.2.2=true->(SI (E+1) r.1/\mV r.2.1)/\SR c s g r.1 r.2.1:=by
  intro b o vK;unfold Ay.J1;refine tI (λh=>L _ _ _ _ ⟨⟨by have:=o h;omega,by have:=o h;omega,by have:=o h;omega,λ_ _ _ _ _=>rfl⟩,by rw[AAO (by have:=o h;omega)],by rw[AAO (by have:=o h;omega)]⟩ λ_=>rfl) λh0=>tI (λh=> ?_) λn3=>tI (λh=> ?_) λV=>tI (λh=> ?_) λn4=>tI (λh=> ?_) λU=>tI (λh=> ?_) λn5=> ?_
  . have h:=eq_of_beq h
    have:=Bh.1 (show ED v.1.Obj c.World.Cells.length=true by simpa[Cm,h]using Z);obtain⟨d,d1,_⟩:=F8 (l:=s.Cells) (i:=v.1.Obj) (by omega);exact tE d1 (L _ _ _ _ ⟨⟨λ_=>d1,by omega,by omega,by omega⟩,by rw[AAO (by omega)],by rw[AAO (by omega)]⟩ (by omega))
  . have h:=eq_of_beq h
    have:=Bh.1 (show ED v.1.Obj c.World.AH.length=true by simpa[Cm,h]using Z);obtain⟨d,d1,_⟩:=F8 (l:=s.AH) (i:=v.1.Obj) (by omega);exact tE d1 (L _ _ _ _ ⟨⟨by omega,λ_=>d1,by omega,by omega⟩,by rw[AAO (by omega)],by rw[AAO (by omega)]⟩ (by omega))
  . have h:=eq_of_beq h
    have:=Bh.1 (show ED v.1.Obj c.World.Cells.length=true by simpa[Cm,h]using Z);have o:=iB (.inl h);exact tG (by omega) λ_ _=>tG (by omega) λ_ _=>L _ _ _ _ ⟨⟨by omega,by omega,by omega,by omega⟩,by rw[AAP h],by rw[AAO (by omega)]⟩ (by omega)
  . have h:=eq_of_beq h
    have:=Bh.1 (show ED v.1.Obj c.World.AH.length=true by simpa[Cm,h]using Z);have o:=iB (.inr h);exact tG (by omega) λ_ _=>tG (by omega) λ_ _=>L _ _ _ _ ⟨⟨by omega,by omega,by omega,by omega⟩,by rw[AAO (by omega)],by rw[AAP h]⟩ (by omega)
  . have h:=eq_of_beq h;have o:=iA (.inr (.inr h));exact tG (by omega) λ_ _=>tI (λ_=>L _ _ _ _ ⟨⟨by omega,by omega,λ_=>.inl rfl,by omega⟩,by rw[AAO (by omega)],by rw[AAO (by omega)]⟩ (by omega)) λ_=>L _ _ _ _ ⟨⟨by omega,by omega,λ_=>.inr rfl,by omega⟩,by rw[AAO (by omega)],by rw[AAO (by omega)]⟩ (by omega)
  . simp only[beq_eq_false_iff_ne,ne_eq]at n3 V n4 U n5;exact L _ _ _ _ ⟨⟨λh=>absurd h n3,λh=>absurd h V,λh=>absurd h n5,λ_ _ _ _ _=>rfl⟩,by rw[AAO n4],by rw[AAO U]⟩ λh=>absurd h (vK h0)
 exact tI (λh=>j1 _ (λ_=>.inl (eq_of_beq h)) λQ=>by rw[Q]at h;cases h) λ_=>tI (λh=>j1 _ (λ_=>.inr (.inl (eq_of_beq h))) λQ=>by rw[Q]at h;cases h) λn16=>j1 _ (λh=>.inr (.inr (eq_of_beq h))) λ_=>by simpa using n16
structure TM (n:Nat) (t:BN):Prop where
 n:t.AE.length≤n
 e:∀e∈t.AE,mV e
 w:t.AE≠[]->Ct t.World=true
theorem mV.ok {e:AK} (h:mV e):OO e:=⟨by have:=h.1;omega,by have:=h.2;omega⟩
theorem getT {s:AQ} {i:Int} {f:AF->AF} {u:Nat} {q:AF} (hi:0≤i/\i<s.AA.length) (h:(K2 s i f).AA[u]? =some q):(u:Int)=i/\q=f (ix s.AA i)∨(u:Int)≠i/\s.AA[u]? =some q:=by
 unfold K2 at h;by_cases e:(u:Int)=i
 . have a:i.toNat=u:=(by omega);rw[a,AAK (by omega)]at h;exact .inl ⟨e,(AAJ h).symm⟩
 . rw[AAM (by omega)]at h;exact .inr ⟨e,h⟩
theorem oJ {a:Type} [Inhabited a] {l:List a} {u:Nat} {i:Int} {x:a} (h:l[u]? =some x) (hi:(u:Int)=i):ix l i=x:=by subst hi;unfold ix;simp[h]
theorem tH {wv:AD} {s:AQ} {t k o:Int} (h:Da wv s t k o=true) (a:k≠1) (b:k≠17):(ix s.AA t).Status=2:=by unfold Da Kh at h;simp only[AAH,AAO a,AAO b]at h;exact eq_of_beq h.2.2.2.1
theorem MI {wake:Int} {W:List Int} (h:W≠[]):D6 wake W∈W:=by
 unfold D6;rw[AAO h];split
 . rename_i h;simpa using h
 . cases W with
   |nil=>exact absurd rfl h
   |cons a r=>simp
theorem mJ (o:Int) (T:List AF):∀(i:Nat) (u:Int),u∈CD o i T->∃x,T[(u-i).toNat]? =some x/\x.Status=3:=by
 induction T with
 |nil=>intro i u h;cases h
 |cons x r ih=>
  intro i u h;unfold CD at h;have key:u∈CD o (i+1) r->∃y,(x::r)[(u-i).toNat]? =some y/\y.Status=3:=by intro h;have b:=(II o r (i+1) u h).1;obtain⟨y,y1,y2⟩:=ih (i+1) u h;refine⟨y,?_,y2⟩;rw[show(u-(i:Int)).toNat=(u-((i+1:Nat):Int)).toNat+1 from by omega,AA2];exact y1
  split at h
  . rename_i a;rcases AAg.1 h with rfl|h
    . refine⟨x,by simp,?_⟩;unfold Ih at a;simp only[AAH]at a;exact eq_of_beq a.1
    . exact key h
  . exact key h
theorem mD {wv:AD} {s:AQ} {t k o wake:Int} (h:Da wv s t k o=true) {u:Nat} {i:AF} (c:(EA wv s t k o wake).1.AA[u]? =some i):
 ((u:Int)=t->k=16∨i.Status=2∨i.Status=5)/\((u:Int)≠t->i.Status=1∨∃q,s.AA[u]? =some q/\(i=q∨q.Status=3/\i.Status=4)):=by
 have m:=λa b=>tH h (k:=k) a b;have E:=h;unfold Da at E;simp only[AAH]at E;obtain⟨M,C,L,H⟩:=E;obtain⟨_,_,N⟩:=Em M;have C:=Bh.1 C;rw[← N]at C
 -- a thread's own place
 have own:∀(j:AQ) (f:AF->AF),j.AA=s.AA->(K2 j t f).AA[u]? =some i->(k=16∨(f (ix s.AA t)).Status=2∨(f (ix s.AA t)).Status=5)->
  ((u:Int)=t->k=16∨i.Status=2∨i.Status=5)/\((u:Int)≠t->i.Status=1∨∃q,s.AA[u]? =some q/\(i=q∨q.Status=3/\i.Status=4)):=by
  intro j f G y z;rcases getT (by rw[G];exact C) y with⟨e,rfl⟩|⟨e,p⟩
  . rw[G];exact⟨λ_=>z,λh=>absurd e h⟩
  . rw[G]at p;exact⟨λh=>absurd h e,λ_=>.inr ⟨i,p,.inl rfl⟩⟩
 -- nobody's place
 have g:∀(T:List AF),T=s.AA->T[u]? =some i->(ix s.AA t).Status=2->((u:Int)=t->k=16∨i.Status=2∨i.Status=5)/\((u:Int)≠t->i.Status=1∨∃q,s.AA[u]? =some q/\(i=q∨q.Status=3/\i.Status=4)):=by rintro _ rfl y z;exact⟨λe=>.inr (.inl (by rw[oJ y e]at z;exact z)),λ_=>.inr ⟨i,y,.inl rfl⟩⟩
 unfold EA at c;by_cases l:k=1
 . rw[AAP l]at c;exact own s _ rfl c (.inr (.inl rfl))
 rw[AAO l]at c;by_cases K:k=2
 . rw[AAP K]at c;exact own s _ rfl c (.inr (.inr rfl))
 rw[AAO K]at c;by_cases e:k=6∨k=10
 . rw[AAP e]at c;exact g _ rfl c (m l (by omega))
 rw[AAO e]at c;by_cases e:k=7∨k=11
 . rw[AAP e]at c;exact g _ rfl c (m l (by omega))
 rw[AAO e]at c;by_cases e:k=8
 . rw[AAP e]at c;exact g _ rfl c (m l (by omega))
 rw[AAO e]at c;by_cases e:k=9
 . rw[AAP e]at c;exact g _ rfl c (m l (by omega))
 rw[AAO e]at c;by_cases e:k=12
 . rw[AAP e]at c;exact g _ rfl c (m l (by omega))
 rw[AAO e]at c;by_cases e:k=13
 . rw[AAP e]at c;exact g _ rfl c (m l (by omega))
 rw[AAO e]at c;by_cases e:k=14
 . rw[AAP e]at c;exact own s _ rfl c (.inr (.inl (m l (by omega))))
 rw[AAO e]at c;by_cases e:k=15
 . rw[AAP e]at c;exact own s _ rfl c (.inr (.inl (m l (by omega))))
 rw[AAO e]at c;by_cases D:k=16
 . rw[AAP D]at c;exact own (Ki s (ix wv.Af o).Mutex λx=>⟨-1,x.Aj⟩) _ rfl c (.inl D)
 rw[AAO D]at c;by_cases n:k=17
 . rw[AAP n]at c;exact own (Ki s (ix wv.Af o).Mutex λx=>⟨t,x.Aj⟩) _ rfl c (.inr (.inl rfl))
 rw[AAO n]at c;have j:=m l n;by_cases e:k=18
 . rw[AAP e]at c;by_cases B:CD o 0 s.AA=[]
   . rw[AAP B]at c;exact g _ rfl c j
   . rw[AAO B]at c;obtain⟨x,v,O⟩:=mJ o s.AA 0 _ (MI (wake:=wake) B);have I:=II o s.AA 0 _ (MI (wake:=wake) B);generalize D6 wake (CD o 0 s.AA)=d at c v I;have v:s.AA[d.toNat]? =some x:=(by simpa using v);have hd:ix s.AA d=x:=oJ v (by omega);rcases getT (by simp at I;omega) c with⟨e,rfl⟩|⟨e,p⟩
     . refine⟨λh=> ?_,λ_=>.inr ⟨x,?_,.inr ⟨O,rfl⟩⟩⟩
       . rw[← h,e,hd]at j;omega
       . rw[show u=d.toNat from by omega];exact v
     . exact g _ rfl p j
 rw[AAO e]at c;by_cases e:k=19
 . rw[AAP e]at c;have c:(s.AA.map (IW o))[u]? =some i:=c;rw[AAR]at c;cases hx:s.AA[u]? with
   |none=>rw[hx]at c;cases c
   |some x=>
    rw[hx]at c;obtain rfl:=AAJ c;unfold IW;by_cases r:Ih x o=true
    . have:x.Status=3:=(by unfold Ih at r;simp only[AAH]at r;exact eq_of_beq r.1);rw[AAP r];refine⟨λe=> ?_,λ_=>.inr ⟨x,rfl,.inr ⟨this,rfl⟩⟩⟩;rw[oJ hx e]at j;omega
    . rw[AAO r];exact⟨λe=>.inr (.inl (by rw[oJ hx e]at j;exact j)),λ_=>.inr ⟨x,rfl,.inl rfl⟩⟩
 rw[AAO e]at c;by_cases w:k=20
 . rw[AAP w]at c;have J:ED o wv.AA.length=true:=(by simpa[Cm,w]using L);have F:o≠t:=(by simp[Kh,w]at H;exact H.2.1);have J:=Bh.1 J;rcases getT (by omega) c with⟨e,rfl⟩|⟨e,p⟩
   . exact⟨λh=>absurd (e.symm.trans h) F,λ_=>.inl rfl⟩
   . exact g _ rfl p j
 rw[AAO w]at c;by_cases e:k=22
 . rw[AAP e]at c;exact g _ rfl c j
 . rw[AAO e]at c;exact g _ rfl c j
theorem V1 (wv:AD) (s:AQ) (t k o wake:Int):(EA wv s t k o (if k=18 then(EA wv s t k o wake).2 else -1)).1=(EA wv s t k o wake).1:=by
 by_cases h:k=18
 . rw[AAP h,h];have key:∀w,(EA wv s t 18 o w)=(if CD o 0 s.AA=[]then s else K2 s (D6 w (CD o 0 s.AA)) Hk,D6 w (CD o 0 s.AA)):=λw=>by simp[EA]
   rw[key,key];by_cases a:CD o 0 s.AA=[]
   . simp[a]
   . have:=MI (wake:=wake) a;simp only[a,AAY];rw[show D6 (D6 wake (CD o 0 s.AA)) (CD o 0 s.AA)=D6 wake (CD o 0 s.AA)from ?_];generalize D6 wake (CD o 0 s.AA)=d at this ⊢;unfold D6;rw[AAO a,AAP (by simpa using this)]
 . rw[AAO h];unfold EA;simp only[AAO h]
theorem nums_of {c:Int} (D:List Int):∀a:Int,D.Pairwise (· < ·)->(∀k∈D,a<k/\k<c)->Gp c a D=true:=by
 induction D with
 |nil=>exactλ_ _ _=>rfl
 |cons x r ih=>intro a f b;obtain⟨g,h⟩:=List.pairwise_cons.1 f;have e:=b x AA9;unfold Gp;simp only[AAH,AAZ];exact⟨e.1,e.2,ih x h λk d=>⟨g k d,(b k (List.mem_cons_of_mem _ d)).2⟩⟩
theorem isIn_app {l:List Bool} {b:Bool} {k:Int} (h:KF l k=true):KF (l++[b]) k=true:=by
 unfold KF at h ⊢;simp only[AAH]at h ⊢;have hi:=Bh.1 h.1;refine⟨Bh.2 (by simp;omega),?_⟩
 have:=h.2;unfold ix at this ⊢;rw[AAf (by omega)];exact this
theorem sB {l:List Bool}:KF (l++[true]) (l.length:Int)=true:=by unfold KF;simp only[AAH];exact⟨Bh.2 (by simp;omega),by unfold ix;simp⟩
structure GT (pre:List AK) (u:Int) (cnt:Int) (x:AM):Prop where
 c:cnt=x.AE
 n:x.AE=((Jj pre u).length:Int)
 k:∀l∈x.CA,∀k∈l,KF (Jj pre u) k=true/\1≤k
structure LK (c:BB) (pre:List AK) (S:AB) (s:Ae):Prop where
 y:S.Sync=s.Sync
 ce:S.Cells=s.Cells
 f:S.AH=s.AH
 n:S.Count.length=c.World.AA.length
 t:∀(u:Nat) x y,s.AA[u]? =some x->c.AA[u]? =some y->y.B5=0∨x=PX∨GT pre u (ix S.Count u) x
 w:∀(u:Nat) x y q,s.AA[u]? =some x->c.AA[u]? =some y->s.Sync.AA[u]? =some q->q.Status=3∨q.Status=4->∃z,gt y.Aw x.PC=some z/\z.Op=21
 e:∀(u:Nat) x q,s.AA[u]? =some x->s.Sync.AA[u]? =some q->2≤q.Status->x=PX∨1≤x.AE
theorem xH {wv:AD} {s:AQ} {t k o wake:Int} (c:k≠18) (d:k≠19):(EA wv s t k o wake).2=0:=by
 have key:∀(P:Prop) [Decidable P] (a b:AQ×Int),a.2=0->b.2=0->(if P then a else b).2=0:=λP _ a b e f=>by
  by_cases h:P
  . rw[AAP h];exact e
  . rw[AAO h];exact f
 unfold EA;rw[AAO c,AAO d]
 repeat' first|rfl|apply key
theorem sim {E:Nat} {c:BB} {s s':Ae} {g:BJ} {e:AK} {j:List AK} {S:AB} (hE:E≤10000) (M:SI E s) (B:LK c j S s) (hr:SR c s g s' e):
 JL c.World S e=true/\O6 j e=true/\LK c (j++[e]) (Fu c.World S e) s':=by
 obtain⟨hp,Q,hsy,hva,hce,hfu,x,x',W,hth,h16,Kc⟩:=hr;obtain⟨O,ht,_,U,hi⟩:=hp;have c1:=O.c';have c2:=O.u;have c3:=O.n;have c4:=O.v.n;have l3:=(Em O.f).2.2;obtain⟨y,_,y2,_⟩:=F8 (l:=c.AA) (i:=g.Thread) (by omega);obtain⟨p1,p2,p3⟩:=O.t _ x y W y2;obtain⟨z,z1,z2,z3⟩:=F8 (l:=y.Aw) (i:=x.PC) (by omega);obtain⟨q,_,q2,_⟩:=F8 (l:=s.Sync.AA) (i:=g.Thread) (by omega);have F:=hi x y z q W y2 z2 q2;have hz:=(O.v.t _ y y2).i z z3;have hx:=M.2 x (AAS W);have H:((g.Thread.toNat:Nat):Int)=g.Thread:=by omega
 -- a thread with registers shows what its trace shows
 have hgt:y.B5=0∨GT j g.Thread (ix S.Count g.Thread) x:=by
  rcases B.t _ x y W y2 with h|h|h
  . exact .inl h
  . rw[h]at p2;exact .inl p2.symm
  . rw[H]at h;exact .inr h
 have K:∀D,D=[]∨D∈x.CA->Gp (ix S.Count e.Thread) 0 D=true/\D.all (KF (Jj j e.Thread))=true:=by
  rintro D (rfl|K)
  . exact⟨rfl,rfl⟩
  . rcases hgt with h|h
    . have:x.CA.length=0:=(by omega);rw[List.length_eq_zero_iff.1 this]at K;cases K
    . rw[U];refine⟨nums_of D 0 (hx.b D K).1 λk V=>⟨by have:=(h.k D K k V).2;omega,?_⟩,AAN.2 λk V=>(h.k D K k V).1⟩;rw[h.c];exact((hx.b D K).2 k V).2
 have hdp:=K e.EI (F.d.imp id λh=>h.1);have bG:=K e.Dr (F.r.imp id λh=>h.1);have p:Cm c.World e.Kind e.Obj=true:=by have Q:=Q;unfold Da at Q;simp only[AAH]at Q;exact Q.2.2.1
 have Tl:NT c.World e=true:=by
  unfold NT;have site:z.Op≠28->e.Site=z.Site->(ED e.Site c.World.BL.length&&(ix c.World.BL e.Site).Thread==e.Thread)=true:=by
   intro Z J;have M:=hz.s;unfold Xh at M;rw[AAO Z,H]at M;obtain⟨b,X,b2⟩:=M;have C:=X;unfold gt at C;split at C
   . have:=(AAI.1 C).1;rw[J,nQ X,b2,U];simp only[AAH,AA5,and_true];exact Bh.2 (by omega)
   . cases C
  rcases F.s with⟨k1,k2⟩|⟨⟨q4,lI⟩|⟨q2',k2,n1,n17,T⟩,G⟩
  . rw[AAP (.inl k1),k2];rfl
  . obtain⟨z',X,b2⟩:=B.w _ x y q W y2 q2 (.inr q4);rw[z1]at X;obtain rfl:=AAJ X;rw[AAO (by omega)];exact site (by omega) G
  . by_cases J:e.Kind=2
    . have M:=hz.s;unfold Xh at M;rw[AAP (k2.1 J)]at M;rw[AAP (.inr J),G,M];rfl
    . rw[AAO (by omega)];exact site (λh=>J (k2.2 h)) G
 have hdet:FE c.World S e=true:=by unfold FE;rw[hdp.1,bG.1];simp only[Bool.and_true,AAH,AAp];refine⟨F.d.imp (λh=>by rw[h];rfl) λh=>h.2.imp (λh=>by rw[h];rfl) λh=> ?_,F.r.imp (λh=>by rw[h];rfl) λh=>h.2.imp (λh=>by rw[h];rfl) λh=>by rw[h];rfl⟩;unfold Rp;rw[AAP h.1];simpa using h.2
 have Bb:JG S e=true:=by
  unfold JG;rw[B.ce,B.f,B.y];obtain⟨v1,v2,v3,v4⟩:=hva;by_cases k3:e.Kind=3
  . rw[AAP k3,nQ (v1 k3)];simp
  rw[AAO k3];by_cases sD:e.Kind=23
  . rw[AAP sD,nQ (v2 sD)];simp
  rw[AAO sD];by_cases k5:e.Kind=5
  . rw[AAP k5];rcases v3 k5 with h|h<;>rw[h]<;>rfl
  rw[AAO k5];by_cases k4:e.Kind=4∨e.Kind=22
  . rw[AAP k4]
  rw[AAO k4];have hv:=v4 k3 sD k5 (by omega) (by omega);by_cases P:e.Kind=18
  . rw[AAP P];have:e.Value=D6 g.Px (CD e.Obj 0 s.Sync.AA):=(by rw[hv,P];simp[EA]);by_cases hW:CD e.Obj 0 s.Sync.AA=[]
    . rw[this,hW];rfl
    . have hm:=MI (wake:=g.Px) hW;rw[← this]at hm;simp only[AAp];exact .inl (by simpa using hm)
  rw[AAO P];by_cases mO:e.Kind=19
  . rw[AAP mO,hv,mO];simp[EA]
  rw[AAO mO,hv];simp[xH P mO]
 have R:JL c.World S e=true:=by unfold JL Kl;rw[B.y,B.ce,B.f,O.f,U,Q,Tl,hdet,Bb,B.n,c1,c2];simp only[AA5,Bool.and_true,AAd];exact Bh.2 (by omega)
 have L:O6 j e=true:=by unfold O6;rw[hdp.2,bG.2];rfl
 refine⟨R,L,?_⟩;have hsy':(Fu c.World S e).Sync=s'.Sync:=by
  show(EA c.World S.Sync e.Thread e.Kind e.Obj (if e.Kind=18 then e.Value else -1)).1=_
  rw[B.y,hsy,U];by_cases P:e.Kind=18
  . have hv:=hva.2.2.2 (by omega) (by omega) (by omega) (by omega) (by omega)
    have:=V1 c.World s.Sync g.Thread e.Kind e.Obj g.Px;rw[AAP P]at this ⊢;rw[hv];exact this
  . have:=V1 c.World s.Sync g.Thread e.Kind e.Obj g.Px;rw[AAO P]at this ⊢;exact this
 have I:∀(u:Nat) a,s'.AA[u]? =some a->(u:Int)=g.Thread/\a=x'∨(u:Int)≠g.Thread/\s.AA[u]? =some a:=by
  intro u a p;rw[hth]at p;by_cases o:(u:Int)=g.Thread
  . rw[show g.Thread.toNat=u from by omega,AAK (by omega)]at p;exact .inl ⟨o,(AAJ p).symm⟩
  . rw[AAM (by omega)]at p;exact .inr ⟨o,p⟩
 have N:∀u:Nat,ix (Fu c.World S e).Count (u:Int)=if(u:Int)=g.Thread then Aq (ix S.Count g.Thread+1)else ix S.Count u:=by
  intro u;show ix (S.Count.set e.Thread.toNat (Aq (ix S.Count e.Thread+1))) u=_;rw[U];by_cases o:(u:Int)=g.Thread
  . rw[AAP o];have Df:u<S.Count.length:=(by rw[B.n];omega);rw[show g.Thread.toNat=u from by omega];unfold ix;simp[Df]
  . rw[AAO o];unfold ix;rw[AAM (by omega)]
 have RZ:∀u:Int,Jj (j++[e]) u=if g.Thread=u then Jj j u++[dW e]else Jj j u:=λu=>by rw[LQ,U]
 have CF:∀(u:Nat) b,s'.Sync.AA[u]? =some b->((u:Int)=g.Thread->e.Kind=16∨b.Status=2∨b.Status=5)/\((u:Int)≠g.Thread->b.Status=1∨∃q,s.Sync.AA[u]? =some q/\(b=q∨q.Status=3/\b.Status=4)):=by intro u b C;rw[hsy]at C;exact mD Q C
 refine⟨hsy',?_,?_,?_,?_,?_,?_⟩
 . rw[hce,← B.ce];rfl
 . rw[hfu,← B.f];rfl
 . show(S.Count.set _ _).length=_;rw[List.length_set];exact B.n
 . intro u a b p C;rcases I u a p with⟨o,rfl⟩|⟨o,p⟩
   . rw[show u=g.Thread.toNat from by omega,y2]at C;obtain rfl:=AAJ C;rcases hgt with h|h
     . exact .inl h
     . rcases Kc with Kc|⟨e1,e2⟩
       . exact .inr (.inl Kc)
       . by_cases hR:y.B5=0
         . exact .inl hR
         . refine .inr (.inr ⟨?_,?_,?_⟩)
           . rw[N,AAP o,h.c,e1]
             have:=hx.e;exact CC (by omega) (by omega)
           . rw[RZ,o,AAP rfl,e1,h.n];simp
           . intro l hl' k V;rw[RZ,o,AAP rfl];rcases e2 l hl' k V with⟨m,m1,m2⟩|⟨rfl,hk3⟩
             . exact⟨isIn_app (h.k m m1 k m2).1,(h.k m m1 k m2).2⟩
             . have hr:dW e=true:=(by unfold dW;rcases hk3 with h|h<;>simp[h]);rw[hr]
               have:=sB (l:=Jj j g.Thread);rw[← h.n]at this;refine⟨this,?_⟩;have hq:2≤q.Status:=(by rcases F.s with⟨k1,_⟩|⟨⟨_,lI⟩|⟨q2',_⟩,_⟩<;>omega);rcases B.e _ x q W q2 hq with h0|h0
               . rw[h0]at p2;exact absurd p2.symm hR
               . exact h0
   . rcases B.t u a b p C with h|h|h
     . exact .inl h
     . exact .inr (.inl h)
     . refine .inr (.inr ⟨?_,?_,?_⟩)
       . rw[N,AAO o];exact h.c
       . rw[RZ,AAO (λh=>o h.symm)];exact h.n
       . rw[RZ,AAO (λh=>o h.symm)];exact h.k
 . intro u a b d p C hd hs34;rcases I u a p with⟨o,rfl⟩|⟨o,p⟩
   . rw[show u=g.Thread.toNat from by omega,y2]at C;obtain rfl:=AAJ C;have T:e.Kind=16:=(by rcases(CF u d hd).1 o with h|h|h<;>omega);rw[h16 T];refine⟨z,z1,?_⟩;rcases F.s with⟨k1,_⟩|⟨⟨_,lI⟩|⟨_,_,_,_,h⟩,_⟩
     . omega
     . omega
     . exact h T
   . rcases(CF u d hd).2 o with h|⟨q',Z,J⟩
     . omega
     . refine B.w u a b q' p C Z ?_;rcases J with rfl|J
       . exact hs34
       . exact .inl J.1
 . intro u a d p hd J;rcases I u a p with⟨o,rfl⟩|⟨o,p⟩
   . rcases Kc with h|⟨e1,_⟩
     . exact .inl h
     . have:=hx.e;exact .inr (by omega)
   . rcases(CF u d hd).2 o with h|⟨q',Z,h3⟩
     . omega
     . refine B.e u a q' p Z ?_;rcases h3 with rfl|h3<;>omega
theorem TO {wv:AD} {j:Nat} {q:AF} (h:(Jh wv).AA[j]? =some q):q.Status=0∨q.Status=1:=by
 have h:=AAS h;unfold Jh at h;rcases AAm h with h|rfl
 . rw[ABO h];exact .inl rfl
 . exact .inr rfl
theorem fW {c:BB} (H:CK c) (b:BV c=some true):Cc (Bp c) λs=>SI 0 s/\LK c [] (Ft c.World) s:=by
 unfold Bp;obtain⟨v,E,G⟩:=N8 H;rw[b]at E;have Q:=G (AAJ E).symm;rw[b,AAF];refine tI (λh=>by cases h) λ_=> ?_;have b:=Q;have z:=DB b.w;have W:=z.c;have X:=z.f;have Z:=H.n;refine tE (S6 _ z) (OR c.World.Cells.length (λi s=>s.Sync=Jh c.World/\s.Cells=(c.World.Cells.take i).map (·.Init)/\s.AH=[]/\s.AA=[]) (F:=λn s i=>Bp.AZ c n s i) (by omega) ⟨rfl,rfl,rfl,rfl⟩ λn i s hi e k=> ?_);obtain⟨J,g,K,L⟩:=e;have T:s.Cells.length=i:=by rw[g];simp;omega
 unfold Bp.AZ Bp.L1 Bp.J1;refine tD (λ_=>YX (by omega) (tC (B9 (by omega)) (k _ (by omega) ⟨J,by simp only;rw[g,← AAX (by omega),AAv];rfl,K,L⟩))) λ_=> ?_;have g:s.Cells=c.World.Cells.map (·.Init):=by rw[g,AAs (by omega)]
 refine OR c.World.AH.length (λi t=>t.Sync=Jh c.World/\t.AH=List.replicate i 0/\t.AA=[]/\t.Cells=s.Cells) (F:=λn s i=>Bp.DI c n s i) (by omega) ⟨J,by simp[K],L,rfl⟩ λn i t hi e k=> ?_;obtain⟨M,m,C,N⟩:=e;have T:t.AH.length=i:=by rw[m];simp
 unfold Bp.DI Bp.L2 Bp.J2;refine tD (λ_=>tC (B9 (by omega)) (k _ (by omega) ⟨M,by simp only;rw[m,← List.replicate_succ'],C,N⟩)) λ_=> ?_;have m:t.AH=List.replicate c.World.AH.length 0:=by rw[m,show i=c.World.AH.length by omega]
 refine OR c.AA.length (λi u=>u.Sync=Jh c.World/\u.AA.length=i/\(∀x∈u.AA,TH 0 x/\x.AE=0/\∀l∈x.CA,l=[])/\u.Cells=s.Cells/\u.AH=t.AH) (F:=λn s i=>Bp.GL c n s i) (by omega) ⟨M,by simp[C],by simp[C],N,rfl⟩ λn i u hi e k=> ?_;obtain⟨o,V,D,O,P⟩:=e;unfold Bp.GL Bp.L3 Bp.J3;refine tD (λ_=>YX (by omega) ?_) λ_=>tR ⟨⟨by rw[o];exact RB.start _,λx a=>(D x a).1⟩,by rw[o];rfl,by rw[O,g];rfl,by rw[P,m];rfl,by have:=b.n;simp[Ft],?_,?_,?_⟩
 . have U:=(b.t i _ (AAL (by omega))).r;refine tC ⟨by omega,by omega,B9 (by omega)⟩ (tC ⟨by omega,by omega,B9 (by omega)⟩ (tC (B9 (by omega)) (k _ (by omega) ⟨o,by simp;omega,?_,O,P⟩)));intro x a;rcases AAa.1 a with a|a
   . exact D x a
   . rw[AAh.1 a];refine⟨⟨by simp;omega,by simp;omega,?_,by simp⟩,rfl,λl p=>ABO p⟩;intro y B;have B:=ABO B;rw[B];exact⟨List.Pairwise.nil,by simp⟩
 . intro j x y a _;have a:=D x (AAS a);refine .inr (.inr ⟨?_,by rw[a.2.1];rfl,λl p k I=>by rw[a.2.2 l p]at I;cases I⟩);rw[a.2.1];show ix (List.replicate c.World.AA.length 0) (j:Int)=0;unfold ix;simp only[AA4];by_cases S:j<c.World.AA.length
   . rw[AAL (by simpa using S)];simp
   . rw[ABE (by simp;omega)];rfl
 . intro j x y q _ _ d R;rw[o]at d
   have:=TO d;omega
 . intro j x q _ d G;rw[o]at d
   have:=TO d;omega
def Acc (wv:AD) (l:List AK) (S:AB):Prop:=∀r,GM wv [] (Ft wv) (l++r)=GM wv l S r
theorem Acc.step {wv:AD} {l:List AK} {S:AB} (h:Acc wv l S) {e:AK} (a:JL wv S e=true) (b:O6 l e=true):Acc wv (l++[e]) (Fu wv S e):=by intro r;rw[AA0,h,List.singleton_append,GM,a,b];rfl
theorem v8 {c:BB} (q:CK c) {s:Ae} (j:SI 0 s) (u:LK c [] (Ft c.World) s) {l:List BJ} (D:l.length≤1000):Cc (C2 c s [] l) λr=>(r.1.length≤l.length/\∀e∈r.1,mV e)/\∃S,Acc c.World r.1 S/\LK c r.1 S r.2:=by
 unfold C2;refine OR l.length (λi (s:List AK×Ae)=>(SI i s.2/\s.1.length≤i/\∀e∈s.1,mV e)/\∃S,Acc c.World s.1 S/\LK c s.1 S s.2) (F:=λn s i=>C2.AZ c l n s.1 s.2 i) (s0:=([],s)) (by omega) ⟨⟨j,by simp,by simp⟩,_,λ_=>rfl,u⟩ λn i s hi j k=> ?_;obtain⟨⟨f,E,g⟩,S,b,d⟩:=j;have up:SI (i+1) s.2:=⟨f.1.mono (by omega),λt w=>(f.2 t w).mono (by omega)⟩;unfold C2.AZ C2.L1 C2.J1 C2.J2 C2.J3;refine tD (λ_=>tI (λ_=>tG (by omega) λx _=> ?_) λ_=>tR ⟨⟨by simp only;omega,g⟩,S,b,d⟩) λ_=>tI (λh=>by cases h) λ_=>tR ⟨⟨by simp only;omega,g⟩,S,b,d⟩;refine tB (Vk q f (by omega) x) λv y=>tI (λh=> ?_) λ_=>k (_,_) (by omega) ⟨⟨up,by simp only;omega,g⟩,S,b,d⟩;obtain⟨⟨z,B⟩,C⟩:=y h;obtain⟨m,o,p⟩:=sim (by omega) f d C;refine tC (B9 (by omega)) (k (_,_) (by omega) ⟨⟨z,by simp;omega,?_⟩,_,b.step m o,p⟩);intro e a;rcases AAa.1 a with a|a
 . exact g e a
 . rw[AAh.1 a];exact B
structure TA (n:Nat) (t:BN):Prop where
 m:TM n t
 c:GM t.World [] (Ft t.World) t.AE=(0,0)
theorem Run_ok {c:BB} (a:CK c) {l:List BJ} (j:l.length≤1000):Cc (Ii c l) λr=>TA l.length r.1:=by
 unfold Ii;obtain⟨v,d,i⟩:=N8 a;rw[d,AAF];refine tI (λ_=>tR ⟨⟨by simp,by simp,λh=>absurd rfl h⟩,rfl⟩) λh=> ?_;have f:v=true:=by simpa using h
 refine tB (fW a (by rw[d,f])) λs e=>tB (v8 a e.1 e.2 j) λr b=>tR ⟨⟨b.1.1,b.1.2,λ_=>(i f).w⟩,?_⟩;obtain⟨S,g,_⟩:=b.2
 have:=g [];rw[ABV]at this;exact this
end Go.Abs
