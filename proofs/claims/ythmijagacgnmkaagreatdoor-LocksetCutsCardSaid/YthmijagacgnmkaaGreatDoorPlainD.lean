/- What the typed programs give, in plain Lean. -/
import Derived.Test.YthmijagacgnmkaaGreatDoorWalkS
import Derived.Test.YthmijagacgnmkaaGreatDoorPlainC
import Derived.Test.YthmijagacgnmkaaGreatDoorRows
import Derived.Test.YthmijagacgnmkaaGreatDoorTie
import Derived.ProofKit
import Derived.LaidMore
import Derived.OpenShut
set_option linter.unusedSimpArgs false
set_option linter.unusedVariables false
namespace Go.Abs
section
set_option maxHeartbeats 4000000
section
variable{T:AB9->Prop}{g h r:A9}{lo hi lo' hi':Int}
theorem dK(h:g.w.Af=[⟨cN,0⟩]):CQ g cN=some (0,g):=by unfold CQ;have a:=BU;obtain⟨n,hn⟩:∃n,BP=n+1:=⟨BP-1,by omega⟩;rw[hn];unfold CQ.AZ CQ.L1;rw[h];simp[gt]
theorem zE{l:List AB9}{s:AB9}(e:l.length<1000000):MS (CP l s) λr=>s∈l->0<=r/\r<l.length:=by
 unfold CP;refine pLs l.length (λi (_:Unit)=>∀j:Nat,j<i->l[j]? ≠some s) (s0:=()) (F:=λn _ i=>CP.AZ l s n i) (λ_ _=>rfl) (by omega) (λj d=>by omega) λn i _ hi f k=> ?_;unfold CP.AZ CP.L1 CP.J1;refine pD (λb=>pE (CZ (by omega)) (pI (λ_=>pR λ_=>by omega) λc=>k () (by omega) ?_)) λh=>pR λa=> ?_
 . grind
 . obtain⟨j,j1,g⟩:=List.getElem_of_mem a;grind
theorem stmt_par{R:A9->List AQ->AB8 A9}{s:AQ}{k B E:Nat}(m:GW T g)(u:IY T (k+1) s)(hn:0<=g.next/\g.next+(1+B+E)<=1000000)(hB:BS T R s.Body B)(hE:BS T R s.Else E)(b0:s.Body=[]->B=0)(e0:s.Else=[]->E=0):
 MS (Ca (Cv R) (DD R) g s) λr=>GV g r g.next (g.next+(1+B+E))/\r.next=g.next+(1+B+E):=by
 have hw:A1 (g.next+1)=g.next+1:=CH (by omega) (by omega);have bd:=u.2.2.2.2.2.2.2.2.1;have nm:=u.2.2.2.2.2.2.2.2.2;have nB:s.Op∉[(2:Int),3,4,5,6,7,8]->B=0:=λh=>b0 (bd.1 h);have K:s.Op≠2->E=0:=λh=>e0 (bd.2 h);unfold Ca;rw[hw];generalize o:A9.mk g.w g.locals g.out g.next (g.next+1)=g1;have I:GW T g1:=by rw[<- o];exact⟨m.w,m.l⟩
 have gs:g1.site=g.next:=by rw[<- o]
 have H:g1.next=g.next+1:=by rw[<- o]
 have j:g1.w=g.w:=by rw[<- o]
 have gl:(g1.locals.length:Int)=2:=by rw[I.l];rfl
 have up:∀{r lo hi},GV g1 r lo hi->GV g r lo hi:=λh=>by rw[<- o]at h;exact⟨h.w,h.l,h.n,h.p,h.s⟩
 have si:g.next<=g1.site/\g1.site<g.next+(1+B+E):=by rw[gs];omega
 -- one instruction
 have P:∀i:Ac,s.Op∉[(2:Int),3,4,5,6,7,8]->LV g1.w g.next (g.next+(1+B+E)) (g1.out.length+1) ⟨i.Op,i.A,i.B,i.C,i.N,g1.site⟩->i.Op≠5->MS ((A6 g1 i).bind λv=>some v) λr=>GV g r g.next (g.next+(1+B+E))/\r.next=g.next+(1+B+E):=by intro i F J h3;have z1:=nB F;have z2:=K (by intro h;rw[h]at F;simp at F);exact pM (Ii J h3) λr h=>⟨up h.1,by rw[h.2.2,H];omega⟩
 have A:∀{a b c:Int},s.Op≠2->11<=a/\a<=25->11<=b/\b<=25->(∀p S,p=a\/p=b->AM g1.w ⟨p,c,0,0,0,S⟩=some true)->MS ((DD R g1 s a b c).bind λv=>some v) λr=>GV g r g.next (g.next+(1+B+E))/\r.next=g.next+(1+B+E):=by intro a b c J ha O U;have z2:=K J;exact pB (mN (lo:=g.next) (hi:=g.next+(1+B+E)) I si (by omega) (by omega) (by omega) hB ha O U) λr h=>pR ⟨up h.1,by rw[h.2,H];omega⟩
 have lk:g.w.AE=YQ:=m.w.l;have j1:∀b,(b=true->s.Op=2\/s.Op=3)->(b=false->s.Op≠1/\s.Op≠2/\s.Op≠3)->MS (Ca.J1 (Cv R) (DD R) g s b) λr=>GV g r g.next (g.next+(1+B+E))/\r.next=g.next+(1+B+E):=by
  intro b O vL;unfold Ca.J1;rw[hw,o];refine pI (λh=> ?_) λh0=> ?_
  . have U:=O h;have Q:Tp 2 s.Expr:=u.2.2.1.resolve_right λh=>h.1 (by rcases U with h|h<;>simp[h]);exact pB (dG (lo:=g.next) (hi:=g.next+(1+B+E)) I si (by omega) (by omega) (by omega) Q hB hE (λh=>K (by omega)) e0) λr h=>pR ⟨up h.1,by rw[h.2,H];omega⟩
  have n0:=vL h0;refine pI (λh=> ?_) λn4=>pI (λh=> ?_) λn5=>pI (λh=> ?_) λn6=>pI (λh=> ?_) λn7=>pI (λh=> ?_) λn8=> ?_
  . have h:=eq_of_beq h;rw[lk];rcases nm.2.1 h with F|F<;>rw[F]
    . exact pE (y:=0) (by decide +kernel) (A (by omega) (by omega) (by omega) λp S G=>objM (by simp only;omega) (y:=⟨⟨#[109]⟩,false⟩) (by rw[j,lk];rfl) rfl)
    . exact pE (y:=1) (by decide +kernel) (A (by omega) (by omega) (by omega) λp S G=>objM (by simp only;omega) (y:=⟨⟨#[110]⟩,false⟩) (by rw[j,lk];rfl) rfl)
  . have h:=eq_of_beq h;rw[lk,nm.2.2.1 (.inl h)];exact pE (y:=2) (by decide +kernel) (A (by omega) (by omega) (by omega) λp S G=>objR (by simp only;omega) (y:=⟨⟨#[114]⟩,true⟩) (by rw[j,lk];rfl) rfl)
  . have h:=eq_of_beq h;rw[lk,nm.2.2.1 (.inr h)];exact pE (y:=2) (by decide +kernel) (A (by omega) (by omega) (by omega) λp S G=>objR (by simp only;omega) (y:=⟨⟨#[114]⟩,true⟩) (by rw[j,lk];rfl) rfl)
  . have h:=eq_of_beq h;exact A (by omega) (by omega) (by omega) λp S G=>o7 (by rcases G with h|h<;>simp[h])
  . have h:=eq_of_beq h;exact A (by omega) (by omega) (by omega) λp S G=>o7 (by rcases G with h|h<;>simp[h])
  simp only[ABv,ne_eq]at n4 n5 n6 n7 n8;have D:s.Op∉[(2:Int),3,4,5,6,7,8]:=by simp;omega
  have L:∀{p c e:Int},11<=p/\p<=25->AM g1.w ⟨p,c,0,0,0,g1.site⟩=some true->LV g1.w g.next (g.next+(1+B+E)) (g1.out.length+1) ⟨p,c,0,0,0,g1.site⟩:=λF J=>
   ⟨by simp only;omega,J,by rw[rg0 (by simp only;omega)];simp,si,by simp only;omega,by simp only;omega⟩
  have M:g1.w.Af=[⟨cN,0⟩]:=by rw[j];exact m.w.d
  have HP:(g1.w.Af.length:Int)=1:=by rw[M];rfl
  refine pI (λh=> ?_) λn9=>pI (λh=> ?_) λV=>pI (λh=> ?_) λW=>pI (λh=> ?_) λX=>pI (λh=> ?_) λZ=>pI (λh=> ?_) λn14=>pI (λh=> ?_) λn15=> ?_
  . rw[u.2.2.2.1 (by simp[eq_of_beq h])];exact pE (dK M) (P ⟨21,0,0,0,0,0⟩ D (L (e:=0) (by simp) (objC (.inl rfl) (by simp only;omega))) (by simp))
  . rw[u.2.2.2.1 (by simp[eq_of_beq h])];exact pE (dK M) (P ⟨22,0,0,0,0,0⟩ D (L (e:=0) (by simp) (objC (.inr (.inl rfl)) (by simp only;omega))) (by simp))
  . rw[u.2.2.2.1 (by simp[eq_of_beq h])];exact pE (dK M) (P ⟨23,0,0,0,0,0⟩ D (L (e:=0) (by simp) (objC (.inr (.inr rfl)) (by simp only;omega))) (by simp))
  . refine pB (zE (by have:=m.w.n;omega)) λv z=> ?_
    have:=z (m.w.t _ (nm.2.2.2.1 (.inl (eq_of_beq h))));exact P ⟨24,v,0,0,0,0⟩ D (L (e:=0) (by simp) (objT (.inl rfl) (by simp only;rw[j];exact this))) (by simp)
  . refine pB (zE (by have:=m.w.n;omega)) λv z=> ?_
    have:=z (m.w.t _ (nm.2.2.2.1 (.inr (eq_of_beq h))));exact P ⟨25,v,0,0,0,0⟩ D (L (e:=0) (by simp) (objT (.inr rfl) (by simp only;rw[j];exact this))) (by simp)
  . have h:=eq_of_beq h;have Q:Tp 2 s.Expr:=u.2.2.1.resolve_right λq=>q.1 (by simp[h]);have z1:=nB D;have z2:=K (by omega);rw[show(g.locals.length:Int)=2 from by rw[m.l];rfl];refine pB (UW (lo:=g.next) (hi:=g.next+(1+B+E)) Q I si (by omega)) λv z=> ?_;have hf:v.w.AK=[⟨#[102]⟩]:=(by rw[z.1.w,j];exact m.w.f);rw[hf,nm.2.2.2.2.1 h];refine pE (y:=0) (by decide +kernel) (pM (Ii ⟨by simp,obj26 rfl (by rw[hf];simp),by rw[rg26 rfl];exact eL (x:=0) (by simp),by rw[z.2.1];exact si,by simp,by simp⟩ (by simp)) λr h=>⟨up (z.trans h).1,by rw[h.2.2,z.2.2,H];omega⟩)
  . have h:=eq_of_beq h;have hn:=nm.2.2.2.2.2 h;rw[m.l,m.w.f,hn.1,hn.2];refine pE (y:=0) (by decide +kernel) (pE (y:=0) (by decide +kernel) (P ⟨27,0,0,0,0,0⟩ D ⟨by simp,obj27 rfl (by rw[j,m.w.f];simp),by rw[rg27 rfl];exact eL (x:=0) (by simp),si,by simp,by simp⟩ (by simp)))
  . have:=u.1;simp only[ABv,ne_eq]at n9 V W X Z n14 n15;omega
 refine pI (λh=> ?_) λn1=>pI (λh=>j1 _ (λ_=>.inl (eq_of_beq h)) λh'=>by rw[h']at h;cases h) λn2=>j1 _ (λh=>.inr (eq_of_beq h)) λh=>⟨by simpa using n1,by simpa using n2,by simpa using h⟩;have h:=eq_of_beq h;have z1:=nB (by rw[h];decide);have z2:=K (by omega);exact pB (mQ (lo:=g.next) (hi:=g.next+(1+B+E)) I si u h) λr h=>pR ⟨up h.1,by rw[h.2.2,H];omega⟩
theorem xX(d:Nat):∀(n:Nat)(l:List AQ),3*d+1<=n->Tq T d l->BS T (DU n) l (PM d l):=by
 induction d with
 |zero=>intro n l hn ⟨_,h⟩ g hg c;obtain⟨n,rfl⟩:∃k,n=k+1:=⟨n-1,by omega⟩;have:l=[]:=ABP.2 λx c=>(h x c).elim;subst this;show MS (some g) _;exact pR ⟨GV.refl,by simp[PM]⟩
 |succ d ih=>
  intro n l hn ⟨h1,h2⟩ g hg c;obtain⟨n,rfl⟩:∃k,n=k+3:=⟨n-3,by omega⟩;show MS (B8 (Ca (Cv (DU n)) (DD (DU n))) g l) _;unfold B8
  let f:AQ->Nat:=λs=>1+PM d s.Body+PM d s.Else
  have t:PM (d+1) l=(l.map f).sum:=rfl;refine pLs l.length (λi s=>GV g s g.next (g.next+((l.take i).map f).sum)/\s.next=g.next+((l.take i).map f).sum) (F:=λm s i=>B8.AZ _ l m s i) (λ_ _=>rfl) (by omega) ⟨GV.refl,by simp⟩ λm i s hi p k=> ?_;obtain⟨a,e⟩:=p;unfold B8.AZ B8.L1;refine pD (λq=>pE (CZ (by omega)) ?_) λu=> ?_
  . have st:=ZI (l:=l) (i:=i) (by omega) f;have o:=NA l (i+1) f;have b:l[i]∈l:=AA0 (by omega);have r:f l[i]=1+PM d l[i].Body+PM d l[i].Else:=rfl;refine pB (stmt_par (hg.next a) (h2 _ b) (by omega) (ih n _ (by omega) (h2 _ b).body) (ih n _ (by omega) (h2 _ b).els) (λh=>by rw[h];exact sE d) λh=>by rw[h];exact sE d) λv j=>k _ (by omega) ?_;rw[e]at j;refine⟨(a.mono (by omega) (by omega)).trans (j.1.mono (by omega) (by omega)),by omega⟩
  . have:i=l.length:=(by omega);subst this;rw[List.take_length]at a e;exact pR ⟨a,e⟩
theorem SE{l:List Ac}{a b:Nat}(h:l.length<=8000000)(g:b<=l.length):∀(n fuel i k m:Nat),Qt l a b n k m->Ev l m->n+i<=l.length->l.length+1<fuel+i->B9.AZ l fuel k i=some true:=by
 intro n;induction n with
 |zero=>intro fuel i k m r ⟨x,x1,x2⟩ h1 h2;cases r;obtain⟨fuel,rfl⟩:∃f,fuel=f+1:=⟨fuel-1,by omega⟩;have c:=(AAj.1 x1).1;unfold B9.AZ B9.L1 B9.J1;rw[BC (by omega),Ad (by omega),AAp (by simp;omega),JR,x1,AAg,Qa,x2];rfl
 |succ n ih=>
  intro fuel i k m ⟨c,j,⟨x,x1,x2,x3⟩,r⟩ ev h1 h2;obtain⟨fuel,rfl⟩:∃f,fuel=f+1:=⟨fuel-1,by omega⟩;unfold B9.AZ B9.L1 B9.J1 B9.J2;have c:=(AAj.1 x1).1;rw[BC (by omega),Ad (by omega),AAp (by simp;omega),JR,x1,AAg,Qa,x2,AAg,Ai (by omega)]
  have:=ih fuel (i+1) j m r ev (by omega) (by omega);rcases x3 with⟨d,e⟩|⟨d,rfl⟩
  . simp_all
  . rw[AAp (by simp),AAp (by simp_all),Ai (by omega)];exact this
structure VO (w:AD) (t:Int) (c:Az):Prop where
 r:2<=c.Ch/\c.Ch<=32
 n:∃out lo hi,c.Bq=out++[⟨28,0,0,0,0, -1⟩]/\SG w lo hi out 0 out.length out.length/\(∀k,lo<=k->k<hi->∃y,gt w.BL k=some y/\y.Thread=t)
 g:∀x∈c.Bq,∀y∈rg x,y<c.Ch
theorem objE{w:AD}{x:Ac}(h:x.Op=28):AM w x=some true:=by simp[AM,AM.J3,AM.J5,AM.J7,AM.J8,h]
theorem VB{w:AD}{t:Int}{c:Az}(C:c.Bq.length<=8000000)(S:VO w t c):AX w t c=some true:=by
 obtain⟨⟨r1,r2⟩,⟨out,lo,hi,H,I,U⟩,Q⟩:=S;have Z:c.Bq.length=out.length+1:=by rw[H];simp
 have L:=BU
 -- an instruction
 have l:∀(i:Nat) x,c.Bq[i]? =some x->(i<out.length/\out[i]? =some x)\/i=out.length/\x=⟨28,0,0,0,0, -1⟩:=by
  intro i x q;rw[H]at q;by_cases h:i<out.length
  . grind
  . grind
 have V:c.Bq[out.length]? =some ⟨28,0,0,0,0, -1⟩:=by rw[H];exact Wz
 have v:∀i:Nat,i<c.Bq.length->B9 c.Bq (i:Int)=some true:=by
  intro i hi;have K:∀{n k m},Qt out 0 out.length n k m->Qt c.Bq 0 out.length n k m:=λr=>r.frame (λj _ R=>by grind) (by omega) (by omega);have J:Ev c.Bq out.length:=⟨_,V,rfl⟩;unfold B9;by_cases h:i<out.length
  . rcases I.f i (by omega) h with⟨n,m,r,m1,⟨x,x1,W⟩,hn⟩|⟨n,r,hn⟩
    . exact SE C (by omega) n BP 0 i m (K r) ⟨x,by grind,W⟩ (by omega) (by omega)
    . exact SE C (by omega) n BP 0 i _ (K r) J (by omega) (by omega)
  . obtain rfl:i=out.length:=(by omega);exact SE (a:=0) (b:=0) C (by omega) 0 BP 0 _ _ rfl J (by omega) (by omega)
 have key:B7 (AX w t c) λb=>b=true:=by
  unfold AX;refine tD (λh=>by omega) λ_=>tD (λh=>by omega) λ_=> ?_;rw[show((c.Bq.length:Int)==0)=false from ABv.2 (by omega)];unfold AX.J1;refine tI (λh=>by cases h) λ_=>QO c.Bq.length (λ_ (_:Unit)=>True) (s0:=()) (F:=λn _ i=>AX.AZ c t w n i) (by omega) trivial λn i _ hi _ k=> ?_;unfold AX.AZ AX.L1 AX.J6;refine tD (λX=>cL (by omega) ?_) λ_=>tR rfl;have q:c.Bq[i]? =some c.Bq[i]:=AAo (by omega);have u:c.Bq[i]∈c.Bq:=AA0 (by omega);generalize c.Bq[i]=x at q u;have M:B9 c.Bq (i:Int)=some true:=v i (by omega);have N:A1 ((c.Bq.length:Int)-1)=out.length:=by rw[CH (by omega) (by omega)];omega
  -- the registers
  have z:B7 (AX.J4 (AX.AZ c t w n) c i x false) λb=>b=true:=by
   unfold AX.J4;refine tI (λh=>by cases h) λ_=>tE (Gr x).1 (QO (rg x).length (λ_ (_:Unit)=>True) (s0:=()) (F:=λn _ i=>AX.Cr _ c _ (rg x) n i) (by have:=(Gr x).2;omega) trivial λm j _ R _ T=> ?_);unfold AX.Cr AX.L2 AX.J5;refine tD (λ_=>cL (by omega) ?_) λ_=>k () (by omega) trivial;have E:(rg x)[j]∈rg x:=AA0 (by omega);have O:0<=(rg x)[j]:=by
    rcases l i x q with⟨h,B⟩|⟨_,rfl⟩
    . exact((I.i i x (by omega) h B).g _ E).1
    . have:=List.length_pos_of_mem E;rw[rg0 (.inr (.inr rfl))]at this;cases this
   exact tE (Ix ⟨O,Q x u _ E⟩) (tI (λh=>by cases h) λ_=>T () (by omega) trivial)
  rcases l i x q with⟨p,B⟩|⟨D,rfl⟩
  . have d:=I.i i x (by omega) p B;have lo':=d.o;have G:x.Op≠28:=(by omega);refine tD (λh=>by omega) λ_=>tD (λh=>by omega) λ_=> ?_;rw[N,show(x.Op==28)=false from by simp_all,show((i:Int)==(out.length:Int))=false from by simp;omega];refine tI (λh=>by cases h) λ_=>tE d.ob (tI (λh=>by cases h) λ_=>tE M ?_);unfold AX.J2;obtain⟨y,y1,y2⟩:=U _ d.s.1 d.s.2;refine tI (λh=>by cases h) λ_=>tI (λh=>absurd (eq_of_beq h) G) λ_=>tI (λ_=> ?_) λh=>(by simp_all);refine tE (Ix (bE y1)) (tI (λh=>by cases h) λ_=>tE y1 ?_);rw[y2,show(t != t)=false from by simp];unfold AX.J3;refine tI (λh=>by cases h) λ_=>tI (λP=> ?_) λ_=>tI (λe=> ?_) λ_=>z
    . have:=d.j (eq_of_beq P);refine tE (Ix (by omega)) (tI (λh=>by cases h) λ_=>tI (λe=> ?_) λ_=>z);simp_all
    . have:=d.b (eq_of_beq e);exact tE (Ix (by omega)) z
  . refine tD (λh=>by simp at h) λ_=>tD (λh=>by simp at h) λ_=> ?_;rw[N,D];simp only[ABb,Bool.not_true];refine tI (λh=>by cases h) λ_=>tE (objE rfl) (tI (λh=>by cases h) λ_=>tE (D▸M) ?_);rw[D]at z;unfold AX.J2 AX.J3;simp_all
 obtain⟨b,L,rfl⟩:=key;exact L
end
section
theorem cF{nt:Nat}{i:Int}(hi:i<nt):∀(S:List Da)(m:Int)(R:List Da),SN i m S->HD nt i m (S++R)=HD nt i (m+S.length) R:=by
 intro S;induction S with
 |nil=>simp_all
 |cons x r ih=>
  intro m R h;obtain⟨c,a⟩:=h 0 x rfl;have b:SN i (m+1) r:=λj y d=>by have:=h (j+1) y (by simp_all);omega
  rw[ABV,HD,AAp (by omega),AAp (by omega),ih _ _ b,a];grind
theorem pU{nt:Nat}{i t n:Int}(hi:i<nt)(h:t<i\/t=i/\n=0){S:List Da}(a:SN i 0 S):∃b c,(b<i+1\/b=i+1/\c=0)/\∀R,HD nt t n (S++R)=HD nt b c R:=by
 rcases h with h|⟨rfl,rfl⟩
 . cases S with
   |nil=>exact⟨t,n,.inl (by omega),λ_=>rfl⟩
   |cons x r=>obtain⟨d,e⟩:=a 0 x rfl;have f:SN i 1 r:=λj y g=>(by have:=a (j+1) y (by simp_all);omega);refine⟨i,1+r.length,.inl (by omega),λR=> ?_⟩;rw[ABV,HD,AAp (by omega),AAs (by omega),d,cF hi _ _ _ f,e];simp
 . exact⟨t,0+S.length,.inl (by omega),λR=>cF hi _ _ _ a⟩
def To(p:AR)(i:Nat):Nat:=((p.AA.take i).map λt=>PM 4 t.Body).sum
theorem bZ{p:AR}{i:Nat}(h:i<p.AA.length):To p (i+1)=To p i+PM 4 p.AA[i].Body:=cK h _
theorem eK{p:AR}(h:(p.AA.map λt=>PM 4 t.Body).sum<=60)(i:Nat):To p i<=60:=by
 have:((p.AA.map λt=>PM 4 t.Body)).sum=To p i+((p.AA.drop i).map λt=>PM 4 t.Body).sum:=by
  conv=>lhs;rw[<- ABq i p.AA,ABL,List.sum_append]
  rfl
 omega
theorem wY{p:AR}{i j:Nat}(h:i<=j):To p i<=To p j:=by
 have:To p j=To p i+(((p.AA.take j).drop i).map λt=>PM 4 t.Body).sum:=by
  unfold To
  conv=>lhs;rw[<- ABq i (p.AA.take j),List.take_take,Nat.min_eq_left h,ABL,List.sum_append]
 omega
structure WV (p:AR) (N:Nat) (w:AD):Prop where
 c:w.Cells=LU
 l:w.AE=YQ
 d:w.Af=[⟨cN,0⟩]
 f:w.AK=[⟨#[102]⟩]
 t:w.AA=(p.AA.take N).map (·.Name)
 n:w.BL.length=To p N
 o:∀j k,j<N->To p j<=k->k<To p (j+1)->∃y,w.BL[k]? =some y/\y.Thread=(j:Int)
 s:∃t n:Int,(t<N\/t=N/\n=0)/\∀R,HD p.AA.length 0 0 (w.BL++R)=HD p.AA.length t n R
theorem zV{p:AR}(h:MP p)(u:∃l,A5 p=some (0,l))(C:(p.AA.map λt=>PM 4 t.Body).sum<=60):B7 (Bs p) (WV p p.AA.length):=by
 obtain⟨l,u⟩:=u;have N:=h.t;unfold Bs;refine tE u (tI (λh=>by cases h) λ_=> ?_);have key:∀D T,Ew=some D->Bs.AZ ⟨D,T⟩ BP (AD.mk [] [] [] [] [] []) 0=Bs.J4 ⟨D,T⟩ ⟨LU,YQ,[⟨cN,0⟩],[⟨#[102]⟩],[],[]⟩:=by
  intro D T x;unfold Ew at x;obtain rfl:=AAl x
  kernel_rfl
 rw[show Bs.AZ p BP (AD.mk [] [] [] [] [] []) 0=_ from key p.Decls p.AA h.d];unfold Bs.J4;show B7 (Bs.Gq p BP ⟨LU,YQ,[⟨cN,0⟩],[⟨#[102]⟩],[],[]⟩ 0) _;refine QO p.AA.length (λi w=>WV p i w) (F:=λn s i=>Bs.Gq _ n s i) (by omega) ⟨rfl,rfl,rfl,rfl,rfl,rfl,λj k h=>by omega,0,0,.inr ⟨rfl,rfl⟩,λ_=>rfl⟩ λn i w hi a k=> ?_;unfold Bs.Gq Bs.L3 Bs.J5;refine tD (λg=>cL (by omega) ?_) λO=>tR ?_
 . have g:i<p.AA.length:=(by omega);have E:=bZ g;have G:=eK C (i+1);have hn:=a.n;refine tC (Bh (by rw[a.t];simp;omega)) (tB (sites_ok 4 _ _ _ _ _ (Mf (by omega)) (by omega) (by omega) (h.b _ (AA0 g))) λv H=>k _ (by omega) ?_);obtain⟨S,L,V,z,W⟩:=H;obtain⟨t,m,K,P⟩:=a.s;obtain⟨J,I,Q,U⟩:=pU (nt:=p.AA.length) (i:=i) (by omega) K z;refine⟨a.c,a.l,a.d,a.f,?_,?_,?_,J,I,by omega,λR=> ?_⟩
   . simp only;rw[a.t,<- AA2 g,ABL];rfl
   . simp_all
   . intro j q M r B;simp only;rw[L];by_cases e:j<i
     . have:=wY (p:=p) (show j+1<=i by omega);rw[ABA (by omega)];exact a.o j q e r B
     . obtain rfl:j=i:=(by omega);rw[ABC (by omega)];have y:q-w.BL.length<S.length:=(by omega);exact⟨S[q-w.BL.length],AAo y,(z _ _ (AAo y)).1⟩
   simp_all
 grind
theorem WV.names{p:AR}{w:AD}(a:WV p p.AA.length w):w.AA=p.AA.map (·.Name):=by rw[a.t,List.take_length]
theorem yC{p:AR}{w:AD}(h:MP p)(o:(p.AA.map λt=>PM 4 t.Body).sum<=60)(a:WV p p.AA.length w):Cs w=true:=by
 obtain⟨n,z,B,nm⟩:=h.nm;have e:=a.names;rw[nm]at e;obtain⟨t,m,C,y⟩:=a.s;have b:=y [];rw[List.append_nil]at b;have x:p.AA.length=w.AA.length:=by rw[a.names,ABI]
 rw[x]at b;have hn:=a.n;have q:=eK o p.AA.length;have g:=a.c;have i:=a.l;have j:=a.d;have k:=a.f;obtain⟨c,l,d,f,T,S⟩:=w;simp only at g i j k e hn b;subst g i j k;have v:AY LU=some ([⟨#[120]⟩,⟨#[121]⟩,⟨#[118]⟩,qS],true):=by decide +kernel
 have r:HD T.length 0 0 S=true:=b;have u:T=PN.take 1\/T=PN.take 2\/T=PN.take 3\/T=PN.take 4:=by
  have:n=1\/n=2\/n=3\/n=4:=by omega
  rcases this with rfl|rfl|rfl|rfl<;>simp[e]
 unfold Cs;simp only[v,r];have hd:decide (S.length<=60)=true:=decide_eq_true (by omega);rw[hd];rcases u with rfl|rfl|rfl|rfl<;>(show @Eq Bool _ true;kernel_rfl)
theorem nS{p:AR}(h:MP p)(O:∃l,A5 p=some (0,l)):B7 (Ax p) λr=>CK r.1/\Bz r.1=some true:=by
 obtain⟨q,hq,T⟩:=check60 h;have S:(p.AA.map λt=>PM 4 t.Body).sum<=60:=by obtain⟨l,O⟩:=O;rw[O]at hq;cases hq;exact T rfl
 have ht:=h.t
 let Q:BT->Prop:=λc=>WV p p.AA.length c.World/\c.AA.length=p.AA.length/\∀(j:Nat) t,c.AA[j]? =some t->VO c.World j t
 have par:MS (Ax p) λr=>Q r.1:=by
  obtain⟨l,oP⟩:=O;unfold Ax;refine pE oP (pI (λh=>by cases h) λ_=>pB (pA (pT (aH h ⟨l,oP⟩)) (pT (zV h ⟨l,oP⟩ S))) λw B=> ?_);obtain⟨mw,B⟩:=B;have wf:WF (λs=>s∈p.AA.map (·.Name)) w:=⟨B.c,B.l,B.d,B.f,λs W=>by rw[B.names];exact W,by rw[B.names,ABI];exact ht⟩;refine pLs p.AA.length (λi (s:BT×Int)=>s.1.World=w/\s.1.AA.length=i/\s.2=To p i/\∀(j:Nat) t,s.1.AA[j]? =some t->VO w j t) (F:=λn s i=>Ax.AZ p n s.1 s.2 i) (s0:=(_,_)) (λ_ _=>rfl) (by omega) ⟨rfl,rfl,rfl,by simp⟩ λn i s hi W k=> ?_;obtain⟨G,s2,s3,s4⟩:=W;unfold Ax.AZ Ax.L1 Ax.J4;refine pD (λH=>pE (CZ (by omega)) ?_) λlS=>pR ⟨by simp only;rw[G];exact B,by simp only;omega,by simp only;rw[G];exact s4⟩;have H:i<p.AA.length:=by omega
  have L:p.AA[i]∈p.AA:=AA0 H;have ho1:=bZ H;have ho2:=eK S (i+1);have hc:cg 4=336840:=rfl;have g0:GB (A9.mk s.1.World p.AA[i].GZ [] 0 s.2) 4000000:=⟨by rw[G];exact mw,h.l _ L,by simp⟩;refine pB (pA (pT (Xt 4 _ _ _ (Mf (by omega)) (g0.less (by omega)) (h.b _ L))) (xX 4 _ _ (Mf (by omega)) (h.b _ L) ⟨s.1.World,p.AA[i].GZ,[],0,s.2⟩ ⟨by rw[G];exact wf,h.lo _ L⟩ (by simp only;omega))) λv hv=>pB (put_eq _) λu hu=> ?_;obtain⟨v0,v1,v2⟩:=hv;have v0:=v0.b;simp only[ABo]at v0;have V:(u.locals.length:Int)=2:=by rw[hu];simp only;rw[v1.l];simp only;rw[h.lo _ L];rfl
  have R:u.out=v.out++[⟨28,0,0,0,0, -1⟩]:=by rw[hu]
  have sg:=v1.s;simp only[ABo,G,s3]at sg;have v2':v.next=To p (i+1):=by rw[v2];simp only;omega
  have rb:∀y∈u.out,∀r∈rg y,0<=r/\r<32:=by
   intro y x r e;rw[R]at x;rcases AAz.1 x with x|x
   . obtain⟨m,m1,m2⟩:=List.getElem_of_mem x;exact(sg.i m y (by omega) m1 (by rw[AAo m1,m2])).g r e
   . rw[ABG.1 x,rg0 (.inr (.inr rfl))]at e;cases e
  rw[V];have Xx:u.out.length<1000000000000:=by rw[R];simp;omega
  refine pLs u.out.length (λk (t:Az)=>t.Bq=u.out/\(2<=t.Ch/\t.Ch<=32)/\∀y∈u.out.take k,∀r∈rg y,r<t.Ch) (F:=λn t k=>Ax.Cr _ _ _ _ _ n t k) (λ_ _=>rfl) Xx ⟨rfl,by simp,by simp⟩ λm q t hq2 X k2=> ?_;obtain⟨t1,t2,t3⟩:=X;unfold Ax.Cr Ax.L2 Ax.J2 Ax.J3;refine pD (λhlt2=>pE (CZ (by omega)) ?_) λhge2=>pC λ_=>k (_,_) (by omega) ⟨G,by simp;omega,v2',?_⟩
  . have x:u.out[q]∈u.out:=AA0 (by omega);have ry:=rb _ x;have K:q<u.out.length:=(by omega);have tk:=AA2 K;generalize u.out[q]=y at x ry tk;refine pE (Gr y).1 (pLs (rg y).length (λl (t:Az)=>t.Bq=u.out/\(2<=t.Ch/\t.Ch<=32)/\(∀y∈u.out.take q,∀r∈rg y,r<t.Ch)/\∀r∈(rg y).take l,r<t.Ch) (F:=λn t k=>Ax.Gq _ _ _ n t k) (λ_ _=>rfl) (by have:=(Gr y).2;omega) ⟨t1,t2,t3,by simp⟩ λm3 M D hq3 Z k3=> ?_);obtain⟨x1,x2,x3,x4⟩:=Z;unfold Ax.Gq Ax.L3 Ax.J1;refine pD (λhlt3=>pE (CZ (by omega)) ?_) λhge3=>k2 _ K ⟨x1,x2,λz C r e=> ?_⟩
    . have e:(rg y)[M]'(by omega)∈rg y:=AA0 (by omega);have U:=ry _ e;have N:=AA2 (show M<(rg y).length by omega);generalize (rg y)[M]'(by omega)=r at e U N;rw[CH (by omega) (by omega)];have J:∀z,(if r+1>D.Ch then r+1 else D.Ch)=z->D.Ch<=z/\r<z/\z<=32:=by intro z C;split at C<;>omega
      generalize C:(if r+1>D.Ch then r+1 else D.Ch)=z
      obtain⟨z1,z2,z3⟩:=J z C;refine k3 _ (by omega) ⟨x1,by simp only;omega,λy x r e=>by have:=x3 y x r e;simp only;omega,?_⟩;rw[<- N];intro a I;rcases AAz.1 I with I|I
      . have:=x4 a I;simp only;omega
      . rw[ABG.1 I];exact z2
    . rw[<- tk]at C;rcases AAz.1 C with C|C
      . exact x3 z C r e
      . rw[ABG.1 C]at e;rw[ABM (by omega)]at x4;exact x4 r e
  . intro j D E;simp only at E;by_cases hj:j<s.1.AA.length
    . rw[ABA hj]at E;exact s4 j D E
    . have:=(AAj.1 E).1;simp at this;obtain rfl:j=s.1.AA.length:=(by omega);rw[show(s.1.AA++[t])[s.1.AA.length]? =some t from by simp]at E;obtain rfl:=AAl E;rw[s2];rw[ABM (by omega)]at t3;refine⟨t2,⟨v.out,_,_,by rw[t1,R],sg,λk k1 k2=> ?_⟩,by rw[t1];exact t3⟩;obtain⟨k,rfl⟩:∃m:Nat,k=m:=⟨k.toNat,by omega⟩;rw[JR];exact B.o i k H (by omega) (by omega)
 obtain⟨r,e,P⟩:=iJ h;refine⟨r,e,P,?_⟩;obtain⟨q1,q2,M⟩:=par r e;have hl:r.1.AA.length=r.1.World.AA.length:=by rw[q2,q1.names,ABI]
 have hn:=P.n;have key:B7 (Bz r.1) λb=>b=true:=by unfold Bz;refine tE (LY _) ?_;rw[yC h S q1];refine tI (λh=>by cases h) λ_=> ?_;rw[hl,show((r.1.World.AA.length:Int) != r.1.World.AA.length)=false from by simp];unfold Bz.J1;refine tI (λh=>by cases h) λ_=>QO r.1.AA.length (λ_ (_:Unit)=>True) (s0:=()) (F:=λn _ i=>Bz.AZ r.1 n i) (by omega) trivial λn i _ hi _ k=> ?_;unfold Bz.AZ Bz.L1 Bz.J2;refine tD (λH=>cL (by omega) ?_) λ_=>tR rfl;refine tE (VB (P.i _ (AA0 (by omega))) (M i _ (AAo (by omega)))) (tI (λh=>by cases h) λ_=>k () (by omega) trivial)
 obtain⟨b,U,rfl⟩:=key;exact U
end
theorem Code_ok{l:List Int}(d:l.length<=4000000000000000000)(e:∀x∈l,0<=x/\x<256):B7 (Nq l) λc=>CK c/\Bz c=some true:=by unfold Nq;exact tB (fZ d e) λp a=>tB (nS a.1 a.2) λc b=>tR b
theorem zU{p s:List Int}(g:p.length<=4000000000000000000)(j:∀x∈p,0<=x/\x<256)(i:s.length<=1000):B7 (Jc p s) λt=>TA s.length t/\Cs t.World=true:=by unfold Jc;refine tB (Code_ok g j) λc b=>tB (fT i) λl o=>tB (tP (Run_ok b.1 (by omega)) (Q:=λr=>Cs r.1.World=true) ?_) λr a=>tR ⟨⟨⟨by have:=a.1.m.n;omega,a.1.m.e,a.1.m.w⟩,a.1.c⟩,a.2⟩;obtain⟨v,d,f⟩:=Qb b.1;rw[b.2]at d;have k:=f (AAl d).symm;unfold Ls;exact pE b.2 (pI (λh=>by cases h) λ_=>pB' λ_=>pB' λ_=>pR k.w)
theorem zG{n:Nat}{t:Aw}(a:TA n t)(hn:n<=400)(b:Cs t.World=true):Hc t=(0,0):=by have:=a.m.n;unfold Hc;rw[AAp (by omega),AAs b,a.c]
theorem sceneW_m:Ez.Af.all (λc=>Df c.Mutex Ez.AE.length)=true:=by decide +kernel
structure SL (s:AB):Prop where
 l:s.Sync.AE.length=3
 d:s.Sync.Bp.length=1
 t:s.Sync.AA.length=4
 c:s.Cells.length=5
 u:s.AK.length=1
 n:s.Count.length=4
 r:RB 1 s.Sync
theorem SL.sc{s:AB}(h:SL s):SC 1 s:=by refine⟨?_,h.r⟩;simp only[JF,HM,AAi,AAw,Y3,UO,UN,h.d,h.t,h.c,h.u,h.n,and_self,and_true];exact⟨sceneW_m,by rw[h.l,Y4]⟩
def Rl(l:List Int):Prop:=∀x∈l,0<=x/\x<256
theorem tape_of{l:List Int}(a:l.length<=4000000000000000000)(h:Rl l):EW ⟨l,0⟩:=⟨a,⟨Int.le_refl _,by simp⟩,h⟩
structure WG (w:AO):Prop where
 v:Sx w=true
 e:∀e∈w.AF,JC e
 r:RB 1000 w.Init.Sync
theorem lP{p:List Int}(r:Rl p)(a:Int):B7 (EM p a) λt=>AT t/\t.AF.length<=100:=by
 have H:=BU;have j1:∀i:List Int,i.length<=600->Rl i->B7 (EM.J1 a i) λt=>AT t/\t.AF.length<=100:=by
  intro i hi hi';unfold EM.J1;rw[cE,AAg,LZ Ez eY,AAg];refine tB (HG (tape_of (by omega) hi') (by omega)) ?_;rintro b ⟨I,bA,_⟩;have z:SC 0 (GQ Ez):=by refine⟨?_,RB.start Ez⟩;have k:SL (GQ Ez):=(by refine⟨?_,?_,?_,?_,?_,?_,RB.mono (RB.start Ez) (by omega)⟩<;>simp[GQ,Jg,Y4,Y3,UO,UN]);exact k.sc.f
  have F:∀(d:List AG),d.length<=9->(∀e∈d,JC e)->B7 (EM.J2 a Ez (GQ Ez) b d) λt=>AT t/\t.AF.length<=100:=by
   intro d hd y;have key:∀(n i:Nat)(E:List AG)(o:AB),d.length<n+i->i<=d.length->E.length<=i->(∀e∈E,JC e)->SC i o->
    B7 (EM.Cr d a b n ⟨Ez,E⟩ o i) λt=>AT t/\t.AF.length<=100:=by
    intro n;induction n with
    |zero=>omega
    |succ n ih=>
     intro i E o k s w m g;unfold EM.Cr EM.L2;refine tI (λh=> ?_) λ_=> ?_
     . have h:=AAq h;refine tG (by omega) λv C=>tB (g.step (by omega) (y v C)) λu B=> ?_;unfold EM.J3;rw[Ai (by omega)];refine tI (λh=>tC (Bh (by grind)) (ih (i+1) _ _ (by omega) (by omega) (by simp;omega) ?_ (B h))) λ_=>ih (i+1) E o (by omega) (by omega) (by omega) m (g.mono (by omega));grind
     . unfold EM.J4;refine tB (play_tot bA.1 (g.mono (by omega)) (by omega) false) ?_;rintro t ⟨J,G⟩;refine tC (Bh (by grind)) ?_;have q:∀e∈E++t.1,JC e:=λe c=>(AAz.1 c).elim (m e) (G e);rw[cB ⟨Ez,E++t.1⟩ q,AAg];refine tI (λ_=> ?_) λh=>tR ⟨AT.of q (by grind),by simp;omega⟩;rw[cE,AAg];exact tR ⟨AT.of (t:=⟨Ez,[]⟩) (by simp) (by decide +kernel),by simp⟩
   exact key BP 0 [] _ (by omega) (by omega) (by simp) (by simp) z
  have key:∀(n j:Nat)(l:List AG),4<n+j->1<=j->j<=4->l.length+1<=2*j->(∀e∈l,JC e)->B7 (EM.AZ a Ez (GQ Ez) b n l j) λt=>AT t/\t.AF.length<=100:=by
   intro n;induction n with
   |zero=>omega
   |succ n ih=>
    intro j l k s w m g;unfold EM.AZ EM.L1;rw[CH (n:=1+b.1) (by omega) (by omega)];refine tI (λh=> ?_) λ_=>F l (by omega) g;have h:=AAq h;rw[Ai (by omega)];refine tC (Bh (by omega)) (ih (j+1) _ (by omega) (by omega) (by omega) (by simp;omega) ?_);intro e c;rcases AAz.1 c with c|c
    . grind
    . simp only[ABH,ABa,ABU]at c;rcases c with rfl|rfl<;>exact⟨by simp,by simp⟩
  exact key BP 1 _ (by omega) (by omega) (by omega) (by simp) (by intro e c;rw[ABG.1 c];exact⟨by simp,by simp⟩)
 unfold EM;refine tI (λh=> ?_) λh=>j1 _ (by grind) r;have h:=AAq h;exact tC (by omega) (j1 _ (by simp;omega) λx D=>r x (AB4 D))
structure RunOK (r:Uf):Prop where
 p:Rl r.Program
 s:Rl r.Ct
 c:Rl r.RJ
theorem madeAT{n:Nat}{t:Aw}(h:TA n t)(hn:n<=400)(b:Cs t.World=true):AT t:=AT.of (λe a=>(h.m.e e a).ok) (by rw[zG h hn b])
theorem sI{r:Uf}(d:RunOK r){m:Int}(h:0<=m)(j:m<=200)(f:r.Program.length<=4000000000000000000):B7 (Hr r m) λt=>AT t/\t.AF.length<=200:=by
 unfold Hr;refine tI (λ_=>tB (lP d.c m) λt g=>tR ⟨g.1,by omega⟩) λ_=> ?_;have b:0<=(if m<(r.Ct.length:Int)then m else(r.Ct.length:Int))/\((if m<(r.Ct.length:Int)then m else(r.Ct.length:Int)).toNat)<=r.Ct.length/\((if m<(r.Ct.length:Int)then m else(r.Ct.length:Int)).toNat)<=200:=by split<;>omega
 refine tC ⟨b.1,b.2.1⟩ (tB (zU f d.p (by rw[List.length_take];omega)) ?_);rintro t ⟨a,e⟩;have i:(r.Ct.take ((if m<(r.Ct.length:Int)then m else(r.Ct.length:Int)).toNat)).length<=200:=by rw[List.length_take];omega
 exact tR ⟨madeAT a (by omega) e,by have:=a.m.n;omega⟩
def sH(wv:AD):AB->List AG->Prop
 |_,[]=>True
 |s,e::r=>IZ wv s e=true/\sH wv (GU wv s e) r
theorem sH.step{wv:AD}(d:Small wv){s:AB}{N:Nat}(c:RB N s.Sync)(a:N<=1000000){e:AG}(b:JC e)(f:IZ wv s e=true):BQ wv s e=some (GU wv s e,true)/\Bg wv s e=some (GU wv s e,true):=by rw[ZP wv d s (c.mono a) e b,SS wv d s (c.mono a) e b];unfold QN;rw[AAs f];exact⟨rfl,rfl⟩
theorem sH.of{wv:AD}:∀{l:List AG}{s:AB},(∀(i:Nat)(hi:i<l.length),IZ wv ((l.take i).foldl (GU wv) s) l[i]=true)->sH wv s l:=by
 intro l;induction l with
 |nil=>intro s _;trivial
 |cons e r ih=>intro s h;exact⟨h 0 (by simp),ih λi hi=>h (i+1) (by simpa using hi)⟩
theorem AT.possL{t:Aw}(h:AT t):sH t.World (GQ t.World) t.AF:=sH.of λ_ hi=>h.poss hi
theorem posW_poss{wv:AD}{c:List Int}:∀{l a:List AG}{s:AB},lN wv c a s l=true->sH wv s l:=by
 intro l;induction l with
 |nil=>intro a s _;trivial
 |cons e r ih=>intro a s h;unfold lN at h;simp only[AAi]at h;exact⟨h.1,ih h.2.2⟩
structure WV2 (w:AO):Prop where
 s:Small w.World
 n:w.AF.length<=16
 p:sH w.World w.Init w.AF
theorem valid_parts{w:AO}(h:Sx w=true):WV2 w:=by unfold Sx at h;simp only[AAi,AA1]at h;exact⟨DF h.1,h.2.2.1,posW_poss h.2.2.2.2⟩
theorem winS_WG{t:Aw}(h:AT t){k i:Nat}(b:k<=16)(hi:i<=t.AF.length):WG (aB t k i):=
 ⟨winS_valid h.w h.l h.c b hi,λe a=>h.e e (List.mem_of_mem_drop (AB4 a)),RB.mono (AT.rb _ hi) (by have:=h.l;omega)⟩
def VX(wv:AD)(t kk o k:Int)(x:AW):AW:=
 if(kk=6\/kk=10)/\k=o\/kk=17/\k=(ix wv.Af o).Mutex then⟨t,x.Al⟩
 else if(kk=7\/kk=11)/\k=o\/kk=16/\k=(ix wv.Af o).Mutex then⟨-1,x.Al⟩
 else if kk=8/\k=o then⟨x.B6,O3 (x.Al++[t])⟩
 else if kk=9/\k=o then⟨x.B6,x.Al.filter λy=> !(y==t)⟩
 else x
theorem setT_L(s:AP)(t:Int)(g:AH->AH):(Kx s t g).AE=s.AE:=rfl
theorem fA{s:AP}{i k:Int}(hi:Df i s.AE.length=true)(a:Df k s.AE.length=true)(f:AW->AW):ix (Kw s i f).AE k=if k=i then f (ix s.AE i)else ix s.AE k:=MB hi a
theorem gO{wv:AD}{s:AP}{t o wake:Int}{k:Int}(n:Df k s.AE.length=true):∀a,(a=6\/a=7\/a=8\/a=9\/a=10\/a=11->Df o s.AE.length=true)->(a=16\/a=17->Df (ix wv.Af o).Mutex s.AE.length=true)->
 ix (DX wv s t a o wake).1.AE k=VX wv t a o k (ix s.AE k):=by
 refine kinds ?_ ?_ ?_ ?_ ?_ ?_ ?_ ?_ ?_ ?_ ?_ ?_ ?_ ?_ ?_ ?_ ?_ ?_ ?_ ?_ ?_ ?_ ?_ (λa q r u v w x y z B b c F d e f E g i j D l G m=> ?_)
 all_goals
  intro C p;unfold DX VX
 all_goals first
  | (simp(decide:=true)only[AA5,AAx,AB2,AB3,ABU,false_or,true_and,false_and,Kx];done)
  | (simp(decide:=true)only[AA5,AAx,AB2,AB3,ABU,false_or,true_and,false_and];rw[fA (C (by omega)) n];split<;>simp[*];done)
  | (simp(decide:=true)only[AA5,AAx,AB2,AB3,ABU,false_or,true_and,false_and];refine(fA (p (by omega)) n _).trans ?_;split<;>rename_i h<;>simp only[h,AA5,AAx];done)
  | (simp(decide:=true)only[AA5,AAx,AB2,AB3,ABU,false_or,true_and,false_and];split<;>rfl)
  | (simp only[q,r,u,v,w,x,y,z,B,b,c,F,d,e,f,E,g,i,j,D,l,G,m,AAx,or_self,false_and];done)
  |skip
 all_goals
  simp(decide:=true)only[AA5,AAx,AB2,AB3,ABU,false_or,true_and,false_and];rw[setT_L,fA (p (by omega)) n];split
  . rename_i h;simp only[h,AA5,AAx]
  . rename_i h;simp only[h,AA5,AAx]
theorem XW{wv:AD}{s:AP}{t b o wake:Int}(c:CT wv s t b o=true){k:Int}(e:Df k wv.AE.length=true):ix (DX wv s t b o wake).1.AE k=VX wv t b o k (ix s.AE k):=by
 unfold CT at c;simp only[AAi]at c;obtain⟨d,_,a,_⟩:=c;have f:=(Ek d).1;have g:=λh=>HO d (o:=o) h;rw[<- f]at e g;refine gO e b (λh=> ?_) λh=>g ?_
 . rw[f];unfold CF at a;rcases h with h|h|h|h|h|h<;>subst h<;>simp(decide:=true)only[AA5,AAx,AB2,AB3,ABU,AAi]at a<;>exact a.1
 . unfold CF at a;rcases h with h|h<;>subst h<;>simpa(decide:=true)only[AA5,AAx,AB2,AB3,ABU]using a
def hpL(t:Int)(x:AW):Bool×Bool:=(x.B6==t,x.Al.contains t)
def ownF(wv:AD)(kk o k:Int)(p:Bool×Bool):Bool×Bool:=
 if(kk=6\/kk=10)/\k=o\/kk=17/\k=(ix wv.Af o).Mutex then(true,p.2)
 else if(kk=7\/kk=11)/\k=o\/kk=16/\k=(ix wv.Af o).Mutex then(false,p.2)
 else if kk=8/\k=o then(p.1,true)
 else if kk=9/\k=o then(p.1,false)
 else p
def XI(wv:AD)(s:AP):Prop:=∀k,Df k wv.AE.length=true->(ix s.AE k).Al≠[]->(ix wv.AE k).RW=true/\(ix s.AE k).B6= -1
def MQ(wv:AD):Prop:=∀o,Df o wv.Af.length=true->(ix wv.AE (ix wv.Af o).Mutex).RW=false
theorem own_eq{wv:AD}{t a o k:Int}(c:0<=t)(x:AW):hpL t (VX wv t a o k x)=ownF wv a o k (hpL t x):=by
 have b:((-1:Int)==t)=false:=by simp;omega
 unfold VX ownF hpL;split
 . simp
 . split
   . simp[b]
   . split
     . have:(O3 (x.Al++[t])).contains t=true:=(by rw[AA3,Kt];simp);simp only[this]
     . split
       . have:(x.Al.filter λy=> !(y==t)).contains t=false:=(by rw[Bool.eq_false_iff,ne_eq,AA3,List.mem_filter];simp);simp only[this]
       . rfl
theorem Ya{wv:AD}{s:AP}{u c o:Int}(d:CT wv s u c o=true):
 (c=6->(ix s.AE o).B6= -1/\(ix wv.AE o).RW=false)/\(c=10->(ix s.AE o).B6= -1/\(ix s.AE o).Al=[])/\(c=8->(ix s.AE o).B6= -1/\(ix wv.AE o).RW=true)/\(c=7\/c=11->(ix s.AE o).B6=u)/\
 (c=16->(ix s.AE (ix wv.Af o).Mutex).B6=u/\Df o wv.Af.length=true)/\(c=17->(ix s.AE (ix wv.Af o).Mutex).B6= -1/\Df o wv.Af.length=true):=by
 unfold CT at d;simp only[AAi]at d;obtain⟨_,_,b,a⟩:=d;unfold CF at b;unfold Ku at a;refine⟨λh=> ?_,λh=> ?_,λh=> ?_,λh=> ?_,λh=> ?_,λh=> ?_⟩
 . subst h;simp(decide:=true)only[AA5,AAx,AB2,AB3,ABU,AAi,AAw,ABR]at b a;exact⟨a.2,b.2⟩
 . subst h;simp(decide:=true)only[AA5,AAx,AB2,AB3,ABU,AAi,AAw,ABR]at b a;exact⟨a.2.1,ABs (by omega)⟩
 . subst h;simp(decide:=true)only[AA5,AAx,AB2,AB3,ABU,AAi,AAw,ABR]at b a;exact⟨a.2.1,b.2⟩
 . rcases h with h|h<;>subst h<;>simp(decide:=true)only[AA5,AAx,AB2,AB3,ABU,AAi,AAw,ABR]at b a<;>exact a.2
 . subst h;simp(decide:=true)only[AA5,AAx,AB2,AB3,ABU,AAi,AAw,ABR]at b a;exact⟨a.2,b⟩
 . subst h;simp(decide:=true)only[AA5,AAx,AB2,AB3,ABU,AAi,AAw,ABR]at b a;exact⟨a.2.2,b⟩
theorem other_eq{wv:AD}{s:AP}{u t g o k:Int}(i:CT wv s u g o=true)(m:0<=t)(hn:u≠t):hpL t (VX wv u g o k (ix s.AE k))=hpL t (ix s.AE k):=by
 obtain⟨j,a,n,l,b,c⟩:=Ya i;have d:((-1:Int)==t)=false:=by simp;omega
 have f:(u==t)=false:=by simpa using hn
 unfold VX hpL;split
 . rename_i h;have:(ix s.AE k).B6= -1:=by
    rcases h with⟨h|h,rfl⟩|⟨h,rfl⟩
    . exact(j h).1
    . exact(a h).1
    . exact(c h).1
   simp only[this,d,f]
 . split
   . rename_i h;have:(ix s.AE k).B6=u:=by
      rcases h with⟨h,rfl⟩|⟨h,rfl⟩
      . exact l h
      . exact(b h).1
     simp only[this,d,f]
   . split
     . have:(O3 ((ix s.AE k).Al++[u])).contains t=(ix s.AE k).Al.contains t:=(by rw[Bool.eq_iff_iff,AA3,AA3,Kt];simp only[AAz,ABG];exact⟨λh=>h.resolve_right λe=>hn e.symm,.inl⟩);simp only[this]
     . split
       . have:((ix s.AE k).Al.filter λy=> !(y==u)).contains t=(ix s.AE k).Al.contains t:=(by rw[Bool.eq_iff_iff,AA3,AA3,List.mem_filter];exact⟨λh=>h.1,λh=>⟨h,by simpa usingλe=>hn e.symm⟩⟩);simp only[this]
       . rfl
theorem XI.apply{wv:AD}{s:AP}(m:MQ wv)(h:XI wv s){u j o wake:Int}(g:CT wv s u j o=true):XI wv (DX wv s u j o wake).1:=by
 intro k i;obtain⟨p,d,l,q,n,f⟩:=Ya g;rw[XW g i];have b:=h k i;unfold VX;split
 . rename_i a;intro c;have b:=b c;rcases a with⟨a|a,rfl⟩|⟨a,rfl⟩
   . rw[(p a).2]at b;cases b.1
   . exact absurd (d a).2 c
   . rw[m _ (f a).2]at b;cases b.1
 . split
   . intro c;exact⟨(b c).1,rfl⟩
   . split
     . rename_i a;obtain⟨a,rfl⟩:=a;exactλ_=>⟨(l a).2,(l a).1⟩
     . split
       . intro c;refine b λe=>c ?_;simp only[e];rfl
       . exact b
def HF(wv:AD)(t k:Int)(l:List AG)(p:Bool×Bool):Bool×Bool:=l.foldl (λp e=>if e.Thread=t then ownF wv e.Kind e.Obj k p else p) p
theorem HF_snoc(wv:AD)(t k:Int)(l:List AG)(e:AG)(p:Bool×Bool):HF wv t k (l++[e]) p=if e.Thread=t then ownF wv e.Kind e.Obj k (HF wv t k l p)else HF wv t k l p:=by unfold HF;rw[List.foldl_append];rfl
theorem HF_skip(wv:AD)(t k:Int){l r:List AG}(h:∀e∈r,e.Thread≠t)(p:Bool×Bool):HF wv t k (l++r) p=HF wv t k l p:=by
 unfold HF;rw[List.foldl_append];generalize l.foldl _ p=q;revert q;induction r with
 |nil=>intro q;rfl
 |cons e r ih=>intro q;rw[List.foldl_cons,AAp (h e (by simp))];exact ih (λx a=>h x (by simp[a])) q
instance:Inhabited Sy:=⟨⟨0,false⟩⟩
structure WQ (w:AO):Prop where
 g:WG w
 f:WinF w
theorem WG.q{w:AO}(h:WG w):WQ w:=by refine⟨h,?_⟩;have a:=h.v;unfold Sx at a;simp only[AAi,AA1]at a;exact⟨a.1,a.2.1,a.2.2.1⟩
structure GIw (w:AO) (K:Nat) (c:qG):Prop where
 f:HM w.World c.Sync=true
 r:RB (1000+K) c.Sync
 l:c.Cells.length=w.World.Cells.length
 u:c.AK.length=w.World.AK.length
 x:c.Fixed.length=w.AF.length
 k:c.Woke.length=w.AF.length
 o:c.Order.length<=K
 p:∀(i j:Nat)(hi:i<j)(hj:j<w.AF.length),w.AF[i].Thread=w.AF[j].Thread->(j:Int)∈c.Order->(i:Int)∈c.Order
 h:∀t k,0<=t->Df k w.World.AE.length=true->∀m,m<=w.AF.length->(∀(i:Nat)(hi:i<w.AF.length),w.AF[i].Thread=t->((i:Int)∈c.Order↔i<m))->hpL t (ix c.Sync.AE k)=HF w.World t k (w.AF.take m) (hpL t (ix w.Init.Sync.AE k))
 X:XI w.World c.Sync
theorem GIw.step{w:AO}(hw:WQ w){K:Nat}{c:qG}(d:GIw w K c){i:Nat}(hi:i<w.AF.length)(J:(i:Int)∉c.Order)(Q:∀(j:Nat)(z:j<i),w.AF[j].Thread=w.AF[i].Thread->(j:Int)∈c.Order)(G:CT w.World c.Sync w.AF[i].Thread w.AF[i].Kind w.AF[i].Obj=true)(wake:Int){C F:List Sy}{X:List Bool}{W:List Int}(R:C.length=c.Cells.length)(S:F.length=c.AK.length)(U:X.length=c.Fixed.length)(T:W.length=c.Woke.length):
 GIw w (K+1) ⟨(DX w.World c.Sync w.AF[i].Thread w.AF[i].Kind w.AF[i].Obj wake).1,C,F,c.Order++[(i:Int)],X,W⟩:=by
 have hq:=Rq hw.f.v;refine⟨Xm d.f _ _ _ _,d.r.apply _ _ _ _ _,R.trans d.l,S.trans d.u,U.trans d.x,T.trans d.k,by have:=d.o;simp;omega,?_,?_,d.X.apply hq G⟩
 . intro a b E V y s;rcases AAz.1 s with s|s
   . exact List.mem_append_left _ (d.p a b E V y s)
   grind
 . intro t k y I m s D;dsimp only at D |-;rw[XW G I];by_cases q:w.AF[i].Thread=t
   . have Z:i<m:=(D i hi q).1 (by simp);have O:w.AF.take m=w.AF.take (i+1)++(w.AF.take m).drop (i+1):=(by have:=ABq (i+1) (w.AF.take m);rw[List.take_take,Nat.min_eq_left (by omega)]at this;exact this.symm);have P:∀e∈(w.AF.take m).drop (i+1),e.Thread≠t:=by
      intro e H g;obtain⟨j,z,rfl⟩:=List.getElem_of_mem H;simp only[List.length_drop,List.length_take]at z;rw[List.getElem_drop,List.getElem_take]at g;have B:i+1+j<w.AF.length:=by omega
      have:=(D (i+1+j) B g).2 (by omega);rcases AAz.1 this with L|L
      . exact J (d.p i (i+1+j) (by omega) B (q.trans g.symm) L)
      . grind
     rw[O,HF_skip _ _ _ P,<- AA2 hi,HF_snoc,AAs q,q,own_eq y];congr 1;refine d.h t k y I i (by omega) λj z n=>⟨λN=> ?_,λM=>Q j M (n.trans q.symm)⟩;refine Decidable.byContradiction λhn=> ?_;by_cases e:j=i
     . grind
     . exact J (d.p i j (by omega) z (q.trans n.symm) N)
   . rw[other_eq G y q];refine d.h t k y I m s λj z n=> ?_;grind
def exL(t:Int):Nat->List AW->List Int
 |_,[]=>[]
 |i,x::r=>if x.B6==t then(i:Int)::exL t (i+1) r else exL t (i+1) r
def shL(t:Int):Nat->List AW->List Int
 |_,[]=>[]
 |i,x::r=>if x.Al.contains t then(i:Int)::shL t (i+1) r else shL t (i+1) r
def holdsS(wv:AD)(s:AP)(t:Int):D5:=if HM wv s=true/\Df t wv.AA.length=true then⟨exL t 0 s.AE,shL t 0 s.AE⟩else⟨[],[]⟩
theorem exL_len(t:Int)(l:List AW):∀i,(exL t i l).length<=l.length:=by
 induction l with
 |nil=>intro i;simp[exL]
 |cons x r ih=>intro i;have:=ih (i+1);unfold exL;split<;>simp<;>omega
theorem shL_len(t:Int)(l:List AW):∀i,(shL t i l).length<=l.length:=by
 induction l with
 |nil=>intro i;simp[shL]
 |cons x r ih=>intro i;have:=ih (i+1);unfold shL;split<;>simp<;>omega
theorem holds_len{wv:AD}(a:Small wv)(s:AP)(t:Int):(holdsS wv s t).HW.length<=4/\(holdsS wv s t).MX.length<=4:=by
 unfold holdsS;split
 . rename_i h;have b:=(Ek h.1).1;have:=a.l;have c:=exL_len t s.AE 0;have d:=shL_len t s.AE 0;exact⟨by simp only;omega,by simp only;omega⟩
 . exact⟨by simp,by simp⟩
theorem oholds_loop(s:AP)(t:Int)(e:s.AE.length<=100)(d:RB 1000000000 s):∀(n i:Nat)(a b:List Int),i<=s.AE.length->s.AE.length<n+i->a.length<=i->b.length<=i->Fm.AZ s t n a b i=some (a++exL t i (s.AE.drop i),b++shL t i (s.AE.drop i))
 |0,i,a,b,h1,h2,_,_=>by omega
 |n+1,i,a,b,h1,h2,h3,h4=>by
  rw[Fm.AZ];unfold Fm.L1;by_cases hi:i<s.AE.length
  . rw[BC (by omega),CZ hi,AAg,E6 hi];have h:=aC (s.AE[i].Al) t (d _ (AA0 hi));have f:∀c,c.length<=i+1->Fm.J2 (Fm.AZ s t n) b i t s.AE[i] c=some (c++exL t (i+1) (s.AE.drop (i+1)),b++shL t i (s.AE[i]::s.AE.drop (i+1))):=by
     intro c g;unfold Fm.J2 Fm.J3;rw[h,AAg,Ai (by omega),shL];split
     . rw[BO (by omega),oholds_loop s t e d n (i+1) c _ (by omega) (by omega) (by omega) (by simp;omega)];simp
     . rw[oholds_loop s t e d n (i+1) c b (by omega) (by omega) (by omega) (by omega)]
    rw[exL];split
    . rw[BO (by omega),f _ (by simp;omega)];simp
    . rw[f _ (by omega)]
  . rw[Ad (by omega),Gb (by omega)];simp[Fm.J4,exL,shL]
theorem object_Holds_eq(wv:AD)(a:Small wv)(s:AP)(b:RB 1000000000 s)(t:Int):Fm wv s t=some ((holdsS wv s t).HW,(holdsS wv s t).MX):=by
 have d:=BU;unfold Fm holdsS;rw[OR wv a,AAg,Jz,AAg];cases hf:HM wv s with
 |false=>simp[Fm.J1]
 |true=>
  cases ht:Df t wv.AA.length with
  |false=>simp[Fm.J1]
  |true=>have c:=(Ek hf).1;have:=a.l;simp only[Bool.not_true,AAr,AAx,Fm.J1];exact oholds_loop s t (by omega) b BP 0 [] [] (by omega) (by omega) (by simp) (by simp)
def O5(wv:AD):AB->List AG->List D5
 |_,[]=>[]
 |s,e::r=>holdsS wv s.Sync e.Thread::O5 wv (GU wv s e) r
theorem yJ(wv:AD)(l:List AG):∀s,(O5 wv s l).length=l.length:=by
 induction l with
 |nil=>intro s;rfl
 |cons e r ih=>intro s;simp[O5,ih]
theorem helds_take(wv:AD)(l:List AG):∀s (k:Nat),O5 wv s (l.take k)=(O5 wv s l).take k:=by
 induction l with
 |nil=>intro s k;simp[O5]
 |cons e r ih=>
  intro s k;cases k with
  |zero=>rfl
  |succ k=>simp[O5,ih]
theorem helds_drop(wv:AD)(l:List AG):∀s (k:Nat),O5 wv ((l.take k).foldl (GU wv) s) (l.drop k)=(O5 wv s l).drop k:=by
 induction l with
 |nil=>intro s k;simp[O5]
 |cons e r ih=>
  intro s k;cases k with
  |zero=>rfl
  |succ k=>simp[O5,ih]
theorem helds_small{wv:AD}(b:Small wv)(l:List AG):∀s,∀h∈O5 wv s l,h.HW.length<=4/\h.MX.length<=4:=by
 induction l with
 |nil=>intro s h a;cases a
 |cons e r ih=>
  intro s h a;unfold O5 at a;rcases ABH.1 a with rfl|a
  . exact holds_len b _ _
  . exact ih _ h a
theorem yK{c:Type}(a:List c)(x y:c)(b:List c):(a++x::b).set a.length y=a++y::b:=by simp
theorem gt_mid{c:Type}(a:List c)(x:c)(b:List c):gt (a++x::b) (a.length:Int)=some x:=by rw[JR];simp
theorem follow_loop(l:List AG)(wv:AD)(c:Small wv)(d:∀e∈l,JC e)(g:l.length<=1000):∀(n:Nat)(s:AB)(a:List D5),a.length<=l.length->l.length<n+a.length->RB (a.length+1000) s.Sync->sH wv s (l.drop a.length)->
 FH.AZ l wv n s (a++List.replicate (l.length-a.length) ⟨[],[]⟩) a.length=some (a++O5 wv s (l.drop a.length))
 |0,s,a,h1,h2,_,_=>by omega
 |n+1,s,a,h1,h2,h4,b=>by
  rw[FH.AZ];unfold FH.L1;by_cases hi:a.length<l.length
  . rw[E6 hi]at b |-;obtain⟨h,b⟩:=b;have f:l.length-a.length=(l.length-(a.length+1))+1:=(by omega);rw[BC (by omega),CZ hi,AAg,object_Holds_eq wv c _ (h4.mono (by omega)),AAg,f,List.replicate_succ,gt_mid,AAg,ABS,yK,gt_mid,AAg,(sH.step c h4 (by omega) (d _ (AA0 _)) h).1,AAg,yK,Ai (by omega)]
    have:=follow_loop l wv c d g n (GU wv s l[a.length]) (a++[holdsS wv s.Sync l[a.length].Thread]) (by simp only[ABK,List.length_singleton];omega) (by simp only[ABK,List.length_singleton];omega) ((h4.apply _ _ _ _ _).mono (by simp only[ABK,List.length_singleton];omega)) (by simpa using b);simpa[O5]using this
  . rw[Ad (by omega),Gb (by omega)];have:l.length-a.length=0:=(by omega);simp[FH.J1,O5,this]
theorem follow_eq{l:List AG}{wv:AD}(f:Small wv)(a:∀e∈l,JC e)(b:l.length<=1000){s:AB}(d:RB 1000 s.Sync)(c:sH wv s l):FH wv s l=some (O5 wv s l):=by
 have g:=BU;unfold FH;rw[AAs ⟨by omega,by omega,Bh (by omega)⟩]
 have:=follow_loop l wv f a b BP s [] (by simp) (by simp;omega) (by simpa using d) (by simpa using c);simpa using this
theorem Equal_loop(l:List Int)(a:l.length<=1000000000):∀n i:Nat,i<=l.length->l.length<n+i->HC.AZ l l n (i:Int)=some true
 |0,i,h1,h2=>by omega
 |n+1,i,h1,h2=>by
  rw[HC.AZ];unfold HC.L1;by_cases hi:i<l.length
  . rw[BC (by omega),CZ hi,AAg,AAg,AAp (by simp),Ai (by omega)];exact Equal_loop l a n (i+1) (by omega) (by omega)
  . rw[Ad (by omega)];rfl
theorem Equal_self(l:List Int)(a:l.length<=1000000000):HC l l=some true:=by unfold HC;rw[AAp (by simp)];exact Equal_loop l a BP 0 (by omega) (by have:=BU;omega)
theorem SameHeld_loop(l:List D5)(a:l.length<=1000000)(h:∀x∈l,x.HW.length<=4/\x.MX.length<=4):∀n i:Nat,i<=l.length->l.length<n+i->GP.AZ l l n (i:Int)=some true
 |0,i,h1,h2=>by omega
 |n+1,i,h1,h2=>by
  rw[GP.AZ];unfold GP.L1;by_cases hi:i<l.length
  . have b:=h _ (AA0 hi);rw[BC (by omega),CZ hi,AAg,AAg,Equal_self _ (by omega),AAg,AAp (by simp),Equal_self _ (by omega),AAg];unfold GP.J1;rw[AAp (by simp),Ai (by omega)];exact SameHeld_loop l a h n (i+1) (by omega) (by omega)
  . rw[Ad (by omega)];rfl
theorem SameHeld_self(l:List D5)(a:l.length<=1000000)(h:∀x∈l,x.HW.length<=4/\x.MX.length<=4):GP l l=some true:=by unfold GP;rw[AAp (by simp)];exact SameHeld_loop l a h BP 0 (by omega) (by have:=BU;omega)
end
theorem awake28:JO=some true:=by decide +kernel
section
set_option maxHeartbeats 4000000
theorem Held_eq{t:Aw}(h:AT t):MY t=some (O5 t.World (GQ t.World) t.AF,0):=by unfold MY;rw[zF t λe a=>h.e e a,AAg,h.check,AAp (by simp),Lc _ (DF h.w),AAg,follow_eq (DF h.w) h.e (by have:=h.l;omega) (RB.mono (RB.start _) (by omega)) h.possL];rfl
theorem Window28_eq{w:AO}(h:WG w):Ks w=some (O5 w.World w.Init w.AF):=by have a:=valid_parts h.v;unfold Ks;rw[Valid_eq h.e (h.r.mono (by omega)),AAg,h.v,AAp (by simp),follow_eq a.s h.e (by have:=a.n;omega) h.r a.p];rfl
theorem LCuts_tot{r:Uf}(C:RunOK r)(B:r.Program.length<=4000000000000000000){z:Int}(G:0<=z/\z<256):B7 (Eb r z) λb=>b=true:=by
 have I:=BU;unfold Eb;refine tB (sI C (m:=40) (by omega) (by omega) B) ?_;rintro t ⟨c,_⟩;have K:=c.l;have g:0<=z.tmod 16:=Int.tmod_nonneg _ G.1;have j:z.tmod 16<16:=Int.tmod_lt_of_pos _ (by omega);rw[CH (n:=z) (by omega) (by omega),CH (n:=1+z.tmod 16) (by omega) (by omega),Held_eq c,AAg,xF t (λe u=>c.e e u),AAg];generalize y:(1+z.tmod 16).toNat=k;have D:Qr t (1+z.tmod 16)=(Ld t k t.AF.length,0):=by unfold Qr;rw[AAp (by rw[c.check];simp),AAp (by omega),y]
 rw[D];have E:=winN_le (k:=k) (by omega) t.AF.length;have a:=Wo t k t.AF.length;refine tI (λh=>by simp at h) λ_=>tI (λh=>by simp at h) λ_=> ?_;unfold Eb.J1;refine tI (λh=>by simp[yJ]at h) λ_=> ?_;have key:∀(n i:Nat),VE k t.AF.length<n+i->i<=VE k t.AF.length->B7 (Eb.AZ (O5 t.World (GQ t.World) t.AF,0) (Ld t k t.AF.length,0) n i) λb=>b=true:=by
  intro n;induction n with
  |zero=>intro i g j;omega
  |succ n ih=>
   intro i g j;unfold Eb.AZ Eb.L1;refine tI (λh=> ?_) λ_=> ?_
   . have h:=AAq h;have hi:i<(Ld t k t.AF.length).length:=(by simp only at h;omega);have J:i*k<t.AF.length:=by
      rw[a]at hi;unfold VE at hi
      have:=(Nat.le_div_iff_mul_le (by omega)).1 (show i+1<=_ from hi);rw[ABl]at this;omega
     have v:gt (Ld t k t.AF.length) (i:Int)=some (aB t k (i*k)):=(by rw[CZ hi];simp[Ld]);have s:=winS_WG c (k:=k) (by omega) (show i*k<=t.AF.length by omega);have f:O5 (aB t k (i*k)).World (aB t k (i*k)).Init (aB t k (i*k)).AF=((O5 t.World (GQ t.World) t.AF).drop (i*k)).take k:=(by show O5 t.World (HJ t (i*k)) ((t.AF.drop (i*k)).take k)=_;rw[helds_take,<- helds_drop];rfl);have d:(((O5 t.World (GQ t.World) t.AF).drop (i*k)).take k).length=(aB t k (i*k)).AF.length:=(by rw[<- f,yJ]);have H:(aB t k (i*k)).AF.length<=t.AF.length-i*k:=(by show((t.AF.drop (i*k)).take k).length<=_;simp;omega);rw[v,AAg,Window28_eq s,AAg,f];refine tI (λh=>by simp[d]at h) λ_=> ?_;have o:A1 ((aB t k (i*k)).Start+((((O5 t.World (GQ t.World) t.AF).drop (i*k)).take k).length:Int))=((i*k+(aB t k (i*k)).AF.length:Nat):Int):=(by rw[d];show A1 (((i*k:Nat):Int)+_)=_;rw[CH (by omega) (by omega)];omega);rw[o];have p:(aB t k (i*k)).Start=((i*k:Nat):Int):=rfl;rw[p];refine tC ⟨by omega,by omega,by simp only[ABS];omega,by simp only[ABS,yJ];omega⟩ ?_;have q:(((O5 t.World (GQ t.World) t.AF).drop (i*k)).take (i*k+(aB t k (i*k)).AF.length-i*k))=((O5 t.World (GQ t.World) t.AF).drop (i*k)).take k:=(by rw[show i*k+(aB t k (i*k)).AF.length-i*k=(((O5 t.World (GQ t.World) t.AF).drop (i*k)).take k).length from by rw[d];omega,List.length_take,List.take_eq_take_iff];omega);simp only[ABS];rw[q,SameHeld_self _ (by rw[d];omega) (λx F=>helds_small (DF c.w) _ _ x (List.mem_of_mem_drop (AB4 F))),AAg];unfold Eb.J2;rw[Ai (by omega)];exact tI (λh=>by cases h) λ_=>ih (i+1) (by omega) (by rw[<- a];omega)
   . unfold Eb.J3;rw[awake28];exact tR rfl
 exact key BP 0 (by omega) (by omega)
def LW(w:Bool)(h:D5):List Int:=O3 (if w=true then h.HW else h.HW++h.MX)
def OJ(a:DO)(t:Int)(w:Bool)(h:D5):DO×Bool:=
 if a.State=0\/a.State=1/\t=a.B6 then(⟨1,t,[]⟩,false)
 else(⟨if w=true then 3 else if a.State=1 then 2 else a.State,0,if a.State=1 then LW w h else a.AE.filter (LW w h).contains⟩,
  (if w=true then 3 else if a.State=1 then 2 else a.State)==3&&((if a.State=1 then LW w h else a.AE.filter (LW w h).contains).length:Int)==0)
structure EI (a:DO):Prop where
 s:a.State=0\/a.State=1\/a.State=2\/a.State=3
 o:a.AE.Pairwise (· < ·)
 l:a.AE.length<=1000
def HL(h:D5):Prop:=h.HW.length<=100/\h.MX.length<=100
theorem o0{w:Bool}{h:D5}(a:HL h):(LW w h).length<=200:=by
 have b:=a.1;have c:=a.2;unfold LW;refine ABc (UP _) ?_;split
 . omega
 . simp only[ABK];omega
theorem EI.step{a:DO}(b:EI a){t:Int}{w:Bool}{h:D5}(c:HL h):EI (OJ a t w h).1:=by
 have e:=o0 (w:=w) c;have f:=b.s;unfold OJ;split
 . exact⟨.inr (.inl rfl),.nil,by simp⟩
 . rename_i d;refine⟨?_,?_,?_⟩
   . simp only;split
     . omega
     . split<;>omega
   . simp only;split
     . exact Lo _
     . exact b.o.filter _
   . simp only;split
     . omega
     . exact ABc (List.length_filter_le _ _) b.l
instance:Inhabited DO:=⟨⟨0,0,[]⟩⟩
def accB(wv:AD)(e:AG):Bool:=(e.Kind==3||e.Kind==4)&& !(ix wv.Cells e.Obj).Gl
def sF(wv:AD)(i:Int)(e:AG)(h:D5)(s:List DO×List Int):List DO×List Int:=
 if accB wv e=true then
  let r:=OJ (ix s.1 e.Obj) e.Thread (e.Kind==4) h
  (s.1.set e.Obj.toNat r.1,if r.2=true/\ix s.2 e.Obj<0 then s.2.set e.Obj.toNat i else s.2)
 else s
def CE(wv:AD)(e:AG):Prop:=e.Kind=3\/e.Kind=4->Df e.Obj wv.Cells.length=true
structure WS (n:Nat) (s:List DO×List Int):Prop where
 a:s.1.length=n
 b:s.2.length=n
 e:∀x∈s.1,EI x
theorem ix_mem{a:Type}[Inhabited a]{l:List a}{i:Int}(h:Df i l.length=true):ix l i∈l:=by
 have:=Cb h;unfold gt at this;split at this
 . exact AAu this
 . cases this
theorem WS.step{n:Nat}{wv:AD}(hn:n=wv.Cells.length){s:List DO×List Int}(c:WS n s){e:AG}(g:CE wv e){h:D5}(j:HL h)(i:Int):WS n (sF wv i e h s):=by
 unfold sF;split
 . rename_i d;have k:e.Kind=3\/e.Kind=4:=(by unfold accB at d;simp at d;exact d.1);have hi:Df e.Obj s.1.length=true:=(by rw[c.a,hn];exact g k);refine⟨by simpa using c.a,?_,λx f=> ?_⟩
   . simp only;split<;>simpa using c.b
   . rcases ABB f with f|rfl
     . exact c.e x f
     . exact(c.e _ (ix_mem hi)).step j
 . exact c
theorem fill{c:Type}{L:Nat->List Int->Int->AB8 c}{N:Nat}{R:List Int->AB8 c}(f:N<=1000)(b:∀(n i:Nat)(l:List Int),i<N->l.length=N->L (n+1) l (i:Int)=L n (l.set i (-1)) ((i+1:Nat):Int))(a:∀n l,L (n+1) l (N:Int)=R l):∀(n i:Nat),i<=N->N<n+i->L n (List.replicate i (-1)++List.replicate (N-i) 0) (i:Int)=R (List.replicate N (-1))
 |0,i,h1,h2=>by omega
 |n+1,i,h1,h2=>by
  by_cases hi:i<N
  . have d:N-i=(N-(i+1))+1:=(by omega);rw[b n i _ hi (by simp;omega),d,List.replicate_succ];have e:(List.replicate i (-1:Int)++(0:Int)::List.replicate (N-(i+1)) 0).set i (-1)=List.replicate (i+1) (-1)++List.replicate (N-(i+1)) 0:=(by have:=yK (List.replicate i (-1:Int)) 0 (-1) (List.replicate (N-(i+1)) 0);rw[ABp]at this;rw[this,AB5];simp);rw[e];exact fill f b a n (i+1) (by omega) (by omega)
  . obtain rfl:i=N:=(by omega);rw[a];simp
theorem AT.ce{t:Aw}(h:AT t){e:AG}(d:e∈t.AF):CE t.World e:=by intro a;obtain⟨i,hi,rfl⟩:=List.getElem_of_mem d;have b:=h.poss hi;unfold IZ CT at b;simp only[AAi]at b;have c:=b.2.2.1.2.2.1;unfold CF at c;rcases a with a|a<;>simpa[a]using c
theorem v8{b:Type}[Inhabited b]{l:List b}{i:Int}(h:Df i l.length=true)(a:b):ix (l.set i.toNat a) i=a:=by have h:=Bb.1 h;unfold ix;rw[AAk (by omega)];rfl
theorem bJ{b:Type}[Inhabited b]{l:List b}{i j:Int}(hi:0<=i)(c:0<=j)(h:i≠j)(a:b):ix (l.set i.toNat a) j=ix l j:=by unfold ix;rw[AAn (by omega)]
def holdB(c k:Int)(x:AG×D5):Bool:= !((x.1.Kind==3||x.1.Kind==4)&&x.1.Obj==c)||(x.2.HW.contains k||(x.1.Kind==3&&x.2.MX.contains k))
def DI(c k:Int)(s:List DO×List Int):Prop:=((ix s.1 c).State=0\/(ix s.1 c).State=1\/k∈(ix s.1 c).AE)/\ix s.2 c<0
theorem DI.step{wv:AD}{c k:Int}{s:List DO×List Int}(h:DI c k s)(r:WS wv.Cells.length s)(p:Df c wv.Cells.length=true){e:AG}{hd:D5}(q:CE wv e)(d:holdB c k (e,hd)=true)(i:Int):DI c k (sF wv i e hd s):=by
 unfold sF;split
 . rename_i l;dsimp only;have f:e.Kind=3\/e.Kind=4:=(by unfold accB at l;simp at l;exact l.1);have hi:=q f;have t:=Bb.1 hi;have u:=Bb.1 p;by_cases b:e.Obj=c
   . subst b;have m:k∈LW (e.Kind==4) hd:=by
      unfold holdB at d;simp only[ABb,Bool.and_true,ABE,ABR,AAi,AA3]at d;unfold LW;rw[Kt];rcases f with f|f
      . simp[f]at d |-;exact d
      . simp[f]at d |-;exact d
     have n:(OJ (ix s.1 e.Obj) e.Thread (e.Kind==4) hd).2=false/\((OJ (ix s.1 e.Obj) e.Thread (e.Kind==4) hd).1.State=1\/k∈(OJ (ix s.1 e.Obj) e.Thread (e.Kind==4) hd).1.AE):=by
      unfold OJ;split
      . exact⟨rfl,.inl rfl⟩
      . rename_i hn;have o:k∈(if(ix s.1 e.Obj).State=1 then LW (e.Kind==4) hd else(ix s.1 e.Obj).AE.filter (LW (e.Kind==4) hd).contains):=by
         split
         . exact m
         . rename_i j;rcases h.1 with g|g|g
           . exact absurd (.inl g) hn
           . exact absurd g j
           . exact List.mem_filter.2 ⟨g,by simpa using m⟩
        refine⟨?_,.inr o⟩;have:((if(ix s.1 e.Obj).State=1 then LW (e.Kind==4) hd else(ix s.1 e.Obj).AE.filter (LW (e.Kind==4) hd).contains).length:Int)≠0:=by have:=List.length_pos_of_mem o;omega
        simp only[Bool.and_eq_false_iff,ABv];exact .inr this
     unfold DI;dsimp only;rw[v8 (by rw[r.a];exact hi),AAp (by rw[n.1];simp)];exact⟨n.2.elim (λg=>.inr (.inl g)) λg=>.inr (.inr g),h.2⟩
   . unfold DI;dsimp only;rw[bJ (by omega) (by omega) b];refine⟨h.1,?_⟩;split
     . rw[bJ (by omega) (by omega) b];exact h.2
     . exact h.2
 . exact h
end
section
open Go.Proofs Go.RowKit
set_option maxRecDepth 100000
set_option maxHeartbeats 4000000
theorem kR{b:Type}{e:b->List AV}{ok:b->Prop}:∀(rows:List (List AV)),(∀a∈rows,∃x:b,a=e x/\ok x)->∃l:List b,rows=l.map e/\∀x∈l,ok x
 |[],_=>⟨[],rfl,λ_ h=>by simp at h⟩
 |r::rs,h=>by
  obtain⟨l,f,g⟩:=kR rs (λa i=>h a (by simp[i]));obtain⟨x,j,c⟩:=h r (by simp);refine⟨x::l,by rw[j,f];rfl,λy d=> ?_⟩;rcases ABH.1 d with rfl|d
  . exact c
  . exact g y d
def SO(x:Int):Prop:=(Lit.int .u8 x).wf=true
structure KZ (x:List Int):Prop where
 len:x.length*1<=reachBytes
 all:∀y∈x,SO y
structure okRun (x:Uf):Prop where
 f0:KZ x.Program
 f1:KZ x.Ct
 f2:KZ x.RJ
theorem op5:N7 Tryz.prog 5 (λa=>∃x:Int,a=[.sc (.int .u8 x)]/\SO x):=(lY Tryz.underlying5).mono λ_ ⟨n,h,b⟩=>⟨n,h,b⟩
theorem arg5(a:AV):ZZ Tryz.prog 5 [a]=a:=by unfold ZZ;rw[Tryz.underlying5];rfl
theorem op22:N7 Tryz.prog 22 (λc=>∃x:List Int,c=[.sl false 1 (x.map Ww)]/\KZ x):=by
 refine(kC (k:=1) Tryz.underlying22 (by kernel_rfl) (by omega) op5).mono ?_;rintro c ⟨rows,rfl,g,d⟩;obtain⟨l,rfl,f⟩:=kR (e:=Ww) (ok:=SO) rows λb h=>(g b h).1;have a:Tryz.prog.bytesOf 5=1:=by kernel_rfl
 rw[a,ABI]at d;exact⟨l,rfl,d,f⟩
theorem op24:N7 Tryz.prog 24 (λa=>∃x:Uf,a=sJ x/\okRun x):=by refine(eN (Xs:=[λa=>∃x:List Int,a=[.sl false 1 (x.map Ww)]/\KZ x,λa=>∃x:List Int,a=[.sl false 1 (x.map Ww)]/\KZ x,λa=>∃x:List Int,a=[.sl false 1 (x.map Ww)]/\KZ x]) Tryz.underlying24 ⟨by kernel_rfl,op22,⟨by kernel_rfl,op22,⟨by kernel_rfl,op22,trivial⟩⟩⟩ (by kernel_rfl)).mono ?_;rintro a ⟨a0,j,rfl,⟨e,rfl,b⟩,⟨h,k,rfl,⟨f,rfl,c⟩,⟨i,l,rfl,⟨g,rfl,d⟩,rfl⟩⟩⟩;exact⟨⟨e,f,g⟩,rfl,⟨b,c,d⟩⟩
theorem arg24(a:List AV):ZZ Tryz.prog 24 a= .agg a:=by unfold ZZ;rw[Tryz.underlying24];rfl
theorem laid:laidOutB Tryz.prog=true:=by kernel_rfl
theorem own0:ownKnob Tryz.prog.godebug=none:=by kernel_rfl
abbrev jX:List (String×DataW Unit):=[("interleave/token.keywords",Go.Proofs.YthmijagacgnmkaaGreatDoor.Rows.laid_interleave_token_keywords)]
theorem gName:Tryz.prog.globalNamed "interleave/token.keywords" =some 0:=by kernel_rfl
theorem gType:(Tryz.prog.globals[0]?).map (·.type)=some 318:=by kernel_rfl
theorem wI:(Go.Proofs.YthmijagacgnmkaaGreatDoor.Rows.laid_interleave_token_keywords:DataW Unit)= .agg (Lz.map λs=>.lit (.string s.data.toList)):=rfl
theorem oB{W:World}(h:laidMetH Tryz.prog jX W):GI W (Old W):=by
 rw[MakeChecks.laidMetH_plain _ _ _ (by kernel_rfl)]at h;obtain⟨G,⟨g0,I,c,f0,F,H,i,n,o,f,_,_⟩,_,_⟩:=h;obtain rfl:=AAl (gName.symm.trans i);obtain rfl:=AAl (gType.symm.trans n);obtain⟨w,m,rfl,p,t,hn,g⟩:=DataW.trod_array Tryz.underlying318 f;have ce:Tryz.prog.cellsOf 9=1:=by kernel_rfl
 rw[wI]at p;simp only[AAv,DataW.agg.injEq]at p;have r:∀(j:Nat) s,Lz[j]? =some s->W.cell? ⟨0,j,none⟩=some (.string s):=by
  intro j s b;have k:j<22:=by have:=(AAj.1 b).1;exact this
  have a:(w.map (·.1))[j]? =some (.lit (.string s.data.toList)):=by rw[<- p.1,AAt,b];rfl
  rw[AAt]at a;cases hxs:w[j]? with
  |none=>rw[hxs]at a;cases a
  |some y=>have u:=g j k;rw[hxs,ce]at u;obtain⟨e,B,D,_⟩:=DataW.trod_string Tryz.underlying9 u;rw[hxs]at a;simp only[AA9,AAh]at a;rw[D]at a;simp only[DataW.lit.injEq,Lit.string.injEq]at a;have l:e=s:=ByteArray.ext (Array.toList_inj.1 a);subst l;rw[World.var?_cell gName o j];have:(c.toList.drop (j*1)).take 1=[.string e]:=B;rw[Nat.mul_one]at this;have d:c.toList[j]? =some (.string e):=(by have C:((c.toList.drop j).take 1)[0]? =some (.string e):=(by rw[this];rfl);simpa using C);simpa using d
 intro x q;have:x=(0,Lz.map Value.string):=by simpa[Gam]using q
 subst this;have d:=r 0 _ rfl;obtain⟨_,z⟩:=qM d;refine⟨z,?_⟩;unfold World.cell? at d;cases hb:W.heap[0]? with
 |none=>simp[hb]at d
 |some Mg=>
  cases Mg with
  |cells arr E fz=>
   refine⟨arr,E,fz,rfl,λj v b=> ?_⟩;rw[AAt]at b;cases hs:Lz[j]? with
   |none=>rw[hs]at b;cases b
   |some s=>
    rw[hs]at b;simp only[AA9,AAh]at b;subst b
    have:=r j s hs;unfold World.cell? at this;simpa[hb]using this
  |_=>simp[hb]at d
end
theorem u8_of{x:Int}(h:SO x):0<=x/\x<256:=by unfold SO Lit.wf at h;simp only[AAi,AA1]at h;have c:=h.1;have d:=h.2;have a:IntKind.u8.min=0:=rfl;have b:IntKind.u8.max=255:=rfl;omega
theorem true_of{o:AB8 Bool}(h:B7 o λb=>b=true):o=some true:=by obtain⟨b,h,rfl⟩:=h;exact h
theorem YU{l:List Int}(h:KZ l):Rl l:=λx a=>u8_of (h.all x a)
theorem run_in{r:Uf}(h:okRun r):RunOK r:=⟨YU h.f0,YU h.f1,YU h.f2⟩
theorem len_in{l:List Int}(h:KZ l):l.length<=4000000000000000000:=by have:=h.len;unfold reachBytes at this;omega
theorem LCuts_law{r:Uf}{z:Int}(h:okRun r)(a:SO z):Eb r z=some true:=true_of (LCuts_tot (run_in h) (len_in h.f0) (u8_of a))
end Go.Abs
