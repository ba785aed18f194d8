/- What the typed programs give, in plain Lean. -/
import Derived.Test.YtdadohkcmclilaaGreatDoorWalkS
import Derived.Test.YtdadohkcmclilaaGreatDoorPlainC
import Derived.Test.YtdadohkcmclilaaGreatDoorRows
import Derived.Test.YtdadohkcmclilaaGreatDoorTie
import Derived.ProofKit
import Derived.LaidMore
import Derived.OpenShut
import Derived.Shelf.Slices.SearchI
set_option linter.unusedSimpArgs false
set_option linter.unusedVariables false
namespace Go.Abs
set_option maxHeartbeats 4000000
section
variable {T:ABi->Prop} {g h r:A8} {lo hi lo' hi':Int}
theorem Zk (h:g.w.Af=[⟨cN,0⟩]):CO g cN=some (0,g):=by unfold CO;have a:=Bn;obtain⟨n,hn⟩:∃n,Bg=n+1:=⟨Bg-1,by omega⟩;rw[hn];unfold CO.AZ CO.L1;rw[h];simp[gt]
theorem wE {l:List ABi} {s:ABi} (o:l.length<1000000):Hi (CN l s) λr=>s∈l->0≤r/\r<l.length:=by
 unfold CN;refine wA l.length (λi (_:Unit)=>∀j:Nat,j<i->l[j]? ≠some s) (s0:=()) (F:=λn _ i=>CN.AZ l s n i) (λ_ _=>rfl) (by omega) (λj c=>by omega) λn i _ hi b k=> ?_;unfold CN.AZ CN.L1 CN.J1;refine pD (λg=>pE (B8 (by omega)) (pI (λ_=>pR λ_=>by omega) λa=>k () (by omega) ?_)) λm=>pR λd=> ?_
 . intro j c e;by_cases h:j<i
   . exact b j h e
   . obtain rfl:j=i:=(by omega);rw[AAL (by omega)]at e;rw[AAJ e]at a;simp at a
 . obtain⟨j,j1,f⟩:=List.getElem_of_mem d;exact absurd (by rw[AAL j1,f]) (b j (by omega))
theorem stmt_par {R:A8->List AR->ABh A8} {s:AR} {k B E:Nat} (m:GW T g) (u:Ha T (k+1) s) (hn:0≤g.next/\g.next+(1+B+E)≤1000000) (hB:BS T R s.Body B) (hE:BS T R s.Else E) (b0:s.Body=[]->B=0) (e0:s.Else=[]->E=0):
 Hi (CY (Cq R) (C7 R) g s) λr=>GV g r g.next (g.next+(1+B+E))/\r.next=g.next+(1+B+E):=by
 have hw:Aq (g.next+1)=g.next+1:=CC (by omega) (by omega);have bd:=u.2.2.2.2.2.2.2.2.1;have nm:=u.2.2.2.2.2.2.2.2.2;have nB:s.Op∉[(2:Int),3,4,5,6,7,8]->B=0:=λh=>b0 (bd.1 h);have K:s.Op≠2->E=0:=λh=>e0 (bd.2 h);unfold CY;rw[hw];generalize o:A8.mk g.w g.locals g.out g.next (g.next+1)=g1;have I:GW T g1:=by rw[← o];exact⟨m.w,m.l⟩
 have gs:g1.site=g.next:=by rw[← o]
 have H:g1.next=g.next+1:=by rw[← o]
 have j:g1.w=g.w:=by rw[← o]
 have gl:(g1.locals.length:Int)=2:=by rw[I.l];rfl
 have up:∀{r lo hi},GV g1 r lo hi->GV g r lo hi:=λh=>by rw[← o]at h;exact⟨h.w,h.l,h.n,h.p,h.s⟩
 have si:g.next≤g1.site/\g1.site<g.next+(1+B+E):=by rw[gs];omega
 -- one instruction
 have P:∀i:Ac,s.Op∉[(2:Int),3,4,5,6,7,8]->LV g1.w g.next (g.next+(1+B+E)) (g1.out.length+1) ⟨i.Op,i.A,i.B,i.C,i.N,g1.site⟩->i.Op≠5->Hi ((A5 g1 i).bind λv=>some v) λr=>GV g r g.next (g.next+(1+B+E))/\r.next=g.next+(1+B+E):=by intro i F J h3;have z1:=nB F;have z2:=K (by intro h;rw[h]at F;simp at F);exact pM (Hr J h3) λr h=>⟨up h.1,by rw[h.2.2,H];omega⟩
 have A:∀{a b c:Int},s.Op≠2->11≤a/\a≤25->11≤b/\b≤25->(∀p S,p=a∨p=b->AL g1.w ⟨p,c,0,0,0,S⟩=some true)->Hi ((C7 R g1 s a b c).bind λv=>some v) λr=>GV g r g.next (g.next+(1+B+E))/\r.next=g.next+(1+B+E):=by intro a b c J ha O U;have z2:=K J;exact pB (iW (lo:=g.next) (hi:=g.next+(1+B+E)) I si (by omega) (by omega) (by omega) hB ha O U) λr h=>pR ⟨up h.1,by rw[h.2,H];omega⟩
 have lk:g.w.AG=Wx:=m.w.l;have j1:∀b,(b=true->s.Op=2∨s.Op=3)->(b=false->s.Op≠1/\s.Op≠2/\s.Op≠3)->Hi (CY.J1 (Cq R) (C7 R) g s b) λr=>GV g r g.next (g.next+(1+B+E))/\r.next=g.next+(1+B+E):=by
  intro b O rQ;unfold CY.J1;rw[hw,o];refine pI (λh=> ?_) λh0=> ?_
  . have U:=O h;have Q:SX 2 s.Expr:=u.2.2.1.resolve_right λh=>h.1 (by rcases U with h|h<;>simp[h]);exact pB (Zg (lo:=g.next) (hi:=g.next+(1+B+E)) I si (by omega) (by omega) (by omega) Q hB hE (λh=>K (by omega)) e0) λr h=>pR ⟨up h.1,by rw[h.2,H];omega⟩
  have n0:=rQ h0;refine pI (λh=> ?_) λn4=>pI (λh=> ?_) λn5=>pI (λh=> ?_) λn6=>pI (λh=> ?_) λn7=>pI (λh=> ?_) λn8=> ?_
  . have h:=eq_of_beq h;rw[lk];rcases nm.2.1 h with F|F<;>rw[F]
    . exact pE (y:=0) (by decide +kernel) (A (by omega) (by omega) (by omega) λp S G=>objM (by simp only;omega) (y:=⟨⟨#[109]⟩,false⟩) (by rw[j,lk];rfl) rfl)
    . exact pE (y:=1) (by decide +kernel) (A (by omega) (by omega) (by omega) λp S G=>objM (by simp only;omega) (y:=⟨⟨#[110]⟩,false⟩) (by rw[j,lk];rfl) rfl)
  . have h:=eq_of_beq h;rw[lk,nm.2.2.1 (.inl h)];exact pE (y:=2) (by decide +kernel) (A (by omega) (by omega) (by omega) λp S G=>objR (by simp only;omega) (y:=⟨⟨#[114]⟩,true⟩) (by rw[j,lk];rfl) rfl)
  . have h:=eq_of_beq h;rw[lk,nm.2.2.1 (.inr h)];exact pE (y:=2) (by decide +kernel) (A (by omega) (by omega) (by omega) λp S G=>objR (by simp only;omega) (y:=⟨⟨#[114]⟩,true⟩) (by rw[j,lk];rfl) rfl)
  . have h:=eq_of_beq h;exact A (by omega) (by omega) (by omega) λp S G=>lO (by rcases G with h|h<;>simp[h])
  . have h:=eq_of_beq h;exact A (by omega) (by omega) (by omega) λp S G=>lO (by rcases G with h|h<;>simp[h])
  simp only[beq_eq_false_iff_ne,ne_eq]at n4 n5 n6 n7 n8;have D:s.Op∉[(2:Int),3,4,5,6,7,8]:=by simp;omega
  have L:∀{p c e:Int},11≤p/\p≤25->AL g1.w ⟨p,c,0,0,0,g1.site⟩=some true->LV g1.w g.next (g.next+(1+B+E)) (g1.out.length+1) ⟨p,c,0,0,0,g1.site⟩:=λF J=>
   ⟨by simp only;omega,J,by rw[rg0 (by simp only;omega)];simp,si,by simp only;omega,by simp only;omega⟩
  have M:g1.w.Af=[⟨cN,0⟩]:=by rw[j];exact m.w.d
  have Gu:(g1.w.Af.length:Int)=1:=by rw[M];rfl
  refine pI (λh=> ?_) λn9=>pI (λh=> ?_) λV=>pI (λh=> ?_) λW=>pI (λh=> ?_) λX=>pI (λh=> ?_) λZ=>pI (λh=> ?_) λn14=>pI (λh=> ?_) λn15=> ?_
  . rw[u.2.2.2.1 (by simp[eq_of_beq h])];exact pE (Zk M) (P ⟨21,0,0,0,0,0⟩ D (L (e:=0) (by simp) (objC (.inl rfl) (by simp only;omega))) (by simp))
  . rw[u.2.2.2.1 (by simp[eq_of_beq h])];exact pE (Zk M) (P ⟨22,0,0,0,0,0⟩ D (L (e:=0) (by simp) (objC (.inr (.inl rfl)) (by simp only;omega))) (by simp))
  . rw[u.2.2.2.1 (by simp[eq_of_beq h])];exact pE (Zk M) (P ⟨23,0,0,0,0,0⟩ D (L (e:=0) (by simp) (objC (.inr (.inr rfl)) (by simp only;omega))) (by simp))
  . refine pB (wE (by have:=m.w.n;omega)) λv z=> ?_
    have:=z (m.w.t _ (nm.2.2.2.1 (.inl (eq_of_beq h))));exact P ⟨24,v,0,0,0,0⟩ D (L (e:=0) (by simp) (objT (.inl rfl) (by simp only;rw[j];exact this))) (by simp)
  . refine pB (wE (by have:=m.w.n;omega)) λv z=> ?_
    have:=z (m.w.t _ (nm.2.2.2.1 (.inr (eq_of_beq h))));exact P ⟨25,v,0,0,0,0⟩ D (L (e:=0) (by simp) (objT (.inr rfl) (by simp only;rw[j];exact this))) (by simp)
  . have h:=eq_of_beq h;have Q:SX 2 s.Expr:=u.2.2.1.resolve_right λq=>q.1 (by simp[h]);have z1:=nB D;have z2:=K (by omega);rw[show(g.locals.length:Int)=2 from by rw[m.l];rfl];refine pB (TS (lo:=g.next) (hi:=g.next+(1+B+E)) Q I si (by omega)) λv z=> ?_;have hf:v.w.AH=[⟨#[102]⟩]:=(by rw[z.1.w,j];exact m.w.f);rw[hf,nm.2.2.2.2.1 h];refine pE (y:=0) (by decide +kernel) (pM (Hr ⟨by simp,obj26 rfl (by rw[hf];simp),by rw[rg26 rfl];exact Pl (x:=0) (by simp),by rw[z.2.1];exact si,by simp,by simp⟩ (by simp)) λr h=>⟨up (z.trans h).1,by rw[h.2.2,z.2.2,H];omega⟩)
  . have h:=eq_of_beq h;have hn:=nm.2.2.2.2.2 h;rw[m.l,m.w.f,hn.1,hn.2];refine pE (y:=0) (by decide +kernel) (pE (y:=0) (by decide +kernel) (P ⟨27,0,0,0,0,0⟩ D ⟨by simp,obj27 rfl (by rw[j,m.w.f];simp),by rw[rg27 rfl];exact Pl (x:=0) (by simp),si,by simp,by simp⟩ (by simp)))
  . have:=u.1;simp only[beq_eq_false_iff_ne,ne_eq]at n9 V W X Z n14 n15;omega
 refine pI (λh=> ?_) λn1=>pI (λh=>j1 _ (λ_=>.inl (eq_of_beq h)) λh'=>by rw[h']at h;cases h) λn2=>j1 _ (λh=>.inr (eq_of_beq h)) λh=>⟨by simpa using n1,by simpa using n2,by simpa using h⟩;have h:=eq_of_beq h;have z1:=nB (by rw[h];decide);have z2:=K (by omega);exact pB (jA (lo:=g.next) (hi:=g.next+(1+B+E)) I si u h) λr h=>pR ⟨up h.1,by rw[h.2.2,H];omega⟩
theorem uA (d:Nat):∀(n:Nat) (l:List AR),3*d+1≤n->SZ T d l->BS T (DF n) l (M8 d l):=by
 induction d with
 |zero=>intro n l hn ⟨_,h⟩ g hg j;obtain⟨n,rfl⟩:∃k,n=k+1:=⟨n-1,by omega⟩;have:l=[]:=AA3.2 λx j=>(h x j).elim;subst this;show Hi (some g) _;exact pR ⟨GV.refl,by simp[M8]⟩
 |succ d ih=>
  intro n l hn ⟨h1,h2⟩ g hg j;obtain⟨n,rfl⟩:∃k,n=k+3:=⟨n-3,by omega⟩;show Hi (B7 (CY (Cq (DF n)) (C7 (DF n))) g l) _;unfold B7
  let f:AR->Nat:=λs=>1+M8 d s.Body+M8 d s.Else
  have u:M8 (d+1) l=(l.map f).sum:=rfl;refine wA l.length (λi s=>GV g s g.next (g.next+((l.take i).map f).sum)/\s.next=g.next+((l.take i).map f).sum) (F:=λm s i=>B7.AZ _ l m s i) (λ_ _=>rfl) (by omega) ⟨GV.refl,by simp⟩ λm i s hi p k=> ?_;obtain⟨a,b⟩:=p;unfold B7.AZ B7.L1;refine pD (λq=>pE (B8 (by omega)) ?_) λr=> ?_
  . have st:=Xl (l:=l) (i:=i) (by omega) f;have o:=MC l (i+1) f;have c:l[i]∈l:=AAW (by omega);have t:f l[i]=1+M8 d l[i].Body+M8 d l[i].Else:=rfl;refine pB (stmt_par (hg.next a) (h2 _ c) (by rw[b];omega) (ih n _ (by omega) (h2 _ c).body) (ih n _ (by omega) (h2 _ c).els) (λh=>by rw[h];exact o6 d) λh=>by rw[h];exact o6 d) λv e=>k _ (by omega) ?_;rw[b]at e;refine⟨(a.mono (by omega) (by omega)).trans (e.1.mono (by omega) (by omega)),by rw[e.2];omega⟩
  . have:i=l.length:=(by omega);subst this;rw[List.take_length]at a b;exact pR ⟨a,b⟩
theorem Q0 {l:List Ac} {a b:Nat} (h:l.length≤8000000) (g:b≤l.length):∀(n fuel i k m:Nat),Pv l a b n k m->Ev l m->n+i≤l.length->l.length+1<fuel+i->Bj.AZ l fuel k i=some true:=by
 intro n;induction n with
 |zero=>intro fuel i k m r ⟨x,x1,x2⟩ h1 h2;cases r;obtain⟨fuel,rfl⟩:∃f,fuel=f+1:=⟨fuel-1,by omega⟩;have d:=(AAI.1 x1).1;unfold Bj.AZ Bj.L1 Bj.J1;rw[A2 (by omega),Ad (by omega),AAO (by simp;omega),JJ,x1,AAF,Lb,x2];rfl
 |succ n ih=>
  intro fuel i k m ⟨d,j,⟨x,x1,x2,x3⟩,r⟩ ev h1 h2;obtain⟨fuel,rfl⟩:∃f,fuel=f+1:=⟨fuel-1,by omega⟩;unfold Bj.AZ Bj.L1 Bj.J1 Bj.J2;have d:=(AAI.1 x1).1;rw[A2 (by omega),Ad (by omega),AAO (by simp;omega),JJ,x1,AAF,Lb,x2,AAF,Ai (by omega)]
  have:=ih fuel (i+1) j m r ev (by omega) (by omega);rcases x3 with⟨c,e⟩|⟨c,rfl⟩
  . rw[AAO (by simp),AAP (by simpa using c),e];exact this
  . rw[AAO (by simp),AAO (by simpa using c),Ai (by omega)];exact this
structure VO (w:AD) (t:Int) (c:Al):Prop where
 r:2≤c.B5/\c.B5≤32
 n:∃out lo hi,c.Aw=out++[⟨28,0,0,0,0, -1⟩]/\SG w lo hi out 0 out.length out.length/\(∀k,lo≤k->k<hi->∃y,gt w.BL k=some y/\y.Thread=t)
 g:∀x∈c.Aw,∀y∈rg x,y<c.B5
theorem objE {w:AD} {x:Ac} (h:x.Op=28):AL w x=some true:=by simp[AL,AL.J3,AL.J5,AL.J7,AL.J8,h]
theorem T6 {w:AD} {t:Int} {c:Al} (G:c.Aw.length≤8000000) (T:VO w t c):AN w t c=some true:=by
 obtain⟨⟨r1,r2⟩,⟨out,lo,hi,D,J,W⟩,S⟩:=T;have hl:c.Aw.length=out.length+1:=by rw[D];simp
 have N:=Bn
 -- an instruction
 have q:∀(i:Nat) x,c.Aw[i]? =some x->(i<out.length/\out[i]? =some x)∨i=out.length/\x=⟨28,0,0,0,0, -1⟩:=by
  intro i x d;rw[D]at d;by_cases h:i<out.length
  . rw[Kt h]at d;exact .inl ⟨h,d⟩
  . have:=(AAI.1 d).1;simp at this;obtain rfl:i=out.length:=(by omega);rw[Rv]at d;cases d;exact .inr ⟨rfl,rfl⟩
 have p:c.Aw[out.length]? =some ⟨28,0,0,0,0, -1⟩:=by rw[D];exact Rv
 have B:∀i:Nat,i<c.Aw.length->Bj c.Aw (i:Int)=some true:=by
  intro i hi;have L:∀{n k m},Pv out 0 out.length n k m->Pv c.Aw 0 out.length n k m:=λr=>r.frame (λj _ O=>by rw[D,Kt O]) (by omega) (by omega);have K:Ev c.Aw out.length:=⟨_,p,rfl⟩;unfold Bj;by_cases h:i<out.length
  . rcases J.f i (by omega) h with⟨n,m,r,V,⟨x,X,Z⟩,hn⟩|⟨n,r,hn⟩
    . exact Q0 G (by omega) n Bg 0 i m (L r) ⟨x,by rw[D,Kt V.2];exact X,Z⟩ (by omega) (by omega)
    . exact Q0 G (by omega) n Bg 0 i _ (L r) K (by omega) (by omega)
  . obtain rfl:i=out.length:=(by omega);exact Q0 (a:=0) (b:=0) G (by omega) 0 Bg 0 _ _ rfl K (by omega) (by omega)
 have key:Cc (AN w t c) λb=>b=true:=by
  unfold AN;refine tD (λh=>by omega) λ_=>tD (λh=>by omega) λ_=> ?_;rw[show((c.Aw.length:Int)==0)=false from beq_eq_false_iff_ne.2 (by omega)];unfold AN.J1;refine tI (λh=>by cases h) λ_=>OR c.Aw.length (λ_ (_:Unit)=>True) (s0:=()) (F:=λn _ i=>AN.AZ c t w n i) (by omega) trivial λn i _ hi _ k=> ?_;unfold AN.AZ AN.L1 AN.J6;refine tD (λDf=>YX (by omega) ?_) λ_=>tR rfl;have d:c.Aw[i]? =some c.Aw[i]:=AAL (by omega);have v:c.Aw[i]∈c.Aw:=AAW (by omega);generalize c.Aw[i]=x at d v;have P:Bj c.Aw (i:Int)=some true:=B i (by omega);have Q:Aq ((c.Aw.length:Int)-1)=out.length:=by rw[CC (by omega) (by omega)];omega
  -- the registers
  have z:Cc (AN.J4 (AN.AZ c t w n) c i x false) λb=>b=true:=by
   unfold AN.J4;refine tI (λh=>by cases h) λ_=>tE (EX x).1 (OR (rg x).length (λ_ (_:Unit)=>True) (s0:=()) (F:=λn _ i=>AN.DI _ c _ (rg x) n i) (by have:=(EX x).2;omega) trivial λm j _ O _ U=> ?_);unfold AN.DI AN.L2 AN.J5;refine tD (λ_=>YX (by omega) ?_) λ_=>k () (by omega) trivial;have I:(rg x)[j]∈rg x:=AAW (by omega);have R:0≤(rg x)[j]:=by
    rcases q i x d with⟨h,E⟩|⟨_,rfl⟩
    . exact((J.i i x (by omega) h E).g _ I).1
    . have:=List.length_pos_of_mem I;rw[rg0 (.inr (.inr rfl))]at this;cases this
   exact tE (IG ⟨R,S x v _ I⟩) (tI (λh=>by cases h) λ_=>U () (by omega) trivial)
  rcases q i x d with⟨u,E⟩|⟨H,rfl⟩
  . have l:=J.i i x (by omega) u E;have lo':=l.o;have C:x.Op≠28:=(by omega);refine tD (λh=>by omega) λ_=>tD (λh=>by omega) λ_=> ?_;rw[Q,show(x.Op==28)=false from by simpa using C,show((i:Int)==(out.length:Int))=false from by simp;omega];refine tI (λh=>by cases h) λ_=>tE l.ob (tI (λh=>by cases h) λ_=>tE P ?_);unfold AN.J2;obtain⟨y,y1,y2⟩:=W _ l.s.1 l.s.2;refine tI (λh=>by cases h) λ_=>tI (λh=>absurd (eq_of_beq h) C) λ_=>tI (λ_=> ?_) λh=>(by simp at h;omega);refine tE (IG (Yx y1)) (tI (λh=>by cases h) λ_=>tE y1 ?_);rw[y2,show(t != t)=false from by simp];unfold AN.J3;refine tI (λh=>by cases h) λ_=>tI (λM=> ?_) λ_=>tI (λe=> ?_) λ_=>z
    . have:=l.j (eq_of_beq M);refine tE (IG (by omega)) (tI (λh=>by cases h) λ_=>tI (λe=> ?_) λ_=>z);rw[eq_of_beq M]at e;cases e
    . have:=l.b (eq_of_beq e);exact tE (IG (by omega)) z
  . refine tD (λh=>by simp at h) λ_=>tD (λh=>by simp at h) λ_=> ?_;rw[Q,H];simp only[AA5,Bool.not_true];refine tI (λh=>by cases h) λ_=>tE (objE rfl) (tI (λh=>by cases h) λ_=>tE (H▸P) ?_);rw[H]at z;unfold AN.J2 AN.J3;refine tI (λh=>by cases h) λ_=>tI (λ_=>tI (λh=>by cases h) λ_=>tI (λh=>by cases h) λ_=>tI (λh=>by cases h) λ_=>tI (λh=>by cases h) λ_=>tI (λh=>by cases h) λ_=>z) λh=>by cases h
 obtain⟨b,N,rfl⟩:=key;exact N
end
section
theorem ZJ {nt:Nat} {i:Int} (hi:i<nt):∀(S:List DS) (m:Int) (R:List DS),SN i m S->GY nt i m (S++R)=GY nt i (m+S.length) R:=by
 intro S;induction S with
 |nil=>intro m R _;simp
 |cons x r ih=>
  intro m R h;obtain⟨d,a⟩:=h 0 x rfl;have b:SN i (m+1) r:=λj y c=>by have:=h (j+1) y (by simpa using c);exact⟨this.1,by rw[this.2];omega⟩
  rw[AAz,GY,AAO (by omega),AAO (by omega),ih _ _ b,a];simp only[AAx];rw[show m+((0:Nat):Int)=m from by omega,show m+1+(r.length:Int)=m+((r.length+1:Nat):Int)from by omega];simp
theorem l7 {nt:Nat} {i t n:Int} (hi:i<nt) (h:t<i∨t=i/\n=0) {S:List DS} (a:SN i 0 S):∃b c,(b<i+1∨b=i+1/\c=0)/\∀R,GY nt t n (S++R)=GY nt b c R:=by
 rcases h with h|⟨rfl,rfl⟩
 . cases S with
   |nil=>exact⟨t,n,.inl (by omega),λ_=>rfl⟩
   |cons x r=>obtain⟨d,e⟩:=a 0 x rfl;have f:SN i 1 r:=λj y g=>(by have:=a (j+1) y (by simpa using g);exact⟨this.1,by rw[this.2];omega⟩);refine⟨i,1+r.length,.inl (by omega),λR=> ?_⟩;rw[AAz,GY,AAO (by omega),AAP (by omega),d,ZJ hi _ _ _ f,e];simp
 . exact⟨t,0+S.length,.inl (by omega),λR=>ZJ hi _ _ _ a⟩
def SW (p:AU) (i:Nat):Nat:=((p.AA.take i).map λt=>M8 4 t.Body).sum
theorem ZE {p:AU} {i:Nat} (h:i<p.AA.length):SW p (i+1)=SW p i+M8 4 p.AA[i].Body:=ZN h _
theorem Z6 {p:AU} (h:(p.AA.map λt=>M8 4 t.Body).sum≤60) (i:Nat):SW p i≤60:=by
 have:((p.AA.map λt=>M8 4 t.Body)).sum=SW p i+((p.AA.drop i).map λt=>M8 4 t.Body).sum:=by
  conv=>lhs;rw[← ABY i p.AA,AAv,List.sum_append]
  rfl
 omega
theorem sX {p:AU} {i j:Nat} (h:i≤j):SW p i≤SW p j:=by
 have:SW p j=SW p i+(((p.AA.take j).drop i).map λt=>M8 4 t.Body).sum:=by
  unfold SW
  conv=>lhs;rw[← ABY i (p.AA.take j),List.take_take,Nat.min_eq_left h,AAv,List.sum_append]
 omega
structure WV (p:AU) (N:Nat) (w:AD):Prop where
 c:w.Cells=Kf
 l:w.AG=Wx
 d:w.Af=[⟨cN,0⟩]
 f:w.AH=[⟨#[102]⟩]
 t:w.AA=(p.AA.take N).map (·.Name)
 n:w.BL.length=SW p N
 o:∀j k,j<N->SW p j≤k->k<SW p (j+1)->∃y,w.BL[k]? =some y/\y.Thread=(j:Int)
 s:∃t n:Int,(t<N∨t=N/\n=0)/\∀R,GY p.AA.length 0 0 (w.BL++R)=GY p.AA.length t n R
theorem w9 {p:AU} (h:MP p) (u:∃l,A4 p=some (0,l)) (E:(p.AA.map λt=>M8 4 t.Body).sum≤60):Cc (Br p) (WV p p.AA.length):=by
 obtain⟨l,u⟩:=u;have Q:=h.t;unfold Br;refine tE u (tI (λh=>by cases h) λ_=> ?_);have key:∀D T,Ed=some D->Br.AZ ⟨D,T⟩ Bg (AD.mk [] [] [] [] [] []) 0=Br.J4 ⟨D,T⟩ ⟨Kf,Wx,[⟨cN,0⟩],[⟨#[102]⟩],[],[]⟩:=by
  intro D T y;unfold Ed at y;obtain rfl:=AAJ y
  kernel_rfl
 rw[show Br.AZ p Bg (AD.mk [] [] [] [] [] []) 0=_ from key p.Decls p.AA h.d];unfold Br.J4;show Cc (Br.GL p Bg ⟨Kf,Wx,[⟨cN,0⟩],[⟨#[102]⟩],[],[]⟩ 0) _;refine OR p.AA.length (λi w=>WV p i w) (F:=λn s i=>Br.GL _ n s i) (by omega) ⟨rfl,rfl,rfl,rfl,rfl,rfl,λj k h=>by omega,0,0,.inr ⟨rfl,rfl⟩,λ_=>rfl⟩ λn i w hi a k=> ?_;unfold Br.GL Br.L3 Br.J5;refine tD (λg=>YX (by omega) ?_) λO=>tR ?_
 . have g:i<p.AA.length:=(by omega);have G:=ZE g;have H:=Z6 E (i+1);have hn:=a.n;refine tC (B9 (by rw[a.t];simp;omega)) (tB (sites_ok 4 _ _ _ _ _ (Lg (by omega)) (by omega) (by omega) (h.b _ (AAW g))) λv I=>k _ (by omega) ?_);obtain⟨S,x,V,B,W⟩:=I;obtain⟨t,m,L,M⟩:=a.s;obtain⟨K,J,U,N⟩:=l7 (nt:=p.AA.length) (i:=i) (by omega) L B;refine⟨a.c,a.l,a.d,a.f,?_,?_,?_,K,J,by omega,λR=> ?_⟩
   . simp only;rw[a.t,← AAX g,AAv];rfl
   . simp only;rw[x,AAu];omega
   . intro j q P r C;simp only;rw[x];by_cases e:j<i
     . have:=sX (p:=p) (show j+1≤i by omega);rw[AAf (by omega)];exact a.o j q e r C
     . obtain rfl:j=i:=(by omega);rw[AAl (by omega)];have z:q-w.BL.length<S.length:=(by omega);exact⟨S[q-w.BL.length],AAL z,(B _ _ (AAL z)).1⟩
   . simp only;rw[x,AA0,M,N]
 . have:i=p.AA.length:=(by omega);rw[this]at a;exact a
theorem WV.names {p:AU} {w:AD} (a:WV p p.AA.length w):w.AA=p.AA.map (·.Name):=by rw[a.t,List.take_length]
theorem uK {p:AU} {w:AD} (h:MP p) (o:(p.AA.map λt=>M8 4 t.Body).sum≤60) (a:WV p p.AA.length w):Ct w=true:=by
 obtain⟨n,z,B,nm⟩:=h.nm;have e:=a.names;rw[nm]at e;obtain⟨t,m,C,y⟩:=a.s;have b:=y [];rw[ABV]at b;have x:p.AA.length=w.AA.length:=by rw[a.names,AAn]
 rw[x]at b;have hn:=a.n;have q:=Z6 o p.AA.length;have g:=a.c;have i:=a.l;have j:=a.d;have k:=a.f;obtain⟨c,l,d,f,T,S⟩:=w;simp only at g i j k e hn b;subst g i j k;have v:AW Kf=some ([⟨#[120]⟩,⟨#[121]⟩,⟨#[118]⟩,qS],true):=by decide +kernel
 have r:GY T.length 0 0 S=true:=b;have u:T=La.take 1∨T=La.take 2∨T=La.take 3∨T=La.take 4:=by
  have:n=1∨n=2∨n=3∨n=4:=by omega
  rcases this with rfl|rfl|rfl|rfl<;>simp[e]
 unfold Ct;simp only[v,r];have hd:decide (S.length≤60)=true:=decide_eq_true (by omega);rw[hd];rcases u with rfl|rfl|rfl|rfl<;>(show @Eq Bool _ true;kernel_rfl)
theorem kD {p:AU} (h:MP p) (O:∃l,A4 p=some (0,l)):Cc (As p) λr=>CK r.1/\BV r.1=some true:=by
 obtain⟨q,hq,T⟩:=check60 h;have S:(p.AA.map λt=>M8 4 t.Body).sum≤60:=by obtain⟨l,O⟩:=O;rw[O]at hq;cases hq;exact T rfl
 have ht:=h.t
 let Q:BB->Prop:=λc=>WV p p.AA.length c.World/\c.AA.length=p.AA.length/\∀(j:Nat) t,c.AA[j]? =some t->VO c.World j t
 have par:Hi (As p) λr=>Q r.1:=by
  obtain⟨l,Z⟩:=O;unfold As;refine pE Z (pI (λh=>by cases h) λ_=>pB (pA (pT (Yc h ⟨l,Z⟩)) (pT (w9 h ⟨l,Z⟩ S))) λw B=> ?_);obtain⟨mw,B⟩:=B;have wf:WF (λs=>s∈p.AA.map (·.Name)) w:=⟨B.c,B.l,B.d,B.f,λs W=>by rw[B.names];exact W,by rw[B.names,AAn];exact ht⟩;refine wA p.AA.length (λi (s:BB×Int)=>s.1.World=w/\s.1.AA.length=i/\s.2=SW p i/\∀(j:Nat) t,s.1.AA[j]? =some t->VO w j t) (F:=λn s i=>As.AZ p n s.1 s.2 i) (s0:=(_,_)) (λ_ _=>rfl) (by omega) ⟨rfl,rfl,rfl,by simp⟩ λn i s hi W k=> ?_;obtain⟨G,s2,s3,s4⟩:=W;unfold As.AZ As.L1 As.J4;refine pD (λH=>pE (B8 (by omega)) ?_) λbB=>pR ⟨by simp only;rw[G];exact B,by simp only;omega,by simp only;rw[G];exact s4⟩;have H:i<p.AA.length:=by omega
  have L:p.AA[i]∈p.AA:=AAW H;have ho1:=ZE H;have ho2:=Z6 S (i+1);have hc:cg 4=336840:=rfl;have g0:GB (A8.mk s.1.World p.AA[i].Fh [] 0 s.2) 4000000:=⟨by rw[G];exact mw,h.l _ L,by simp⟩;refine pB (pA (pT (WS 4 _ _ _ (Lg (by omega)) (g0.less (by omega)) (h.b _ L))) (uA 4 _ _ (Lg (by omega)) (h.b _ L) ⟨s.1.World,p.AA[i].Fh,[],0,s.2⟩ ⟨by rw[G];exact wf,h.lo _ L⟩ (by simp only;omega))) λv hv=>pB (put_eq _) λu hu=> ?_;obtain⟨v0,v1,v2⟩:=hv;have v0:=v0.b;simp only[ABA]at v0;have V:(u.locals.length:Int)=2:=by rw[hu];simp only;rw[v1.l];simp only;rw[h.lo _ L];rfl
  have R:u.out=v.out++[⟨28,0,0,0,0, -1⟩]:=by rw[hu]
  have sg:=v1.s;simp only[ABA,G,s3]at sg;have v2':v.next=SW p (i+1):=by rw[v2];simp only;omega
  have rb:∀y∈u.out,∀r∈rg y,0≤r/\r<32:=by
   intro y x r e;rw[R]at x;rcases AAa.1 x with x|x
   . obtain⟨m,m1,m2⟩:=List.getElem_of_mem x;exact(sg.i m y (by omega) m1 (by rw[AAL m1,m2])).g r e
   . rw[AAh.1 x,rg0 (.inr (.inr rfl))]at e;cases e
  rw[V];have rR:u.out.length<1000000000000:=by rw[R];simp;omega
  refine wA u.out.length (λk (t:Al)=>t.Aw=u.out/\(2≤t.B5/\t.B5≤32)/\∀y∈u.out.take k,∀r∈rg y,r<t.B5) (F:=λn t k=>As.DI _ _ _ _ _ n t k) (λ_ _=>rfl) rR ⟨rfl,by simp,by simp⟩ λm q t hq2 oC k2=> ?_;obtain⟨t1,t2,t3⟩:=oC;unfold As.DI As.L2 As.J2 As.J3;refine pD (λhlt2=>pE (B8 (by omega)) ?_) λhge2=>pC λ_=>k (_,_) (by omega) ⟨G,by simp;omega,v2',?_⟩
  . have x:u.out[q]∈u.out:=AAW (by omega);have ry:=rb _ x;have K:q<u.out.length:=(by omega);have tk:=AAX K;generalize u.out[q]=y at x ry tk;refine pE (EX y).1 (wA (rg y).length (λl (t:Al)=>t.Aw=u.out/\(2≤t.B5/\t.B5≤32)/\(∀y∈u.out.take q,∀r∈rg y,r<t.B5)/\∀r∈(rg y).take l,r<t.B5) (F:=λn t k=>As.GL _ _ _ n t k) (λ_ _=>rfl) (by have:=(EX y).2;omega) ⟨t1,t2,t3,by simp⟩ λm3 M D hq3 X k3=> ?_);obtain⟨x1,x2,x3,x4⟩:=X;unfold As.GL As.L3 As.J1;refine pD (λhlt3=>pE (B8 (by omega)) ?_) λhge3=>k2 _ K ⟨x1,x2,λz C r e=> ?_⟩
    . have e:(rg y)[M]'(by omega)∈rg y:=AAW (by omega);have U:=ry _ e;have N:=AAX (show M<(rg y).length by omega);generalize (rg y)[M]'(by omega)=r at e U N;rw[CC (by omega) (by omega)];have J:∀z,(if r+1>D.B5 then r+1 else D.B5)=z->D.B5≤z/\r<z/\z≤32:=by intro z C;split at C<;>omega
      generalize C:(if r+1>D.B5 then r+1 else D.B5)=z
      obtain⟨z1,z2,z3⟩:=J z C;refine k3 _ (by omega) ⟨x1,by simp only;omega,λy x r e=>by have:=x3 y x r e;simp only;omega,?_⟩;rw[← N];intro a I;rcases AAa.1 I with I|I
      . have:=x4 a I;simp only;omega
      . rw[AAh.1 I];exact z2
    . rw[← tk]at C;rcases AAa.1 C with C|C
      . exact x3 z C r e
      . rw[AAh.1 C]at e;rw[AAs (by omega)]at x4;exact x4 r e
  . intro j D E;simp only at E;by_cases hj:j<s.1.AA.length
    . rw[AAf hj]at E;exact s4 j D E
    . have:=(AAI.1 E).1;simp at this;obtain rfl:j=s.1.AA.length:=(by omega);rw[show(s.1.AA++[t])[s.1.AA.length]? =some t from by simp]at E;obtain rfl:=AAJ E;rw[s2];rw[AAs (by omega)]at t3;refine⟨t2,⟨v.out,_,_,by rw[t1,R],sg,λk k1 k2=> ?_⟩,by rw[t1];exact t3⟩;obtain⟨k,rfl⟩:∃m:Nat,k=m:=⟨k.toNat,by omega⟩;rw[JJ];exact B.o i k H (by omega) (by omega)
 obtain⟨r,e,P⟩:=cY h;refine⟨r,e,P,?_⟩;obtain⟨q1,q2,M⟩:=par r e;have hl:r.1.AA.length=r.1.World.AA.length:=by rw[q2,q1.names,AAn]
 have hn:=P.n;have key:Cc (BV r.1) λb=>b=true:=by unfold BV;refine tE (LP _) ?_;rw[uK h S q1];refine tI (λh=>by cases h) λ_=> ?_;rw[hl,show((r.1.World.AA.length:Int) != r.1.World.AA.length)=false from by simp];unfold BV.J1;refine tI (λh=>by cases h) λ_=>OR r.1.AA.length (λ_ (_:Unit)=>True) (s0:=()) (F:=λn _ i=>BV.AZ r.1 n i) (by omega) trivial λn i _ hi _ k=> ?_;unfold BV.AZ BV.L1 BV.J2;refine tD (λH=>YX (by omega) ?_) λ_=>tR rfl;refine tE (T6 (P.i _ (AAW (by omega))) (M i _ (AAL (by omega)))) (tI (λh=>by cases h) λ_=>k () (by omega) trivial)
 obtain⟨b,U,rfl⟩:=key;exact U
end
theorem vY {l:List Int} (d:l.length≤4000000000000000000) (e:∀x∈l,0≤x/\x<256):Cc (Kd l) λc=>CK c/\BV c=some true:=by unfold Kd;exact tB (bT d e) λp a=>tB (kD a.1 a.2) λc b=>tR b
theorem wY {p s:List Int} (g:p.length≤4000000000000000000) (j:∀x∈p,0≤x/\x<256) (i:s.length≤1000):Cc (HQ p s) λt=>TA s.length t/\Ct t.World=true:=by unfold HQ;refine tB (vY g j) λc b=>tB (Xw i) λl o=>tB (tP (Run_ok b.1 (by omega)) (Q:=λr=>Ct r.1.World=true) ?_) λr a=>tR ⟨⟨⟨by have:=a.1.m.n;omega,a.1.m.e,a.1.m.w⟩,a.1.c⟩,a.2⟩;obtain⟨v,d,f⟩:=N8 b.1;rw[b.2]at d;have k:=f (AAJ d).symm;unfold Ii;exact pE b.2 (pI (λh=>by cases h) λ_=>pB' λ_=>pB' λ_=>pR k.w)
theorem wF {n:Nat} {t:BN} (a:TA n t) (hn:n≤400) (b:Ct t.World=true):Iy t=(0,0):=by have:=a.m.n;unfold Iy;rw[AAO (by omega),AAP b,a.c]
theorem TA.at {n:Nat} {t:BN} (h:TA n t) (b:Ct t.World=true) (hn:n≤400):AT t:=
 AT.of (λe a=>(h.m.e e a).ok) (by rw[wF h hn b])
theorem made_at {p s:List Int} (d:p.length≤200) (c:∀x∈p,0≤x/\x<256) (b:s.length≤400):Cc (HQ p s) λt=>AT t:=
 tM (wY (by omega) c (by omega)) λt a=>a.1.at a.2 b
theorem tZ {t:BN} (h:AT t) {k:Nat} (a:0<k) (b:k≤16):aO t (k:Int)=(KC t k t.AE.length,0):=by unfold aO;rw[h.check,AAO (by simp),AAO (by omega),AA4]
theorem winN_bd {k:Nat} (a:0<k) (i:Nat):i≤Md k i*k/\Md k i*k<i+k:=by have b:=ABL (i+k-1) k;have c:=Nat.mod_lt (i+k-1) a;unfold Md;rw[AA8];omega
theorem mK {t:BN} {k i j:Nat} (h:j<Md k i):gt (KC t k i) (j:Int)=some (fT t k (j*k)):=by rw[B8 (by rw[Ky];exact h)];simp[KC]
theorem pS {a b:Type} {o:ABh a} {f:a->ABh b} {R:b->Prop} (k:∀x,o=some x->Hi (f x) R):Hi (o.bind f) R:=pB (Q:=λx=>o=some x) (λ_ e=>e) k
theorem zN {a:Type} {l:List a} {i:Int} {x:a} (h:gt l i=some x):(0≤i/\i<l.length)/\l[i.toNat]? =some x:=by
 unfold gt at h;split at h
 . have:=(AAI.1 h).1;exact⟨by omega,h⟩
 . cases h
def vZ (l:List Ac):Nat->Int->Prop
 |0,_=>False
 |n+1,a=>∃x,gt l a=some x/\(T4 x.Op=false∨T4 x.Op=true/\vZ l n (if x.Op=5 then x.A else Aq (a+1)))
theorem pF {P:Prop}:Hi (some false) λb:Bool=>b=true->P:=pR λh=>by cases h
theorem lands_par {l:List Ac} (q:l.length≤8000000) (a:Int):Hi (Bj l a) λb=>b=true->vZ l (l.length+1) a:=by
 have key:∀(n i:Nat) (a:Int),i≤l.length+1->Hi (Bj.AZ l n a i) λb=>b=true->vZ l (l.length+1-i) a:=by
  intro n;induction n with
  |zero=>intro i a _;exact pN
  |succ n ih=>
   intro i a hi;unfold Bj.AZ Bj.L1 Bj.J1 Bj.J2 Bj.J3;refine pD (λm=>pD (λ_=>pI (λ_=>pF) λh=>by cases h) λo=>pI (λ_=>pF) λp=>pS λx f=>pE (Lb _) (pI (λh=>pR λ_=> ?_) λh=> ?_)) λ_=>pF
   . rw[show l.length+1-i=(l.length-i)+1 from by omega];exact⟨x,f,.inl (by simpa using h)⟩
   . have k:∀c,c=(if x.Op=5 then x.A else Aq (a+1))->Hi (Bj.AZ l n c (Aq (i+1))) λb=>b=true->vZ l (l.length+1-i) a:=by intro c e;rw[Ai (by omega)];refine pM (ih (i+1) c (by omega)) λb j g=> ?_;rw[show l.length+1-i=(l.length+1-(i+1))+1 from by omega];exact⟨x,f,.inr ⟨by simpa using h,by rw[← e];exact j g⟩⟩
     exact pI (λd=>k _ (by rw[AAP (eq_of_beq d)])) λd=>k _ (by rw[AAO (by simpa using d)])
 exact key Bg 0 a (by omega)
def OpN (x:Ac):Prop:=(x.Op=3->x.N=4∨x.N=5)/\(x.Op=4->6≤x.N/\x.N≤18)
theorem objects_par (w:AD) (i:Ac):Hi (AL w i) λb=>b=true->OpN i:=by
 by_cases c:i.Op=3
 . intro r a d;unfold AL AL.J1 AL.J3 AL.J5 AL.J7 AL.J8 AL.J9 at a;simp[c]at a;subst d;refine⟨λ_=> ?_,λh=>by omega⟩;split at a
   . exact .inl ‹_›
   . exact .inr (by simpa using a)
 . by_cases e:i.Op=4
   . intro r a d;unfold AL AL.J1 AL.J3 AL.J5 AL.J7 AL.J8 AL.RX at a;simp[e]at a;subst d;refine⟨λh=>absurd h c,λ_=> ?_⟩;split at a
     . exact⟨‹_›,by simpa using a⟩
     . cases a
   . exactλ_ _ _=>⟨λh=>absurd h c,λh=>absurd h e⟩
def VSi (c:Al) (k:Nat) (x:Ac):Prop:=vZ c.Aw (c.Aw.length+1) (k:Int)/\(x.Op=28↔k+1=c.Aw.length)/\(x.Op=10->0≤x.B/\x.B<c.Aw.length)/\OpN x
def VS (c:Al):Prop:=∀(k:Nat) x,c.Aw[k]? =some x->VSi c k x
theorem vX (w:AD) (t:Int) {c:Al} (H:c.Aw.length≤8000000):Hi (AN w t c) λb=>b=true->VS c:=by
 have j1:∀b,Hi (AN.J1 c t w b) λb=>b=true->VS c:=by
  intro b;unfold AN.J1;refine pI (λ_=>pF) λM=>wA c.Aw.length (λi (_:Unit)=>∀(k:Nat) x,k<i->c.Aw[k]? =some x->VSi c k x) (s0:=()) (F:=λn _ i=>AN.AZ c t w n i) (λ_ _=>rfl) (by omega) (λk x h=>by omega) λn i _ hi o k=> ?_;unfold AN.AZ AN.L1 AN.J6;refine pD (λp=>pE (B8 (by omega)) ?_) λL=>pR λ_ k x g=>o k x (by have:=(AAI.1 g).1;omega) g;have p:i<c.Aw.length:=by omega
  have g:c.Aw[i]? =some c.Aw[i]:=AAL p;generalize c.Aw[i]=x at g;have K:VSi c i x->Hi (AN.AZ c t w n (Aq (i+1))) λb=>b=true->VS c:=λd=>k () p λm y O r=>by
   by_cases e:m<i
   . exact o m y e r
   . obtain rfl:m=i:=(by omega);rw[g]at r;obtain rfl:=AAJ r;exact d
  have u:∀b,(b=false->VSi c i x)->Hi (AN.J4 (AN.AZ c t w n) c i x b) λb=>b=true->VS c:=by intro b d;unfold AN.J4;refine pI (λ_=>pF) λf=>pE (EX x).1 (wA (rg x).length (λ_ (_:Unit)=>True) (s0:=()) (F:=λn _ j=>AN.DI _ c _ (rg x) n j) (λ_ _=>rfl) (by have:=(EX x).2;omega) trivial λm j _ N _ J=> ?_);unfold AN.DI AN.L2 AN.J5;exact pD (λ_=>pS λ_ _=>pS λ_ _=>pI (λ_=>pF) λ_=>J () (by omega) trivial) λ_=>K (d f)
  have I:∀b,(b=false->vZ c.Aw (c.Aw.length+1) (i:Int)/\(x.Op=28↔i+1=c.Aw.length)/\OpN x)->Hi (AN.J3 (AN.AZ c t w n) c i x b) λb=>b=true->VS c:=by intro b q;unfold AN.J3;refine pI (λ_=>pF) λf=> ?_;obtain⟨C,D,E⟩:=q f;have wC:∀v,(v=true->0≤x.B/\x.B<c.Aw.length)->Hi (AN.J4 (AN.AZ c t w n) c i x (!v)) λb=>b=true->VS c:=λv d=>u _ λh=>⟨C,D,λ_=>d (by simpa using h),E⟩;have l:(x.Op==10)=false->Hi (AN.J4 (AN.AZ c t w n) c i x false) λb=>b=true->VS c:=λhn=>u _ λ_=>⟨C,D,λh=>absurd h (by simpa using hn),E⟩;exact pI (λ_=>pS λ_ _=>pI (λ_=>u _ λh=>by cases h) λ_=>pI (λ_=>pB (pT (LF _ _)) wC) l) λ_=>pI (λ_=>pB (pT (LF _ _)) wC) l
  have z:∀b,(b=false->vZ c.Aw (c.Aw.length+1) (i:Int)/\(x.Op=28↔i+1=c.Aw.length)/\OpN x)->Hi (AN.J2 (AN.AZ c t w n) c i t w x b) λb=>b=true->VS c:=by
   intro b q;unfold AN.J2;refine pI (λ_=>pF) λf=> ?_
   repeat' first|exact I _ λ_=>q f|refine pS λ_ _=> ?_|refine pI (λ_=> ?_) λ_=> ?_
  have T:Hi (AN.J2 (AN.AZ c t w n) c i t w x true) λb=>b=true->VS c:=z _ λh=>by cases h
  refine pD (λ_=>T) λ_=>pD (λ_=>T) λ_=>pI (λ_=>T) λa=>pB (objects_par _ _) λv d=>pI (λ_=>T) λG=>pB (lands_par H _) λs o=>z _ λh=>⟨o (by simpa using h),?_,d (by simpa using G)⟩;rw[CC (by omega) (by omega)]at a;simp only[Bool.not_eq_false',AAV]at a;have:(x.Op==28)=true↔((i:Int)==(c.Aw.length:Int)-1)=true:=by rw[a]
  simp only[AAV]at this;rw[this];omega
 unfold AN;exact pD (λ_=>j1 _) λ_=>pD (λ_=>j1 _) λ_=>j1 _
theorem Valid_par {c:BB} (a:CK c):Hi (BV c) λb=>b=true->∀t∈c.AA,VS t:=by
 have hn:=a.n;have j1:∀b,Hi (BV.J1 c b) λb=>b=true->∀t∈c.AA,VS t:=by intro b;unfold BV.J1;refine pI (λ_=>pF) λg=>wA c.AA.length (λi (_:Unit)=>∀x∈c.AA.take i,VS x) (s0:=()) (F:=λn _ i=>BV.AZ c n i) (λ_ _=>rfl) (by omega) (by simp) λn i _ hi d k=> ?_;unfold BV.AZ BV.L1 BV.J2;exact pD (λf=>pE (B8 (by omega)) (pB (vX _ _ (a.i _ (AAW (by omega)))) λv e=>pI (λ_=>pF) λh=>k () (by omega) (take_one (by omega) d (e (by simpa using h))))) λ_=>pR λ_=>Ue (by omega) d
 unfold BV;exact pS λ_ _=>pI (λ_=>j1 _) λ_=>j1 _
theorem Sc {n:Int} (h:1≤n/\n≤100):DH n=some n:=by unfold DH DH.J1;rw[AAO (by simp;omega),AAO (by simp;omega)]
theorem pP {n:Int} (h:n=4∨n=5) (a:Int):Hi (Ht n a) λr=>r.2=true:=by unfold Ht;refine pI (λ_=>pR rfl) λb=>pI (λ_=>pS λ_ _=>pR rfl) λc=> ?_;simp at b c;omega
theorem gU {n:Int} (h:6≤n/\n≤18) (a b:Int):Hi (Dp n a b) λr=>r.2=true:=by
 unfold Dp Dp.J1 Dp.J2
 repeat' first|exact pR rfl|refine pS λ_ _=> ?_|refine pC λ_=> ?_|refine pI (λ_=> ?_) λ_=> ?_
 simp at *;omega
theorem step_par {i:Ac} {s:AM} (l:∀y∈rg i,0≤y/\y<s.B5.length) (m:T4 i.Op=true) (hn:OpN i):Hi (CX i s) λr=>(r.2=true/\r.1.AE=s.AE)/\r.1.PC=(if i.Op=5 then i.A else Aq (s.PC+1))/\r.1.B5.length=s.B5.length/\r.1.CA.length=s.CA.length:=by
 have b:∀v ok t,ok=true->i.Op≠5->Hi (CX.J3 i s v ok t) λr=>(r.2=true/\r.1.AE=s.AE)/\r.1.PC=(if i.Op=5 then i.A else Aq (s.PC+1))/\r.1.B5.length=s.B5.length/\r.1.CA.length=s.CA.length:=by intro v ok t h g;unfold CX.J3;exact pC λ_=>pS λ_ _=>pS λ_ _=>pR ⟨⟨h,rfl⟩,by rw[AAO g],by simp,by simp⟩
 unfold CX;refine pE (EX i).1 (wA (rg i).length (λ_ (_:Unit)=>True) (s0:=()) (F:=λn _ j=>CX.AZ i s (rg i) n j) (λ_ _=>rfl) (by have:=(EX i).2;omega) trivial λn j _ z _ k=> ?_);unfold CX.AZ CX.L1 CX.J1;refine pD (λu=>pE (B8 (by omega)) ?_) λ_=> ?_
 . have:=l _ (AAW (show j<(rg i).length by omega));exact pD (λh=>by omega) λ_=>pI (λh=>by simp at h;omega) λ_=>k () (by omega) trivial
 . unfold CX.J2;refine pI (λh=>pR ⟨⟨rfl,rfl⟩,by rw[AAP (eq_of_beq h)],rfl,rfl⟩) λa=> ?_;have a:i.Op≠5:=(by simpa using a);refine pI (λw=>b _ _ _ rfl a) λo=>pI (λx=>pS λ_ _=>pS λ_ _=>b _ _ _ rfl a) λp=>pI (λd=> ?_) λq=> ?_
   . have h:=hn.1 (eq_of_beq d);exact pE (Sc (by omega)) (pS λ_ _=>pB (pP h _) λf c=>pS λ_ _=>b _ _ _ c a)
   . have e:i.Op=4:=(by simp[T4]at m o p q;omega);have h:=hn.2 e;exact pE (Sc (by omega)) (pS λ_ _=>pS λ_ _=>pB (gU h _ _) λf c=>pS λ_ _=>pS λ_ _=>pS λ_ _=>b _ _ _ c a)
theorem o8 {s:AM} (b:s.CA.length≤100):Hi (DG s) λr=>r=s:=by unfold DG;refine pC λ_=>wA s.CA.length (λi o=>o=⟨s.PC,s.B5,s.CA.take i,s.AE⟩) (F:=λn o i=>DG.AZ s n o i) (λ_ _=>rfl) (by omega) rfl λn i o hi a k=> ?_;subst a;unfold DG.AZ DG.L1 DG.J1;exact pD (λ_=>pE (B8 (by omega)) (pC λ_=>pC λ_=>k _ (by omega) (by rw[AAX]))) λ_=>pR (by rw[AAs (by omega)])
theorem iH {c:Al} {s:AM} (G:VS c) (K:c.Aw.length≤8000000) (z:∀x∈c.Aw,∀y∈rg x,0≤y/\y<c.B5) (u:c.B5≤32) (E:(s.B5.length:Int)=c.B5) (M:(s.CA.length:Int)=c.B5) (B:vZ c.Aw (c.Aw.length+1) s.PC):Hi (B3 c s) λr=>r.1.AE=s.AE:=by
 unfold B3;refine pI (λh=>by simp at h;omega) λ_=> ?_;unfold B3.J1;refine pI (λh=>by simp at h;omega) λ_=>pB (o8 (by omega)) λI o=> ?_;subst o;refine wA (c.Aw.length+1) (λi t=>(t.AE=I.AE/\(t.B5.length:Int)=c.B5)/\vZ c.Aw (c.Aw.length+1-i) t.PC) (F:=λn s j=>B3.AZ c n s j) (λ_ _=>rfl) (by omega) ⟨⟨rfl,E⟩,B⟩ λn i t hi w k=> ?_;obtain⟨⟨l,m⟩,e⟩:=w;unfold B3.AZ B3.L1 B3.J2 B3.J3;refine pD (λC=> ?_) λJ=> ?_
 . rw[show c.Aw.length+1-i=(c.Aw.length-i)+1 from by omega]at e;obtain⟨x,f,b⟩:=e;have L:=(zN f).1;have g:=(zN f).2;refine pD (λh=>by omega) λ_=>pI (λh=>by simp at h;omega) λ_=>pE f (pE (Lb _) (pI (λ_=>pR l) λa=> ?_));have a:T4 x.Op=true:=(by simpa using a);have b:=(b.resolve_left (by rw[a];simp)).2;refine pI (λh=> ?_) λp=> ?_
   . have:i=c.Aw.length:=(by simp at h;omega);rw[show c.Aw.length-i=0 from by omega]at b;exact b.elim
   . have D:=AAS g;have q:=G _ x g;refine pB (step_par (λy H=>by rw[m];exact z x D y H) a q.2.2.2) λv d=>pI (λh=>by rw[d.1.1]at h;cases h) λ_=>k _ (by simp at p;omega) ⟨⟨d.1.2.trans l,by rw[d.2.2.1];exact m⟩,?_⟩;rw[d.2.1,show c.Aw.length+1-(i+1)=c.Aw.length-i from by omega];exact b
 . rw[show c.Aw.length+1-i=0 from by omega]at e;exact e.elim
theorem pF3 {x y} {P:Ae×AK×Bool->Prop}:Hi (some (x,y,false)) λr:Ae×AK×Bool=>r.2.2=true->P r:=pR λh=>by cases h
theorem wW {E:Nat} {c:BB} (hc:CK c) (hV:∀t∈c.AA,VS t) {s:Ae} (J:SI E s) (hE:E≤10000) {Z:List AK} {S:AB} (hl:LK c Z S s) (a:BJ):
 Hi (Ay c s a) λr=>r.2.2=true->∃x K,s.AA[a.Thread.toNat]? =some x/\r.1.AA[a.Thread.toNat]? =some K/\K.AE=x.AE+1:=by
 obtain⟨hr,J⟩:=J;unfold Ay;refine pB (pT (RU hc J (by omega) a.Thread)) λv U=>pI (λ_=>pF3) λh=> ?_;have U:=U (by simpa using h);obtain⟨o,T,_,hh,hi⟩:=U;have L:=DB o.v.w;have w1:=L.c;have w2:=L.f;have w3:=L.t;have c1:=o.c';have c2:=o.u;have c3:=o.n;have c4:=o.v.n;refine pS λap _=>pI (λ_=>pF3) λh2=>pE (bP J (by omega) (T9.of L o.f (hr.mono (by omega))) (by omega) (by omega) (by omega)) ?_;obtain⟨x,x1,M,x3⟩:=F8 (l:=s.AA) (i:=a.Thread) (by omega);obtain⟨y,y1,y2,y3⟩:=F8 (l:=c.AA) (i:=a.Thread) (by omega);obtain⟨p1,p2,p3⟩:=o.t _ x y M y2;obtain⟨z,z1,z2,z3⟩:=F8 (l:=y.Aw) (i:=x.PC) (by omega);obtain⟨q,q1,q2,q3⟩:=F8 (l:=s.Sync.AA) (i:=a.Thread) (by have:=(Em o.f).2.2;omega);have I:=hi x y z q M y2 z2 q2;have V:=J x x3;have d:=hV y y3;have H:=o.v.t _ y y2;have R:=hc.i y y3;have he:=V.e;have W:∀n:Int,0≤n->n<y.Aw.length->vZ y.Aw (y.Aw.length+1) n:=λn n0 D=>by obtain⟨m,rfl⟩:∃m:Nat,n=m:=⟨n.toNat,by omega⟩;exact(d m _ (AAL (by omega))).1
 have X:v.1.Kind≠1->v.1.Kind≠2->vZ y.Aw (y.Aw.length+1) (Aq (x.PC+1)):=λk1 k2=>by
  have P:z.Op≠28:=by
   rcases I.s with⟨k,_⟩|⟨⟨q4,_⟩|⟨_,k,_⟩,_⟩
   . exact absurd k k1
   . obtain⟨z',b1,b2⟩:=hl.w _ x y q M y2 q2 (.inr q4);rw[z1]at b1;obtain rfl:=AAJ b1;omega
   . exactλh=>k2 (k.2 h)
  have:=(d _ z z2).2.1;have:x.PC.toNat+1≠y.Aw.length:=λh=>P (this.2 h);rw[CC (by omega) (by omega)];exact W _ (by omega) (by omega)
 refine pE x1 (pE y1 (pE z1 ?_))
 let G:Ae×AK×Bool->Prop:=λr=>r.2.2=true->∃x K,s.AA[a.Thread.toNat]? =some x/\r.1.AA[a.Thread.toNat]? =some K/\K.AE=x.AE+1
 have j6:∀e C F t,t.AE=x.AE+1->Hi (Ay.J6 a e C F ap s t) G:=by intro e C F t B;unfold Ay.J6;exact pS λ_ _=>pR λ_=>⟨x,t,M,by simp only;rw[AAK (by omega)],B⟩
 have j5:∀e n C F t b,(t.AE=x.AE/\(t.B5.length:Int)=y.B5/\(t.CA.length:Int)=y.B5)->(b=true->vZ y.Aw (y.Aw.length+1) n)->Hi (Ay.J5 c a e n C F t ap s b) G:=by
  intro e n C F t b B Q;unfold Ay.J5;have e1:Aq (t.AE+1)=x.AE+1:=by rw[B.1];exact CC (by omega) (by omega)
  refine pI (λh=>pE y1 (pB (iH d R (λx V=>(H.i x V).g) H.r.2 B.2.1 B.2.2 (Q h)) λu hu=>j6 _ _ _ _ (hu.trans e1))) λ_=>j6 _ _ _ _ e1
 have j3:∀e n C F b,(e.Kind≠16->e.Kind≠2->vZ y.Aw (y.Aw.length+1) n)->Hi (Ay.J3 c a e n C F ap s x z b) G:=by
  intro e n C F b hn;unfold Ay.J3 Ay.J4;have k:∀t,(t.AE=x.AE/\(t.B5.length:Int)=y.B5/\(t.CA.length:Int)=y.B5)->Hi (if(e.Kind != 16)=true then Ay.J5 c a e n C F t ap s (e.Kind != 2)else Ay.J5 c a e n C F t ap s false) G:=λt T=>pI (λO=>j5 _ _ _ _ _ _ T λh2=>hn (by simpa using O) (by simpa using h2)) λ_=>j5 _ _ _ _ _ _ T λh=>by cases h
  exact pI (λ_=>pS λ_ _=>pS λ_ _=>k _ ⟨rfl,by simpa using p2,by simpa using p3⟩) λ_=>k _ ⟨rfl,p2,p3⟩
 have p:∀C F e n,(e.Kind≠16->e.Kind≠2->vZ y.Aw (y.Aw.length+1) n)->Hi (Ay.J2 c a ap s x z C F e n) G:=by intro C F e n hn;unfold Ay.J2;exact pI (λ_=>j3 _ _ _ _ _ hn) λ_=>j3 _ _ _ _ _ hn
 have j1:∀b,(b=false->v.1.Kind≠1)->Hi (Ay.J1 c a v ap s x z b) G:=by
  intro b Q;unfold Ay.J1;refine pI (λ_=>p _ _ _ _ λ_ _=>W _ p1.1 p1.2) λh0=> ?_;have D:=X (Q h0);refine pI (λ_=>pS λ_ _=>p _ _ _ _ λ_ k=>D k) λ_=>pI (λ_=>pS λ_ _=>p _ _ _ _ λ_ k=>D k) λ_=>pI (λ_=>pS λ_ _=>pS λ_ _=>p _ _ _ _ λ_ k=>D k) λ_=>pI (λ_=>pS λ_ _=>pS λ_ _=>p _ _ _ _ λ_ k=>D k) λ_=>pI (λh5=>pS λ_ _=>pI (λ_=>p _ _ _ _ λ_ _=> ?_) λ_=>p _ _ _ _ λ_ k=>D k) λ_=>p _ _ _ _ λ_ k=>D k
  have:=(d _ z z2).2.2.1 (I.j (eq_of_beq h5));exact W _ this.1 this.2
 exact pI (λh=>j1 _ λN=>by rw[N]at h;cases h) λB=>pI (λh=>j1 _ λN=>by rw[N]at h;cases h) λ_=>j1 _ λ_=>by simpa using B
theorem Step_kind {c:BB} {s:Ae} (a:BJ) {v:AK×Bool} (d:CZ c s a.Thread=some v):Hi (Ay c s a) λr=>r.2.2=true->r.2.1.Kind=v.1.Kind/\r.2.1.Obj=v.1.Obj:=by
 let G:Ae×AK×Bool->Prop:=λr=>r.2.2=true->r.2.1.Kind=v.1.Kind/\r.2.1.Obj=v.1.Obj
 have g:∀(e:AK) C F ap b t,e.Kind=v.1.Kind/\e.Obj=v.1.Obj->Hi (Ay.J6 a e C F ap b t) G:=by intro e C F ap b t h;unfold Ay.J6;exact pS λ_ _=>pR λ_=>h
 have f:∀ap b x z C F (e:AK) n,e.Kind=v.1.Kind/\e.Obj=v.1.Obj->Hi (Ay.J2 c a ap b x z C F e n) G:=by
  intro ap b x z C F e n h;unfold Ay.J2 Ay.J3 Ay.J4 Ay.J5
  repeat' first|exact g _ _ _ _ _ _ h|refine pS λ_ _=> ?_|refine pI (λ_=> ?_) λ_=> ?_
 have j1:∀ap b x z t,Hi (Ay.J1 c a v ap b x z t) G:=by
  intro ap b x z t;unfold Ay.J1
  repeat' first|exact f _ _ _ _ _ _ _ _ ⟨rfl,rfl⟩|refine pS λ_ _=> ?_|refine pI (λ_=> ?_) λ_=> ?_
 unfold Ay;exact pE d (pI (λ_=>pF3) λ_=>pS λ_ _=>pI (λ_=>pF3) λ_=>pS λ_ _=>pS λ_ _=>pS λ_ _=>pS λ_ _=>pI (λ_=>j1 _ _ _ _ _) λ_=>pI (λ_=>j1 _ _ _ _ _) λ_=>j1 _ _ _ _ _)
def Zj (e:AK):BJ:=⟨e.Thread,if e.Kind=18/\0≤e.Value/\e.Value<4 then e.Value else -1⟩
theorem applyR_wake {wv:AD} {s:AQ} {t k o w w':Int} (h:k=18->D6 w' (CD o 0 s.AA)=D6 w (CD o 0 s.AA)):K4 wv s t k o w'=K4 wv s t k o w:=by
 have key:EA wv s t k o w'=EA wv s t k o w:=by
  by_cases a:k=18
  . have e:∀w,EA wv s t 18 o w=(if CD o 0 s.AA=[]then s else K2 s (D6 w (CD o 0 s.AA)) Hk,D6 w (CD o 0 s.AA)):=λw=>by simp[EA]
    rw[a,e,e,h a]
  . unfold EA;simp only[AAO a]
 unfold K4;rw[key]
theorem J1_th {c:BB} {d f:BJ} (h:f.Thread=d.Thread):Ay.J1 c f=Ay.J1 c d:=by funext a e b x i t;simp only[Ay.J1,Ay.J2,Ay.J3,Ay.J4,Ay.J5,Ay.J6,h]
theorem step_ch {E:Nat} {c:BB} (o:CK c) {s:Ae} (i:SI E s) (C:E≤10000) {a:BJ} {y:Ae} {e:AK} (h:Ay c s a=some (y,e,true)):Ay c s (Zj e)=some (y,e,true):=by
 obtain⟨r,n,B⟩:=Vk o i C a;rw[h]at n;obtain rfl:=AAJ n;obtain⟨_,b⟩:=B rfl;obtain⟨v,g,H⟩:=RU o i.2 (by omega) a.Thread;obtain⟨u,x⟩:=Step_kind a g _ h rfl;simp only at u x;have d:(Zj e).Thread=a.Thread:=b.p.h;have l:=DB b.p.f.v.w;have G:=l.t;have q:=(Em b.p.f.f).2.2;have D:K4 c.World s.Sync a.Thread v.1.Kind v.1.Obj (Zj e).Px=K4 c.World s.Sync a.Thread v.1.Kind v.1.Obj a.Px:=by
  refine applyR_wake λF=> ?_;have m:e.Kind=18:=u.trans F;have z:e.Value=D6 a.Px (CD v.1.Obj 0 s.Sync.AA):=by have:=b.va.2.2.2 (by simp only;omega) (by simp only;omega) (by simp only;omega) (by simp only;omega) (by simp only;omega);simp only[m,x]at this;rw[this];simp[EA]
  show D6 (if e.Kind=18/\0≤e.Value/\e.Value<4 then e.Value else -1) _=_
  by_cases j:CD v.1.Obj 0 s.Sync.AA=[]
  . rw[j];rfl
  . have k:=MI (wake:=a.Px) j;rw[← z]at k ⊢;have I:=II _ _ _ _ k;rw[AAP ⟨m,by omega,by omega⟩];unfold D6;rw[AAO j,AAP (by simpa using k)]
 rw[← h];unfold Ay;rw[d,g,AAF,AAF];rw[Ms _ l _ (i.1.mono (by omega)),Ms _ l _ (i.1.mono (by omega)),D,J1_th d]
def l6 (c:BB):Ae->List AK->Ae->Prop
 |s,[],t=>s=t
 |s,e::r,t=>∃s',Ay c s (Zj e)=some (s',e,true)/\l6 c s' r t
theorem runE_snoc {c:BB} {t u:Ae} {e:AK} (h:Ay c t (Zj e)=some (u,e,true)):∀{l s},l6 c s l t->l6 c s (l++[e]) u
 |[],s,hr=>by cases hr;exact⟨u,h,rfl⟩
 |x::r,s,⟨s',h1,h2⟩=>⟨s',h1,runE_snoc h h2⟩
theorem runE_split {c:BB} {t:Ae} {b:List AK}:∀{a s},l6 c s (a++b) t->∃u,l6 c s a u/\l6 c u b t
 |[],s,hr=>⟨s,rfl,hr⟩
 |x::r,s,⟨s',h1,h2⟩=>by obtain⟨u,d,e⟩:=runE_split (a:=r) h2;exact⟨u,⟨s',h1,d⟩,e⟩
structure GP (c:BB) (pre:List AK) (s:Ae):Prop where
 i:SI pre.length s
 l:LK c pre (pre.foldl (Fu c.World) (Ft c.World)) s
 k:∀(u:Nat) x,s.AA[u]? =some x->ix (pre.foldl (Fu c.World) (Ft c.World)).Count (u:Int)=x.AE
 n:s.AA.length=c.AA.length
theorem GP.step {c:BB} (C:CK c) (J:∀t∈c.AA,VS t) {b:List AK} {s G:Ae} {g:BJ} {e:AK} (h:GP c b s) (Q:b.length≤400) (E:Ay c s g=some (G,e,true)):GP c (b++[e]) G:=by
 obtain⟨r,B,I⟩:=Vk C h.i (by omega) g;rw[E]at B;obtain rfl:=AAJ B;obtain⟨⟨F,S⟩,d⟩:=I rfl;obtain⟨_,_,z⟩:=sim (by omega) h.i h.l d;obtain⟨x,T,w,j,O⟩:=wW C J h.i (by omega) h.l g _ E rfl;obtain⟨y,U,y1,y2,_⟩:=d.th;simp only at j y1 y2 F z;have D:(b++[e]).foldl (Fu c.World) (Ft c.World)=Fu c.World (b.foldl (Fu c.World) (Ft c.World)) e:=by rw[List.foldl_append];rfl
 have N:=h.i.2 x (AAS w);have R:=d.p.t;have q:e.Thread=g.Thread:=d.p.h;have hn:=d.p.f.n;have L:=d.p.f.v.n;refine⟨by rw[AAu];exact F,by rw[D];exact z,λu a o=> ?_,by rw[y2,List.length_set];exact h.n⟩;rw[D];show ix ((b.foldl (Fu c.World) (Ft c.World)).Count.set e.Thread.toNat (Aq (ix (b.foldl (Fu c.World) (Ft c.World)).Count e.Thread+1))) u=_;have K:=h.l.n;rw[q];by_cases M:(u:Int)=g.Thread
 . have m:g.Thread.toNat=u:=(by omega);rw[m]at w j ⊢;rw[o]at j;obtain rfl:=AAJ j
   have:=h.k u x w;rw[← M,this,O];have P:=N.e;rw[CC (by omega) (by omega)];unfold ix;have H:u<(b.foldl (Fu c.World) (Ft c.World)).Count.length:=(by omega);simp[H]
 . have m:g.Thread.toNat≠u:=(by omega);rw[y2,AAM m]at o;rw[← h.k u a o];unfold ix;rw[AAM (by omega)]
theorem GP.run {c:BB} (b:CK c) (a:∀t∈c.AA,VS t) {t:Ae}:∀{l pre s},GP c pre s->l6 c s l t->pre.length+l.length≤400->GP c (pre++l) t
 |[],pre,s,h,hr,_=>by cases hr;rw[ABV];exact h
 |e::r,pre,s,h,⟨s',h1,h2⟩,hp=>by
  simp only[AAx]at hp
  have:=GP.run b a (h.step b a (by omega) h1) h2 (by simp;omega);rwa [AA0]at this
theorem from_par {c:BB} (f:CK c) (j:∀t∈c.AA,VS t) {s:Ae} (m:GP c [] s) {l:List BJ} (u:l.length≤1000):Hi (C2 c s [] l) λr=>l6 c s r.1 r.2/\r.1.length≤400:=by unfold C2;refine wA l.length (λi (t:List AK×Ae)=>(l6 c s t.1 t.2/\t.1.length≤400)/\GP c t.1 t.2) (F:=λn s i=>C2.AZ c l n s.1 s.2 i) (s0:=([],s)) (λ_ _=>rfl) (by omega) ⟨⟨rfl,by simp⟩,m⟩ λn i t hi o k=> ?_;obtain⟨⟨a,b⟩,d⟩:=o;unfold C2.AZ C2.L1 C2.J1 C2.J2 C2.J3;refine pD (λq=>pI (λe=>pE (B8 (by omega)) ?_) λ_=>pR ⟨a,b⟩) λ_=>pI (λh=>by cases h) λ_=>pR ⟨a,b⟩;refine pS λv g=>pI (λh=>pC λ_=> ?_) λ_=>k t (by omega) ⟨⟨a,b⟩,d⟩;obtain⟨w,x,p⟩:=v;obtain rfl:p=true:=h;have e:(t.1.length:Int)<400:=AAT e;exact k (_,_) (by omega) ⟨⟨runE_snoc (step_ch f d.i (by omega) g) a,by simp;omega⟩,d.step f j (by omega) g⟩
theorem from_again {c:BB} {s t:Ae} {l:List AK} (h:l6 c s l t) (m:l.length≤400):Cc (C2 c s [] (l.map Zj)) λr=>r.2=t:=by
 unfold C2;refine OR l.length (λi (u:List AK×Ae)=>u.1.length=i/\l6 c u.2 (l.drop i) t) (F:=λn s i=>C2.AZ c (l.map Zj) n s.1 s.2 i) (s0:=([],s)) (by omega) ⟨rfl,h⟩ λn i u hi e k=> ?_;obtain⟨f,a⟩:=e;unfold C2.AZ C2.L1 C2.J1 C2.J2 C2.J3;rw[AAn];refine tD (λg=> ?_) λj=>tI (λh=>by cases h) λ_=> ?_
 . rw[ABD (by omega)]at a;obtain⟨o,b,d⟩:=a;refine tI (λ_=>tE (y:=Zj (l[i]'(by omega))) (by rw[B8 (by simp;omega)];simp) (tE b (tI (λ_=>tC (B9 (by omega)) (k (_,_) (by omega) ⟨by simp[f],d⟩)) λh=>by cases h))) λh=>by simp at h;omega
 . rw[List.drop_of_length_le (by omega)]at a;exact tR a
theorem Choices_eq {l:List AK} (m:l.length≤1000):EW l=some (l.map Zj):=by
 have key:Cc (EW l) λr=>r=l.map Zj:=by
  unfold EW;refine OR l.length (λi s=>s=(l.take i).map Zj) (F:=λn s i=>EW.AZ l n s i) (by omega) rfl λn i s hi f k=> ?_;subst f;unfold EW.AZ EW.L1 EW.J1 EW.J2 EW.J3;refine tD (λg=>YX (by omega) ?_) λj=>tR (by rw[AAs (by omega)]);have d:i<l.length:=by omega
  have key:∀w,(Zj l[i]).Px=w->Cc (if Ap (((l.take i).map Zj).length+1) 16=true then EW.AZ l n ((l.take i).map Zj++[BJ.mk l[i].Thread w]) (Aq (i+1))else none) λr=>r=l.map Zj:=by rintro w rfl;refine tC (B9 (by simp;omega)) (k _ d ?_);rw[← AAX d,AAv];rfl
  have b:(Zj l[i]).Px=if l[i].Kind=18/\0≤l[i].Value/\l[i].Value<4 then l[i].Value else -1:=rfl
  refine tI (λa=>tD (λe=>tI (λc=>tE (B8 d) (key _ ?_)) λc=>key _ ?_) λe=>tI (λh=>by cases h) λ_=>key _ ?_) λa=>tI (λh=>by cases h) λ_=>key _ ?_
  . rw[b,AAP ⟨eq_of_beq a,e,AAT c⟩]
  . rw[b,AAO (λh=>by have:=of_decide_eq_false c;omega)]
  . rw[b,AAO (λh=>by omega)]
  . rw[b,AAO (λh=>by simp at a;exact a h.1)]
 obtain⟨r,a,rfl⟩:=key;exact a
theorem Start_par {c:BB} (g:CK c) (l:Ct c.World=true):Hi (Bp c) λs=>BV c=some true->(∀x∈s.AA,x.AE=0)/\s.AA.length=c.AA.length:=by
 have hn:=g.n;have h:=DB l;have m:=h.c;have d:=h.f;unfold Bp;refine pS λv j=>pI (λh=>pR λd=>by rw[j]at d;obtain rfl:=AAJ d;cases h) λ_=>pS λ_ _=> ?_;refine wA c.World.Cells.length (λi t=>t.AA=[]) (F:=λn s i=>Bp.AZ c n s i) (λ_ _=>rfl) (by omega) rfl λn i t hi a k=> ?_;unfold Bp.AZ Bp.L1 Bp.J1;refine pD (λ_=>pS λ_ _=>pC λ_=>k _ (by omega) a) λ_=>wA c.World.AH.length (λi t=>t.AA=[]) (F:=λn s i=>Bp.DI c n s i) (λ_ _=>rfl) (by omega) a λn i t hi a k=> ?_;unfold Bp.DI Bp.L2 Bp.J2;refine pD (λ_=>pC λ_=>k _ (by omega) a) λ_=>wA c.AA.length (λi t=>t.AA.length=i/\∀x∈t.AA,x.AE=0) (F:=λn s i=>Bp.GL c n s i) (λ_ _=>rfl) (by omega) ⟨by rw[a];rfl,by rw[a];simp⟩ λn i t hi a k=> ?_;unfold Bp.GL Bp.L3 Bp.J3;refine pD (λ_=>pS λe _=>pC λ_=>pC λ_=>pC λ_=>k _ (by omega) ⟨by simp[a.1],?_⟩) λ_=>pR λ_=>⟨a.2,by omega⟩;intro x b;rcases AAa.1 b with b|b
 . exact a.2 x b
 . rw[AAh.1 b]
theorem made_run {p s:List Int} (H:p.length≤200) (z:∀x∈p,0≤x/\x<256) (I:s.length≤400):
 ∃c t,Kd p=some c/\HQ p s=some t/\AT t/\t.World=c.World/\(CK c/\BV c=some true/\∀t∈c.AA,VS t)/\c.AA.length=c.World.AA.length/\∃s0,Bp c=some s0/\GP c [] s0/\∃L,l6 c s0 t.AE L:=by
 obtain⟨c,m,a,e⟩:=vY (l:=p) (by omega) z;obtain⟨t,y,j⟩:=made_at H z I;have o:=Valid_par a _ e rfl;obtain⟨b,g,M⟩:=N8 a;rw[e]at g;have f:=M (AAJ g).symm;obtain⟨s0,d,B,C⟩:=fW a e;obtain⟨D,E⟩:=Start_par a f.w _ d e;have q:GP c [] s0:=by
  refine⟨B,C,λu x J=> ?_,E⟩;rw[D x (AAS J)];show ix (List.replicate c.World.AA.length 0) (u:Int)=0;unfold ix;simp only[AA4];by_cases F:u<c.World.AA.length
  . rw[AAL (by simpa using F)];simp
  . rw[ABE (by simp;omega)];rfl
 have i:=y;obtain⟨l,k,G⟩:=Xw (l:=s) (by omega);unfold HQ at i;rw[m,AAF,k,AAF]at i;obtain⟨r,v,_⟩:=v8 a B C (l:=l) (by omega);obtain⟨K,N⟩:=from_par a o q (by omega) _ v;unfold Ii at i;rw[e,AAF,AAO (by simp),d,AAF,v,AAF,AAF]at i;have h:=AAJ i;refine⟨c,t,m,y,j,by rw[← h],⟨a,e,o⟩,f.n,s0,d,q,r.2,by rw[← h];exact K⟩
theorem gtIx {a:Type} [Inhabited a] {l:List a} {i:Nat} (h:i<l.length):gt l (i:Int)=some (ix l (i:Int)):=by rw[B8 h];unfold ix;simp[h]
theorem pU {p s:List Int} {f:Int} (hu:∀x∈p,0≤x/\x<256) (hf:0≤f/\f<256):Bq p s f=some true:=by
 have hb:=Bn;unfold Bq;have key:∀b,(b=false->p.length≤200/\s.length≤60)->Bq.J1 p s f b=some true:=by
  intro b Q;unfold Bq.J1;cases b with
  |true=>rfl
  |false=>
   obtain⟨q,o⟩:=Q rfl;obtain⟨c,t,V,ht,h,hw,⟨B,hv,U⟩,W,s0,G,X,s1,hr⟩:=made_run (s:=s) q hu (by omega);have Z:=h.l;rw[AAO (by simp),V,AAF,ht,AAF];obtain⟨k,J,H,K⟩:∃k:Nat,Aq (((Aq f).tmod 16)+1)=(k:Int)/\0<k/\k≤16:=(by obtain⟨m,rfl⟩:∃m:Nat,f=m:=⟨f.toNat,by omega⟩;rw[CC (n:=(m:Int)) (by omega) (by omega)];refine⟨m%16+1,?_,by omega,by omega⟩;rw[show(m:Int).tmod 16=((m%16:Nat):Int)from by rw[Int.ofNat_tmod];rfl,CC (by omega) (by omega)];rfl);obtain⟨d1,d2⟩:=winN_bd H t.AE.length;have hN:=wB H t.AE.length;have e:Aq ((Aq ((Aq ((t.AE.length:Int)+(k:Int)))-1)).tdiv (k:Int))=((Md k t.AE.length:Nat):Int):=(by rw[CC (n:=(t.AE.length:Int)+(k:Int)) (by omega) (by omega),CC (n:=(t.AE.length:Int)+(k:Int)-1) (by omega) (by omega),show(t.AE.length:Int)+(k:Int)-1=((t.AE.length+k-1:Nat):Int)from by omega,← Int.ofNat_tdiv];show Aq ((Md k t.AE.length:Nat):Int)=_;exact CC (by omega) (by omega));have loop:∀n a:Nat,a≤Md k t.AE.length->Md k t.AE.length<n+a->Bq.AZ f c t (KC t k t.AE.length,0) n (t.AE.take (a*k)) (a:Int)=some true:=by
    intro n;induction n with
    |zero=>intro a R S;omega
    |succ n ih=>
     intro a R S;rw[Bq.AZ];unfold Bq.L1;by_cases hi:a<Md k t.AE.length
     . have ha:a*k<t.AE.length:=(by have:(a+1)*k≤Md k t.AE.length*k:=AA1 k hi;rw[ABM]at this;omega);have hm:Aq ((a:Int)*(k:Int))=((a*k:Nat):Int):=(by rw[show(a:Int)*(k:Int)=((a*k:Nat):Int)from by simp];exact CC (by omega) (by omega));have D:(if(t.AE.length:Int)<((a*k:Nat):Int)then(t.AE.length:Int)else((a*k:Nat):Int))=((a*k:Nat):Int):=AAO (by omega)
       obtain⟨u,z,_⟩:=runE_split (a:=t.AE.take (a*k)) (b:=t.AE.drop (a*k)) (by rw[ABY];exact hr);have v:=X.run B U z (by simp;omega);rw[ABB]at v;have T:(t.AE.take (a*k)).foldl (Fu c.World) (Ft c.World)=Gl t (a*k):=(by unfold Gl;rw[hw]);obtain⟨q,o,I,g4⟩:=v;rw[T]at o I;obtain⟨r,E,F⟩:=from_again z (by simp;omega);have O:Ii c ((t.AE.take (a*k)).map Zj)=some (⟨c.World,r.1⟩,u):=(by unfold Ii;rw[hv,AAF,AAO (by simp),G,AAF,E,AAF,F]);have j:=h.small (i:=a*k) (by omega);have M:FA (fT t k (a*k))=some true:=(by rw[wZ (λe C=>h.e e (List.mem_of_mem_drop (ABa C))) (j.r.mono (by omega)),winS_valid h.w Z h.c K (by omega)]);have g:(fT t k (a*k)).Init=Gl t (a*k):=rfl;have hn2:=o.n;have c1:=j.c;have c2:=j.f;rw[A2 (by rw[Ky];omega),mK hi,AAF,J,hm,D,AA4,AAP ⟨by omega,by omega⟩,Choices_eq (by simp;omega),AAF,O,AAF];rw[AAO (c:=((fT t k (a*k)).Start != ((a*k:Nat):Int))=true) (by simp[fT]),M,AAF,AAO (by simp),g];simp only;rw[← o.y,← o.ce,← o.f,Same8_self j.l j.d j.t j.r,AAF,AAO (by simp),bW _ (by omega),AAF,AAO (by simp),bW _ (by omega),AAF,AAO (by simp)];unfold Bq.J3;rw[AAO (by simp;omega)];refine ZA (L:=Bq.DI (Bq.AZ f c t (KC t k t.AE.length,0) n) (t.AE.take (a*k)) a (⟨c.World,r.1⟩,u) (fT t k (a*k))) (N:=u.AA.length) (λm i hi=> ?_) (λm=> ?_) Bg 0 (by omega) (by have:=B.n;omega)
       . rw[Bq.DI];unfold Bq.L2;simp only;rw[A2 (by omega),g,gtIx (by omega),AAF,B8 hi,AAF,I i _ (AAL hi),AAO (by simp),Ai (by have:=B.n;omega)]
       . rw[Bq.DI];unfold Bq.L2 Bq.J4 Bq.J5;simp only;rw[Ad (by omega),BO (by simp[fT];omega),Ai (by omega)];have P:t.AE.take (a*k)++(fT t k (a*k)).AE=t.AE.take ((a+1)*k):=(by rw[ABM,List.take_add];rfl);rw[P];exact ih (a+1) (by omega) (by omega)
     . have:a=Md k t.AE.length:=(by omega);rw[Ad (by rw[Ky];omega)];unfold Bq.J6 Bq.J7;rw[AAs (by rw[this];omega),uW _ (by omega) (λe C=>h.ev C),AAF,AAP rfl,v7];rfl
   rw[J,Split_eq t h.e,AAF,tZ h H K];simp only[Ky];rw[e,AAO (by simp),AAP (by omega)];unfold Bq.J2;rw[AAO (by simp)]
   have:=loop Bg 0 (by omega) (by omega);rw[Nat.zero_mul,List.take_zero]at this;exact this
 by_cases q:(p.length:Int)>200
 . rw[A2 q];exact key _ (λh=>by cases h)
 . rw[Ad q];exact key _ λh=>by have:=of_decide_eq_false h;omega
end Go.Abs
namespace Go.Abs
open Go.Proofs Go.RowKit
set_option maxRecDepth 100000
set_option maxHeartbeats 4000000
theorem eY {b:Type} {e:b->List AV} {ok:b->Prop}:∀(rows:List (List AV)),(∀a∈rows,∃x:b,a=e x/\ok x)->∃l:List b,rows=l.map e/\∀x∈l,ok x
 |[],_=>⟨[],rfl,λ_ h=>by simp at h⟩
 |r::rs,h=>by
  obtain⟨l,f,g⟩:=eY rs (λa i=>h a (by simp[i]));obtain⟨x,j,c⟩:=h r (by simp);refine⟨x::l,by rw[j,f];rfl,λy d=> ?_⟩;rcases AAg.1 d with rfl|d
  . exact c
  . exact g y d
def Mo (x:Int):Prop:=(Lit.int .u8 x).wf=true
structure SY (x:List Int):Prop where
 len:x.length*1≤reachBytes
 all:∀y∈x,Mo y
theorem op5:Ps Tryz.prog 5 (λa=>∃x:Int,a=[.sc (.int .u8 x)]/\Mo x):=(fY Tryz.underlying5).mono λ_ ⟨n,h,b⟩=>⟨n,h,b⟩
theorem arg5 (a:AV):UA Tryz.prog 5 [a]=a:=by unfold UA;rw[Tryz.underlying5];rfl
theorem op22:Ps Tryz.prog 22 (λc=>∃x:List Int,c=[.sl false 1 (x.map WL)]/\SY x):=by
 refine(eJ (k:=1) Tryz.underlying22 (by kernel_rfl) (by omega) op5).mono ?_;rintro c ⟨rows,rfl,g,d⟩;obtain⟨l,rfl,f⟩:=eY (e:=WL) (ok:=Mo) rows λb h=>(g b h).1;have a:Tryz.prog.bytesOf 5=1:=by kernel_rfl
 rw[a,AAn]at d;exact⟨l,rfl,d,f⟩
theorem arg22 (a:AV):UA Tryz.prog 22 [a]=a:=by unfold UA;rw[Tryz.underlying22];rfl
theorem laid:laidOutB Tryz.prog=true:=by kernel_rfl
theorem own0:ownKnob Tryz.prog.godebug=none:=by kernel_rfl
abbrev eC:List (String×DataW Unit):=[("interleave/token.keywords",Go.Proofs.YtdadohkcmclilaaGreatDoor.Rows.laid_interleave_token_keywords)]
theorem gName:Tryz.prog.globalNamed "interleave/token.keywords" =some 0:=by kernel_rfl
theorem gType:(Tryz.prog.globals[0]?).map (·.type)=some 271:=by kernel_rfl
theorem sK:(Go.Proofs.YtdadohkcmclilaaGreatDoor.Rows.laid_interleave_token_keywords:DataW Unit)= .agg (Km.map λs=>.lit (.string s.data.toList)):=rfl
theorem kS {W:World} (h:laidMetH Tryz.prog eC W):GI W (Old W):=by
 rw[MakeChecks.laidMetH_plain _ _ _ (by kernel_rfl)]at h;obtain⟨I,⟨G,K,c,F,H,J,i,n,o,f,_,_⟩,_,_⟩:=h;obtain rfl:=AAJ (gName.symm.trans i);obtain rfl:=AAJ (gType.symm.trans n);obtain⟨w,m,rfl,p,t,hn,g⟩:=DataW.trod_array Tryz.underlying271 f;have ce:Tryz.prog.cellsOf 9=1:=by kernel_rfl
 rw[sK]at p;simp only[AAU,DataW.agg.injEq]at p;have r:∀(j:Nat) s,Km[j]? =some s->W.cell? ⟨0,j,none⟩=some (.string s):=by
  intro j s b;have k:j<22:=by have:=(AAI.1 b).1;exact this
  have a:(w.map (·.1))[j]? =some (.lit (.string s.data.toList)):=by rw[← p.1,AAR,b];rfl
  rw[AAR]at a;cases hxs:w[j]? with
  |none=>rw[hxs]at a;cases a
  |some y=>have u:=g j k;rw[hxs,ce]at u;obtain⟨e,B,D,_⟩:=DataW.trod_string Tryz.underlying9 u;rw[hxs]at a;simp only[AAk,AAG]at a;rw[D]at a;simp only[DataW.lit.injEq,Lit.string.injEq]at a;have l:e=s:=ByteArray.ext (Array.toList_inj.1 a);subst l;rw[World.var?_cell gName o j];have:(c.toList.drop (j*1)).take 1=[.string e]:=B;rw[Nat.mul_one]at this;have d:c.toList[j]? =some (.string e):=(by have C:((c.toList.drop j).take 1)[0]? =some (.string e):=(by rw[this];rfl);simpa using C);simpa using d
 intro x q;have:x=(0,Km.map Value.string):=by simpa[Gam]using q
 subst this;have d:=r 0 _ rfl;obtain⟨_,z⟩:=nF d;refine⟨z,?_⟩;unfold World.cell? at d;cases hb:W.heap[0]? with
 |none=>simp[hb]at d
 |some Lh=>
  cases Lh with
  |cells arr E fz=>
   refine⟨arr,E,fz,rfl,λj v b=> ?_⟩;rw[AAR]at b;cases hs:Km[j]? with
   |none=>rw[hs]at b;cases b
   |some s=>
    rw[hs]at b;simp only[AAk,AAG]at b;subst b
    have:=r j s hs;unfold World.cell? at this;simpa[hb]using this
  |_=>simp[hb]at d
end Go.Abs
namespace Go.Abs
theorem u8_of {x:Int} (h:Mo x):0≤x/\x<256:=by unfold Mo Lit.wf at h;simp only[AAH,AAZ]at h;have c:=h.1;have d:=h.2;have a:IntKind.u8.min=0:=rfl;have b:IntKind.u8.max=255:=rfl;omega
theorem WSplits_law {p s:List Int} {f:Int} (b:SY p) (a:Mo f):Bq p s f=some true:=pU (λx c=>u8_of (b.all x c)) (u8_of a)
end Go.Abs
