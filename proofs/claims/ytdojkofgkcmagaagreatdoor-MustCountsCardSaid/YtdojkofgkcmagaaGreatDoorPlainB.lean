/- What the typed programs give, in plain Lean. -/
import Derived.Test.YtdojkofgkcmagaaGreatDoorWalkI
import Derived.Test.YtdojkofgkcmagaaGreatDoorWalkN
import Derived.Test.YtdojkofgkcmagaaGreatDoorPlainA
import Derived.Shelf.Slices.SearchI
set_option linter.all false
namespace Go.Abs
set_option maxHeartbeats 4000000
def gF(t t':AZ):Prop:=FG t'/\t'.L=t.L/\t.At<=t'.At
def gF.trans{a b c:AZ}(h:gF a b)(k:gF b c):gF a c:=⟨k.1,k.2.1.trans h.2.1,Int.le_trans h.2.2 k.2.2⟩
def IH{t:AZ}(b:FG t){n:Int}(hn:0<n/\n<1000):CX (Ao t n) λr=>(0<=r.1/\r.1<n)/\gF t r.2/\(t.At<t.L.length->t.At<r.2.At):=by have e:=b.l;have f:=b.a;unfold Ao Ao.J1;rw[CY (n:=t.At+1) ah ah,CY (n:=t.At+1-1) ah ah];refine tI (λh=>?_) λh=>?_;(have h:=AAV h;exact tI (λ_=>tR ⟨⟨ah,hn.1⟩,⟨b,rfl,ak⟩,λ_=>ah⟩) λh=>by cases h);have d:¬t.At>=(t.L.length:Int):=(by simpa using h);refine tI (λh=>absurd (AAV h) ah) λ_=>?_;refine tG ah λx c=>tC ah (tR ⟨?_,⟨⟨b.l,aA,b.u⟩,rfl,aA⟩,λ_=>aA⟩);have c:=b.u x c;rw[CY ah ah];exact⟨Int.tmod_nonneg _ c.1,Int.tmod_lt_of_pos _ hn.1⟩
def HV:AG:=(Gj).getD ⟨[],[],[],[],[],[]⟩
def sceneW_eq:Gj=some HV:=by decide +kernel
def sceneW_ok:DA HV:=by decide +kernel
def X8:HV.dg.length=5:=by decide +kernel
def dS:HV.AK.length=3:=by decide +kernel
def dR:HV.AM.length=1:=by decide +kernel
def X9:HV.AB.length=4:=by decide +kernel
variable{o u:Int}
theorem object_adv{b:AZ}(f:FG b)(k:0<=u/\u<4):CX (ED b o u) λr=>(o=3\/o=4->0<=r.1/\r.1<5)/\gF b r.2:=by
 have hn:gF b b:=⟨f,rfl,Int.le_refl _⟩;have g:∀p,o≠3->o≠4->CX (ED.J5 b u p) λr=>(o=3\/o=4->0<=r.1/\r.1<5)/\gF b r.2:=by intro p c d;unfold ED.J5;refine tI (λ_=>tB (IH f ah) ?_) λ_=>tR ⟨λh=>ah,hn⟩;rintro r ⟨_,h,_⟩;exact tR ⟨λh=>ah,h⟩
 have d:∀p,o≠3->o≠4->CX (ED.J4 o b u p) λr=>(o=3\/o=4->0<=r.1/\r.1<5)/\gF b r.2:=by intro p c d;unfold ED.J4;exact tI (λ_=>tR ⟨λh=>ah,hn⟩) λ_=>tI (λ_=>g _ c d) λ_=>g _ c d
 have c:∀p,o≠3->o≠4->CX (ED.J3 o b u p) λr=>(o=3\/o=4->0<=r.1/\r.1<5)/\gF b r.2:=by
  intro p c a;unfold ED.J3;refine tI (λ_=>tR ⟨λh=>ah,hn⟩) λ_=>?_;iterate 5 refine tI (λ_=>d _ c a) λ_=>?_
  exact d _ c a
 have m:∀p,o≠3->o≠4->CX (ED.J2 o b u p) λr=>(o=3\/o=4->0<=r.1/\r.1<5)/\gF b r.2:=by
  intro p e a;unfold ED.J2;refine tI (λ_=>tB (IH f ah) ?_) λ_=>?_;rintro r ⟨_,h,_⟩;exact tR ⟨λh=>ah,h⟩;iterate 3 refine tI (λ_=>c _ e a) λ_=>?_
  exact c _ e a
 have l:∀p,(p=false->o≠3/\o≠4)->CX (ED.J1 o b u p) λr=>(o=3\/o=4->0<=r.1/\r.1<5)/\gF b r.2:=by intro p n;unfold ED.J1;refine tI (λ_=>tB (IH f ah) ?_) λh=>?_;rintro r ⟨j,h,_⟩;refine tG ah λx i=>tR ⟨λ_=>?_,h⟩;simp only[AAk,List.not_mem_nil,ABB]at i;omega;grind
 unfold ED;grind
theorem p7(s:AD)(f:s.dc.AB.length<=500):CX (FA s) λr=>r.length<=s.dc.AB.length:=by
 have e:=BN;have key:∀n (i:Nat) (c:iT),s.dc.AB.length<n+i->i<=s.dc.AB.length->c.length<=i->CX (FA.AU s n c i) λr=>r.length<=s.dc.AB.length:=by intro n;induction n with|zero=>omega|succ n ih=>intro i c a b d;unfold FA.AU FA.L1;refine tI (λh=>?_) λ_=>tR ah;have h:=AAV h;unfold FA.J1;rw[AW ah];refine tG ah λx _=>tI (λ_=>tC (Cd ah) ?_) λ_=>ih (i+1) c ah ah ah;exact ih (i+1) _ ah ah an
 exact key BQ 0 [] ah ah ak
variable{s:AD}
theorem value_adv{b:AZ}(a:FG b)(e:s.dc.AB.length<=500)(g:u=3->0<=o/\o<(s.dg.length:Int))(i:0<s.AM.length):CX (Hx b s u o) λr=>gF b r.2:=by
 have hn:gF b b:=⟨a,rfl,Int.le_refl _⟩;have d:∀p,CX (Hx.J1 u s b p) λr=>gF b r.2:=by intro p;unfold Hx.J1;refine tI (λ_=>tB (IH a ah) λr h=>tR h.2.1) λ_=>tI (λ_=>tB (IH a ah) λr h=>tR h.2.1) λ_=>tI (λ_=>?_) λ_=>tI (λ_=>?_) λ_=>tR hn;refine tB (p7 s e) λl c=>tI (λh=>?_) λ_=>tR hn;have h:=AAV h;refine tB (IH a ah) ?_;rintro r ⟨f,h,_⟩;exact tG f λx _=>tR h;exact tB (p7 s e) λl c=>tR hn
 unfold Hx;refine tI (λh=>tG (g aA) λx _=>tR hn) λ_=>tI (λ_=>tG ah λx _=>tR hn) λ_=>tI (λ_=>d _) λ_=>d _
variable{c:iT}
theorem some_adv{b:AZ}(m:FG b)(u:c.length<=1000):CX (Gf b c) λr=>r.1.length<=c.length/\gF b r.2:=by
 have o:=BN;have key:∀n (i:Nat) (d:AZ) (l:iT),c.length<n+i->i<=c.length->l.length<=i->FG d->gF b d->CX (Gf.AU c n d l i) λr=>r.1.length<=c.length/\gF b r.2:=by intro n;induction n with|zero=>omega|succ n ih=>intro i d l q s t hd e;unfold Gf.AU Gf.L1;refine tI (λh=>?_) λ_=>tR ⟨aA,e⟩;have h:=AAV h;have j:∀a f p,FG a->gF b a->CX (Gf.J1 (Gf.AU c n) l i f a p) λr=>r.1.length<=c.length/\gF b r.2:=(by intro a f p g k;unfold Gf.J1 Gf.J2;rw[AW ah];exact tI (λ_=>tC (Cd ah) (ih (i+1) a _ ah ah an g k)) λ_=>ih (i+1) a l ah ah ah g k);refine tG ah λx _=>tI (λ_=>tB (IH hd ah) ?_) λ_=>j _ _ _ hd e;rintro r ⟨_,h,_⟩;exact j _ _ _ h.1 (e.trans h)
 exact key BQ 0 b [] ah ah ak m ⟨m,rfl,Int.le_refl _⟩
structure EvM (q:AZ) (r:AH×AZ):Prop where
 t:0<=r.1.cT/\r.1.cT<4
 d:r.1.D4.length<=1000
 f:r.1.DL.length<=1000
 a:gF q r.2
 s:q.At<q.L.length->q.At<r.2.At
variable{wv:AG}{K:je}
theorem event_adv{q:AZ}(P:FG q)(O:s.dc.AB.length<=500)(V:5<=s.dg.length)(X:5<=wv.dg.length)(N:0<s.AM.length)(U:K.length=4)(u:∀l∈K,l.length<=1000):CX (En q s wv K) (EvM q):=by
 unfold En Oj;refine tB (IH P ah) ?_;rintro a ⟨a0,F,I⟩;rw[AAK];refine tB (IH F.1 ak) ?_;rintro t ⟨T,E,_⟩;refine tG T λo W=>?_;refine tB (IH E.1 ah) ?_;rintro i ⟨i0,iA,_⟩;have R:gF q i.2:=(F.trans E).trans iA;have M:q.At<q.L.length->q.At<i.2.At:=λh=>by have:=I h;have:=E.2.2;have:=iA.2.2;omega
 have G:∀(p:AZ)(e:AH),gF q p->(q.At<q.L.length->q.At<p.At)->e.cT=a.1->e.D4.length<=1000->e.DL.length<=1000->CX (En.J6 p e) (EvM q):=λp e b d f k m=>tR ⟨am,k,m,b,d⟩;have m:∀(p:AZ)(e:AH) z,gF q p->(q.At<q.L.length->q.At<p.At)->e.cT=a.1->e.D4.length<=1000->e.DL.length<=1000->CX (En.J5 e K p a z) (EvM q):=by intro p e z b d f k m;unfold En.J5;refine tI (λ_=>tG ah λx r=>tB (some_adv b.1 (u x r)) ?_) λ_=>G _ _ b d f k m;rintro v ⟨n,g2⟩;exact G _ _ (b.trans g2) (λh=>by have:=d h;have:=g2.2.2;omega) f k (ABF n (u x r))
 have k:∀(p:AZ)(e:AH),gF q p->(q.At<q.L.length->q.At<p.At)->e.cT=a.1->e.D4.length<=1000->e.DL.length<=1000->CX (En.J4 K a p e) (EvM q):=by intro p e b d f k g;unfold En.J4;exact tI (λ_=>m _ _ _ b d f k g) λ_=>m _ _ _ b d f k g
 have f:∀(c:AH)(j l:j7) y,gF q l.2->(q.At<q.L.length->q.At<l.2.At)->c.cT=a.1->c.D4.length<=1000->c.DL.length<=1000->CX (En.J3 c K a j l y) (EvM q):=by intro c j l y b d f C g;unfold En.J3;refine tI (λ_=>tG ah λx r=>tB (some_adv b.1 (u x r)) ?_) λ_=>k _ _ b d f C g;rintro v ⟨n,g2⟩;exact k _ _ (b.trans g2) (λh=>by have:=d h;have:=g2.2.2;omega) f (ABF n (u x r)) g
 have d:∀(c:AH),c.cT=a.1->c.D4.length<=1000->c.DL.length<=1000->CX (En.J2 K s a i wv c) (EvM q):=by
  intro c n g2 J;unfold En.J2;refine tB (object_adv iA.1 a0) ?_;rintro j ⟨j0,D⟩;refine tB (value_adv D.1 O cm N) ?_;intro l H;have Q:gF q l.2:=(R.trans D).trans H;have S:q.At<q.L.length->q.At<l.2.At:=λh=>by have:=M h;have:=D.2.2;have:=H.2.2;omega
  have B:=λy=>f c j l y Q S n g2 J;refine tI (λ_=>B _) λ_=>tI (λh=>?_) λ_=>tI (λh=>?_) λ_=>B _;have:=j0 (.inl aA);exact tG ah λx _=>B _;have:=j0 (.inr aA);exact tG ah λx _=>B _
 unfold En.J1;grind
theorem rN(wv:AG)(s:AP)(t k o wake:Int):(DP wv s t k o wake).1.AK.length=s.AK.length/\(DP wv s t k o wake).1.Bs.length=s.Bs.length/\(DP wv s t k o wake).1.AB.length=s.AB.length:=by
 have key:∀(p:Prop) [Decidable p] (a b:AP×Int),(a.1.AK.length=s.AK.length/\a.1.Bs.length=s.Bs.length/\a.1.AB.length=s.AB.length)->(b.1.AK.length=s.AK.length/\b.1.Bs.length=s.Bs.length/\b.1.AB.length=s.AB.length)->((if p then a else b).1.AK.length=s.AK.length/\(if p then a else b).1.Bs.length=s.Bs.length/\(if p then a else b).1.AB.length=s.AB.length):=by intro p _ a b d e;split<;>assumption
 unfold DP;repeat' refine key _ _ _ ?_ ?_
 all_goals first|exact⟨rfl,rfl,rfl⟩| (simp only[Jz,HW,List.length_set,AAt,and_self];done)| (by_cases c:CO o 0 s.AB=[]<;>simp only[c,AAq,AAd,Jz,List.length_set,and_self])
theorem sT(h:I4 wv s)(e:AH):I4 wv (Dd wv s e):=by
 obtain⟨a,f,g,i⟩:=Hq h;obtain⟨b,g2,d⟩:=Dn a;have j:wv.Aj.all (λc=>B4 c.dn wv.AK.length):=by unfold HR at a;simp only[AAL]at a;exact a.1
 obtain⟨k,l,m⟩:=rN wv s.dc e.cT e.da e.di (if e.da=18 then e.dm else -1);simp only[I4,HR,Dd,AAL,AAb];grind
def kB:Small HV:=Eh sceneW_ok
structure SC (N:Nat) (s:AD):Prop where
 f:I4 HV s=true
 r:RB N s.dc
variable{n:Nat}
theorem SC.len(h:SC n s):s.dc.AB.length=4/\s.dg.length=5/\s.AM.length=1/\s.df.length=4/\s.dc.AK.length=3/\s.dc.Bs.length=1:=by obtain⟨a,d,e,g⟩:=Hq h.f;obtain⟨b,g2,c⟩:=Dn a;have:=X8;have:=dS;have:=dR;have:=X9;omega
def SC.mono{N M:Nat}(h:SC N s)(a:N<=M):SC M s:=⟨h.f,h.r.mono a⟩
theorem SC.step{N:Nat}{s:AD}(h:SC N s)(b:N<=1000){e:AH}(a:K3 e):CX (CC HV s e) λr=>r.2=true->SC (N+1) r.1:=by rw[Tp HV kB s (h.r.mono ah) e a];refine tR ?_;unfold QV;split;exactλ_=>⟨sT h.f e,h.r.apply _ _ _ _ _⟩;simp_all
variable{b:Type}
def mem_set{l:List b}{a x:b}(h:x∈l.set n a):x∈l\/x=a:=AA2 h
theorem play2_tot(T:o<=60):∀(n:Nat)(t:AZ)(s:AD)(c:jo)(R:je),FG t->(t.L.length:Int)-t.At<n->SC (c.length+20) s->c.length<=60->(∀e∈c,K3 e)->R.length=4->(∀l∈R,l.length<=c.length+1)->CX (DG.B9 o HV n t s c R) λr=>r.1.length<=60/\∀e∈r.1,K3 e:=by
 intro n;induction n with
 |zero=>intro t s c R w h;have:=w.a;omega
 |succ n ih=>
  intro t s c R w hn q E D b M;have F:=q.len;have P:∀u,(u=true->(c.length:Int)<o/\t.At<(t.L.length:Int))->CX (DG.J4 (DG.B9 o HV n) c R s t HV u) λr=>r.1.length<=60/\∀e∈r.1,K3 e:=by(intro u N;unfold DG.J4 DG.J7;refine tI (λh=>?_) λ_=>tR ⟨E,D⟩;obtain⟨O,x⟩:=N h;refine tB (event_adv w ah ah (by have:=X8;omega) ah b λl p=>aA) λj g=>?_;have K:K3 j.1:=⟨by have:=g.d;omega,by have:=g.f;omega⟩;refine tB (q.step ah K) λv G=>?_;have S:=g.t;have Q:=g.s x;have J:=g.a.2.1;have k:(j.2.L.length:Int)-j.2.At<n:=(by rw[J];omega);refine tI (λ_=>ih _ _ _ _ g.a.1 k q E D b M) λI=>?_;have G:=G am;have C:∀i,i.length=4->(∀l∈i,l.length<=c.length+2)->CX (DG.J6 (DG.B9 o HV n) c j v i) λr=>r.1.length<=60/\∀e∈r.1,K3 e:=by(intro i H I;unfold DG.J6;refine tC (Cd ah) (ih _ _ _ _ g.a.1 k am an ?_ H am);intro e k;rcases AAc.1 k with h|h);grind;simp_all);(have B:∀z,CX (DG.J5 (DG.B9 o HV n) c R s j v z) λr=>r.1.length<=60/\∀e∈r.1,K3 e:=by(intro z;unfold DG.J5;refine tI (λ_=>tG ah λy U=>tG ah λm _=>tC (Cd aA) (C _ am λl p=>?_)) λ_=>C R b λl p=>aA;rcases mem_set p with h|h);grind;simp_all);exact tI (λ_=>B _) λ_=>B _
  unfold DG.B9 DG.L2;grind
theorem play_tot{t:AZ}(D:FG t)(C:SC 20 s)(y:o<=60)(p:Bool):CX (DG t s HV o p) λr=>r.1.length<=60/\∀e∈r.1,K3 e:=by
 have g:=BN;have m:=C.len;have u:=X9;have key:∀(n i:Nat)(q:AZ)(R:je),4<n+i->i<=4->FG q->R.length=4->(∀l∈R,l.length<=1)->(∀k (j:k<R.length),i<=k->R[k]=[])->CX (DG.AU p o s HV n q R i) λr=>r.1.length<=60/\∀e∈r.1,K3 e:=by intro n;induction n with|zero=>omega|succ n ih=>intro i q R E F d f B w;unfold DG.AU DG.L1;refine tI (λh=>?_) λ_=>?_;(have h:=AAV h;simp only[ABh,u]at h;have c:∀(v:AZ) z,FG v->CX (DG.J1 (DG.AU p o s HV n) R i v z) λr=>r.1.length<=60/\∀e∈r.1,K3 e:=by intro v z b;unfold DG.J1 DG.J2;rw[AW ah];refine tI (λ_=>?_) λ_=>ih (i+1) v R ah ah b f B λk j h=>w k j ah;have hi:i<R.length:=ah;rw[Be hi,AAK,w i hi (AAl _)];refine tC (Cd ak) (ih (i+1) v _ ah ah b am ?_ ?_);grind;grind);refine tI (λ_=>tG ah λx _=>tI (λ_=>tB (IH d ah) λr h=>c _ _ h.2.1.1) λ_=>c _ _ d) λ_=>c _ _ d;unfold DG.J3;refine play2_tot y BQ q s [] R d (by have:=d.l;have:=d.a;omega) ah ak ak f (λl G=>am)
 unfold DG;refine tC ⟨ah,ah,Cd ah⟩ (key BQ 0 t _ ah ah D (by simp[u]) ?_ ?_);all_goals grind
variable{j:Int}
theorem Ms[Inhabited b]{l:List b}{a:b}(hi:B4 o l.length)(c:B4 j l.length):ix (l.set o.toNat a) j=if j=o then a else ix l j:=by have hi:=As.1 hi;have c:=As.1 c;unfold ix;grind
variable{a:Type}
theorem ix_map[Inhabited a][Inhabited b]{l:List a}{f:a->b}(c:B4 j l.length):ix (l.map f) j=f (ix l j):=by have c:=As.1 c;have:j.toNat<l.length:=ah;unfold ix;simp_all
structure TI (wv:AG) (B:Int->Prop) (L:List AQ) (u:Int) (x:AL):Prop where
 s:0<=x.dh/\x.dh<=5
 b:B u↔2<=x.dh
 z:u=0->x.dh≠0
 c:x.dh=3\/x.dh=4->B4 x.DS wv.Aj.length=true/\(ix L (ix wv.Aj x.DS).dn).Bw≠u
 n:x.dh≠3->x.dh≠4->x.DS=0
 a:x.dy=true->2<=x.dh
structure LI (wv:AG) (B:Int->Prop) (i:Int) (x:AQ):Prop where
 o:x.Bw≠ -1->B x.Bw
 w:x.Ae≠[]->(ix wv.AK i).RW=true/\x.Bw= -1
 p:x.Ae.Pairwise (· < ·)
 r:∀y∈x.Ae,B y
structure YI (wv:AG) (B:Int->Prop) (s:AP):Prop where
 t:∀u,B4 u wv.AB.length=true->TI wv B s.AK u (ix s.AB u)
 l:∀i,B4 i wv.AK.length=true->LI wv B i (ix s.AK i)
 x:s.Tx≠ -1->B s.Tx
 b:∀u,B u->B4 u wv.AB.length=true
section
variable{wv:AG}{B:Int->Prop}{s:AP}
theorem YI.Jz(h:YI wv B s)(hn:s.AB.length=wv.AB.length){f:AL->AL}(hd:B4 o wv.AB.length)(c:TI wv B s.AK o (f (ix s.AB o))):YI wv B (Jz s o f):=by refine⟨λu a=>?_,h.l,h.x,h.b⟩;show TI wv B s.AK u (ix (s.AB.set o.toNat (f (ix s.AB o))) u);rw[Ms am am];by_cases e:u=o;simp_all;rw[AAP e];exact h.t u a
theorem YI.HW(h:YI wv B s)(p:∀i,B4 i wv.Aj.length->B4 (ix wv.Aj i).dn wv.AK.length)(hn:s.AK.length=wv.AK.length){f:AQ->AQ}(hi:B4 o wv.AK.length)(r:LI wv B o (f (ix s.AK o)))(k:(f (ix s.AK o)).Bw= -1\/(f (ix s.AK o)).Bw=(ix s.AK o).Bw\/B4 (f (ix s.AK o)).Bw wv.AB.length=true/\(ix s.AB (f (ix s.AK o)).Bw).dh=2):YI wv B (HW s o f):=by refine⟨λu m=>?_,λj q=>?_,h.x,h.b⟩;have g:=h.t u m;refine⟨g.s,g.b,g.z,λd=>⟨(g.c d).1,?_⟩,g.n,g.a⟩;have d:(ix s.AB u).dh=3\/(ix s.AB u).dh=4:=d;have v:=p _ (g.c d).1;show(ix (s.AK.set o.toNat (f (ix s.AK o))) (ix wv.Aj (ix s.AB u).DS).dn).Bw≠u;rw[Ms am am];by_cases e:(ix wv.Aj (ix s.AB u).DS).dn=o;(rw[AAQ e];have m:=As.1 m;rcases k with k|k|k);omega;rw[k,<- e];exact(g.c d).2;grind;rw[AAP e];exact(g.c d).2;show LI wv B j (ix (s.AK.set o.toNat (f (ix s.AK o))) j);rw[Ms am am];by_cases e:j=o;simp_all;rw[AAP e];exact h.l j q
theorem YI.congr{a:Int->Prop}(h:YI wv B s)(b:∀u,a u↔B u):YI wv a s:=by have:a=B:=funext λu=>propext (b u);simp_all
end
theorem kH(l:iT):(Ol l).Pairwise (· < ·):=by exact NM l
theorem Y8{s:AP}(h:HR wv s)(t k o wake:Int):HR wv (DP wv s t k o wake).1:=by
  have d:wv.Aj.all (λc=>B4 c.dn wv.AK.length):=by unfold HR at h;simp only[AAL]at h;exact h.1
  have key:∀(p:Prop) [Decidable p] (a b:AP×Int),HR wv a.1->HR wv b.1->HR wv (if p then a else b).1=true:=by intro p _ a b j l;split<;>assumption
  obtain⟨e,f,g⟩:=Dn h;unfold DP;repeat' refine key _ _ _ ?_ ?_
  all_goals first
    |exact h
    | (simp[HR,Jz,HW,d,e,f,g];done)
    | (by_cases i:CO o 0 s.AB=[]
       simp_all;simp[i,HR,Jz,d,e,f,g])
def mutex_of{s:AP}(h:HR wv s):∀o,B4 o wv.Aj.length->B4 (ix wv.Aj o).dn wv.AK.length:=λ_ a=>Fg h a
theorem waits_in{s:AP}(hn:s.AB.length=wv.AB.length)(h:u∈CO o 0 s.AB):B4 u wv.AB.length/\(ix s.AB u).dh=3:=by
 have key:∀(T:kr)(i:Nat)(u:Int),u∈CO o i T->∃x,T[(u-i).toNat]? =some x/\x.dh=3:=by intro T;induction T with|nil=>intro i u h;cases h|cons x r ih=>intro i u h;unfold CO at h;have key:u∈CO o (i+1) r->∃y,(x::r)[(u-i).toNat]? =some y/\y.dh=3:=(by intro h;have d:=(Js o r (i+1) u h).1;obtain⟨y,y1,y2⟩:=ih (i+1) u h;refine⟨y,?_,y2⟩;rw[show(u-(i:Int)).toNat=(u-((i+1:Nat):Int)).toNat+1 from by omega,ABM];exact y1);split at h;(rename_i b;rcases AAk.1 h with rfl|h);refine⟨x,ak,?_⟩;unfold Hv at b;simp_all;simp_all;simp_all
 obtain⟨x,a,e⟩:=key _ _ _ h;have c:=Js o s.AB 0 u h;have a:s.AB[u.toNat]? =some x:=by simpa using a
 refine⟨As.2 ah,?_⟩;unfold ix;simp_all
variable{wake:Int}
theorem zV(h:c≠[]):El wake c∈c:=by unfold El;rw[AAP h];split;simp_all;cases c with|nil=>simp_all|cons a r=>simp
theorem YI.apply{B:Int->Prop}{s:AP}(hq:∀o,B4 o wv.Aj.length->(ix wv.AK (ix wv.Aj o).dn).RW=false)(h:YI wv B s)(Z:CN wv s u j o):YI wv (λt=>B t\/t=u) (DP wv s u j o wake).1:=by
 unfold CN at Z;simp only[AAL]at Z;obtain⟨hf,q,d,k⟩:=Z;obtain⟨S,l2,E⟩:=Dn hf;have G:=mutex_of hf;have T:=h.t u q;unfold DP;by_cases N:j=1;rw[AAQ N];have hs:(ix s.AB u).dh=1:=(by simpa[Du,N]using k);have up:∀{t},B t->B t\/t=u:=.inl;refine⟨λt M=>?_,λi hi=>?_,λhx=>up (h.x hx),λt M=>M.elim (h.b t) λe=>e▸q⟩;show TI wv _ s.AK t (ix (s.AB.set u.toNat _) t);rw[Ms am am];have U:=h.t t M;by_cases e:t=u;rw[AAQ e];exact⟨ak,by simp[e],ak,ak,λ_ _=>T.n ah ah,ak⟩;rw[AAP e];exact⟨U.s,by simp[e,U.b],U.z,U.c,U.n,U.a⟩;have L:=h.l i hi;exact⟨λh=>up (L.o h),L.w,L.p,λy m=>up (L.r y m)⟩;rw[AAP N];have K:j≠17->(ix s.AB u).dh=2:=by intro v;unfold Du at k;simp only[AAP N,AAP v,AAL]at k;exact eq_of_beq k.1
 have h4:j=17->(ix s.AB u).dh=4/\(ix s.AB u).DS=o:=by intro v;unfold Du at k;simp only[AAP N,AAQ v,AAL]at k;exact⟨eq_of_beq k.1,eq_of_beq k.2.1⟩
 have F:B u:=T.b.2 ah;refine YI.congr (B:=B) ?_ λt=>⟨λh=>h.elim id λe=>e▸F,.inl⟩;have own:∀{i},B4 i wv.AK.length->(ix s.AK i).Ae=[]->j≠17->YI wv B (Abs.HW s i λx=>⟨u,x.Ae⟩):=λhi QA v=>h.HW G S hi ⟨λ_=>F,λh=>absurd QA h,(h.l _ hi).p,(h.l _ hi).r⟩ (.inr (.inr ⟨q,K v⟩));have off:∀{i},B4 i wv.AK.length->YI wv B (Abs.HW s i λx=>⟨-1,x.Ae⟩):=λhi=>h.HW G S hi ⟨λh=>absurd rfl h,λJ=>⟨((h.l _ hi).w J).1,rfl⟩,(h.l _ hi).p,(h.l _ hi).r⟩ (.inl rfl);by_cases k2:j=2;rw[AAQ k2];have K:=K ah;dsimp only;apply h.Jz E q;exact⟨ak,by simp[F],ak,ak,λ_ _=>T.n ah ah,ak⟩;rw[AAP k2];by_cases V:j=6\/j=10;(rw[AAQ V];have hi:B4 o wv.AK.length:=(by rcases V with rfl|rfl<;>simp[A8]at d<;>exact d.1);refine own hi ?_ ah;rcases V with rfl|rfl);have I:(ix wv.AK o).RW=false:=(by simp[A8]at d;exact d.2);by_cases e:(ix s.AK o).Ae=[];exact e;have:=(h.l o hi).w e;simp_all;simp[Du]at k;grind;rw[AAP V];by_cases k7:j=7\/j=11;(rw[AAQ k7];refine off ?_;rcases k7 with rfl|rfl<;>simp[A8]at d<;>exact d.1);rw[AAP k7];by_cases k8:j=8;(rw[AAQ k8];subst k8;simp[A8]at d;simp[Du]at k;have L:=h.l o d.1;dsimp only;applyλx=>h.HW G S d.1 x (.inr (.inl rfl));refine⟨L.o,λ_=>⟨d.2,k.2.1⟩,kH _,?_⟩;intro y m;have m:y∈(ix s.AK o).Ae++[u]:=(Kp _ y).1 m;rcases AAc.1 m with m|m);exact L.r y m;simp_all;rw[AAP k8];by_cases k9:j=9;rw[AAQ k9];subst k9;simp[A8]at d;have L:=h.l o d.1;dsimp only;applyλx=>h.HW G S d.1 x (.inr (.inl rfl));exact⟨L.o,λJ=>L.w λe=>J (by simp[e]),L.p.sublist List.filter_sublist,λy m=>L.r y (List.mem_filter.1 m).1⟩;rw[AAP k9];by_cases qB:j=12;rw[AAQ qB];exact⟨h.t,h.l,λ_=>F,h.b⟩;rw[AAP qB];by_cases P:j=13;rw[AAQ P];exact⟨h.t,h.l,λh=>absurd rfl h,h.b⟩;rw[AAP P];by_cases Q:j=14;rw[AAQ Q];have K:=K ah;dsimp only;apply h.Jz E q;exact⟨T.s,T.b,T.z,T.c,T.n,λ_=>am⟩;rw[AAP Q];by_cases R:j=15;rw[AAQ R];dsimp only;apply h.Jz E q;exact⟨T.s,T.b,T.z,T.c,T.n,λh=>by cases h⟩;rw[AAP R];by_cases W:j=16;rw[AAQ W];have H:B4 o wv.Aj.length:=(by simpa[A8,W]using d);have g:=G o H;dsimp only;apply(off g).Jz E q;refine⟨ak,by simp[F],ak,λ_=>⟨H,?_⟩,ak,ak⟩;show(ix (s.AK.set _ _) _).Bw≠u;rw[Ms am am,AAQ rfl];have:=As.1 q;grind;rw[AAP W];by_cases v:j=17;rw[AAQ v];have H:B4 o wv.Aj.length:=(by simpa[A8,v]using d);have g:=G o H;have m:=h.Jz E q (f:=λx=>⟨2,0,x.dy⟩) ⟨ak,by simp[F],ak,ak,ak,ak⟩;refine m.HW G S (f:=λx=>⟨u,x.Ae⟩) g ⟨λ_=>F,λJ=>?_,(h.l _ g).p,(h.l _ g).r⟩ (.inr (.inr ⟨q,?_⟩));have I:=((h.l _ g).w J).1;simp_all;show(ix (s.AB.set u.toNat _) u).dh=2;rw[Ms am am,AAQ rfl];rw[AAP v];by_cases b8:j=18;rw[AAQ b8];by_cases hW:CO o 0 s.AB=[];simp_all;simp only[hW,AAd];obtain⟨d1,X⟩:=waits_in E (zV (wake:=wake) hW);have D:=h.t _ d1;apply h.Jz E d1;exact⟨by simp[IP],by simp[IP];exact D.b.2 ah,by simp[IP],λ_=>D.c (.inl X),by simp[IP],by simp[IP]⟩;rw[AAP b8];by_cases v8:j=19;rw[AAQ v8];refine⟨λt M=>?_,h.l,h.x,h.b⟩;show TI wv B s.AK t (ix (s.AB.map (Hg o)) t);rw[ix_map am];have U:=h.t t M;unfold Hg;by_cases I:Hv (ix s.AB t) o=true;have X:(ix s.AB t).dh=3:=(by unfold Hv at I;simp only[AAL]at I;exact eq_of_beq I.1);rw[AAQ I];exact⟨by simp[IP],by simp[IP];exact U.b.2 ah,by simp[IP],λ_=>U.c (.inl X),by simp[IP],by simp[IP]⟩;simp_all;rw[AAP v8];by_cases C:j=20;rw[AAQ C];have H:B4 o wv.AB.length:=(by simpa[A8,C]using d);have O:=h.t o H;have hs:(ix s.AB o).dh=0:=(by simp[Du,C]at k;exact k.2.2);have nb:¬B o:=λh=>(by have:=O.b.1 h;omega);dsimp only;apply h.Jz E H;exact⟨ak,by simp[nb],ak,ak,λ_ _=>O.n ah ah,λh=>by have:=O.a h;omega⟩;rw[AAP C];by_cases cW:j=22;rw[AAQ cW];exact⟨h.t,h.l,h.x,h.b⟩;simp_all
def begB(wv:AG)(c:iT)(u:Int):Prop:=B4 u wv.AB.length=true/\1<=ix c u
structure WI (wv:AG) (pre:List AH) (s:AD):Prop where
 f:I4 wv s=true
 c:∀u,B4 u wv.AB.length=true->ix s.df u=((Jj pre u).length:Int)
 m:s.df.sum=(pre.length:Int)
 y:YI wv (begB wv s.df) s.dc
 d:∀i,B4 i wv.AM.length=true->ix s.dc.Bs i=false->ix s.AM i=0
theorem sum_set:∀{i:Nat}{x:Int},i<c.length->(c.set i x).sum=c.sum+(x-c.getD i 0):=by induction c with|nil=>simp_all|cons a r ih=>intro i x h;cases i with|zero=>simp;omega|succ i=>grind
theorem ZP[Inhabited b]{a:b}(h:B4 o n):ix (List.replicate n a) o=a:=by have:=As.1 h;unfold ix;simp_all
theorem RU(h:DA wv):wv.Aj.all (Qb wv)/\1<=wv.AB.length:=by unfold DA at h;grind
theorem TL(h:DA wv):∀o,B4 o wv.Aj.length->(ix wv.AK (ix wv.Aj o).dn).RW=false:=by intro o b;have a:=(RU h).1;have:=As.1 b;have c:o.toNat<wv.Aj.length:=ah;have:=AAS.1 a (ix wv.Aj o) (by unfold ix;simp_all);unfold Qb at this;simp_all
theorem WI.start(h:DA wv):WI wv [] (Iu wv):=by
 have l:=Eh h;have b:=TL h;have j:=(RU h).2;have d:∀u,¬begB wv (Iu wv).df u:=λu ⟨a,k⟩=>by have:ix (Iu wv).df u=0:=ZP a;omega
 have f:wv.Aj.all (λc=>B4 c.dn wv.AK.length):=by have b:=(RU h).1;refine AAS.2 λx g=>?_;have:=AAS.1 b x g;unfold Qb at this;simp only[AAL]at this;exact this.1
 refine⟨?_,λu a=>ZP a,?_,⟨λu a=>?_,λi hi=>?_,λh=>absurd rfl h,λu a=>a.1⟩,λi hi _=>ZP hi⟩;unfold I4 HR Iu NH;simp[f];show(List.replicate wv.AB.length (0:Int)).sum=0;simp_all;show TI wv _ _ u (ix ((List.replicate wv.AB.length (⟨0,0,false⟩:AL)).set (0:Int).toNat ⟨1,0,false⟩) u);rw[Ms (As.2 an) am];by_cases e:u=0;rw[AAQ e];exact⟨ak,by simp[d],ak,ak,ak,ak⟩;rw[AAP e,ZP a];exact⟨ak,by simp[d],λh=>absurd h e,ak,ak,ak⟩;show LI wv _ i (ix (List.replicate wv.AK.length (⟨-1,[]⟩:AQ)) i);rw[ZP hi];exact⟨ak,ak,ak,ak⟩
variable{pre:jo}
theorem WI.next{e:AH}(D:∀o,B4 o wv.Aj.length->(ix wv.AK (ix wv.Aj o).dn).RW=false)(h:WI wv pre s)(G:pre.length<=100000)(C:ET wv s e):WI wv (pre++[e]) (Dd wv s e):=by
 have q:=C;unfold ET at q;simp only[AAL]at q;obtain⟨B,n,l,_,_,_⟩:=q;obtain⟨f1,f2,f3,f4⟩:=Hq B;obtain⟨I,J,K⟩:=Dn f1;have E:=Kn pre e.cT;have v:=h.c e.cT n;have w:A9 (ix s.df e.cT+1)=((Jj pre e.cT).length:Int)+1:=by rw[v,CY ah ah]
 have r:∀u,B4 u wv.AB.length->ix (Dd wv s e).df u=if u=e.cT then((Jj pre e.cT).length:Int)+1 else ix s.df u:=by intro u f;show ix (s.df.set e.cT.toNat _) u=_;rw[Ms am am,w]
 refine⟨?_,λu f=>?_,?_,?_,λi hi hd=>?_⟩;have:=Y8 f1 e.cT e.da e.di (if e.da=18 then e.dm else -1);unfold I4 Dd;grind;rw[r u f,OH];by_cases j:u=e.cT;simp_all;rw[AAP j,AAP (λh=>j h.symm),h.c u f];show(s.df.set e.cT.toNat _).sum=_;have hi:=As.1 n;have:ix s.df e.cT=s.df.getD e.cT.toNat 0:=(by unfold ix;rw[List.getD_eq_getElem?_getD];rfl);rw[sum_set ah,h.m,w,<- this,v];simp;omega;refine(h.y.apply D l (wake:=if e.da=18 then e.dm else -1)).congr λu=>?_;constructor;rintro⟨f,k⟩;rw[r u f]at k;by_cases j:u=e.cT;omega;rw[AAP j]at k;exact .inl ⟨f,k⟩;rintro(⟨f,k⟩|rfl);refine⟨f,?_⟩;grind;refine⟨n,?_⟩;grind;(. (unfold CN at l;simp only[AAL]at l;obtain⟨_,_,t,E⟩:=l;have x:(DP wv s.dc e.cT e.da e.di (if e.da=18 then e.dm else -1)).1.Bs=if e.da=22 then s.dc.Bs.set e.di.toNat true else s.dc.Bs:=by unfold DP;by_cases g:e.da=22;simp[g];(. (rw[AAP g,AAP g];have key:∀(p:Prop) [Decidable p] (a b:AP×Int),a.1.Bs=s.dc.Bs->b.1.Bs=s.dc.Bs->(if p then a else b).1.Bs=s.dc.Bs:=by intro p _ a b t F;split<;>assumption);(repeat' refine key _ _ _ ?_ ?_);all_goals first|rfl| (by_cases z:CO e.di 0 s.dc.AB=[]<;>simp only[z,AAq,AAd]<;>rfl)));(have hd:ix (if e.da=22 then s.dc.Bs.set e.di.toNat true else s.dc.Bs) i=false:=by rw[<- x];exact hd);show ix (if e.da=22 then s.AM.set e.di.toNat e.dm else s.AM) i=0;by_cases g:e.da=22;rw[AAQ g]at hd |-;have H:B4 e.di wv.AM.length:=(by simpa[A8,g]using t);rw[Ms am am]at hd;rw[Ms am am];by_cases j:i=e.di;simp_all;rw[AAP j]at hd |-;exact h.d i hi hd;rw[AAP g]at hd |-;exact h.d i hi hd)
def Gm(f:j4):Nat->Nat->Bool|_,0=>true|i,k+1=>f i&&Gm f (i+1) k
variable{p:j4}
theorem I8:∀{k i:Nat},Gm p i k=true↔∀j,i<=j->j<i+k->p j=true|0,i=>by simp[Gm];omega|k+1,i=>by unfold Gm;rw[AAL,I8];grind
theorem Yn(f g:j4):∀k i:Nat,Gm (λj=>f j&&g j) i k=(Gm f i k&&Gm g i k)|0,i=>rfl|k+1,i=>by unfold Gm;rw[Yn f g k (i+1)];grind
def I1(c:iT)(t:Int):Bool:=B4 t c.length&&decide (1<=ix c t)
def Lm(w:AF):Bool:=Gm (λi=>decide (0<=ix w.de.df i)&&decide (ix w.de.df i<=400)) 0 w.de.df.length&&(w.eu==w.de.df.sum&&decide (w.de.df.sum+w.AA.length<=400))
def Vz(x:AL):Bool:=x.dh==3||x.dh==4
def Ox(w:AF)(i:Nat)(x:AL):Bool:=(decide (0<=x.dh)&&decide (x.dh<=5))&&((decide (x.dh<=1)==(ix w.de.df i==0))&&(!(i==0&&x.dh==0)&&(if Vz x=true then B4 x.DS w.db.Aj.length else x.DS==0)))
def YK(w:AF)(i:Nat)(x:AL):Bool:= !Vz x||(ix w.de.dc.AK (ix w.db.Aj x.DS).dn).Bw != (i:Int)
def Ns(w:AF)(i:Nat)(x:AL):Bool:= !x.dy||I1 w.de.df i
def I7(c:iT):Int->List Int->Bool|_,[]=>true|last,t::r=>decide (last<t)&&(I1 c t&&I7 c t r)
def Ny(w:AF)(i:Nat)(x:AQ):Bool:=(x.Bw== -1||I1 w.de.df x.Bw)&&((x.Ae.isEmpty||((ix w.db.AK i).RW&&x.Bw== -1))&&I7 w.de.df (-1) x.Ae)
def txW(w:AF):Bool:=w.de.dc.Tx== -1||I1 w.de.df w.de.dc.Tx
def eF(w:AF)(i:Nat):Bool:=ix w.de.dc.Bs i||ix w.de.AM i==0
def JW(c:Int)(reads:kj)(k:Int):Bool:=decide (k<c)||NK reads (k-c)
def bZ(c:iT)(pre:jo)(x:AH):Bool:=x.D4.all (JW (ix c x.cT) (Jj pre x.cT))&&x.DL.all (JW (ix c x.cT) (Jj pre x.cT))
def XU(wv:AG)(c:iT):List AH->AD->List AH->Bool|_,_,[]=>true|pre,s,x::r=>ET wv s x&&(bZ c pre x&&XU wv c (pre++[x]) (Dd wv s x) r)
abbrev JJ(w:AF)(i:Nat):AL:=ix w.de.dc.AB i
def T4(w:AF):Bool:=Lm w&&(Gm (λi=>Ox w i (JJ w i)) 0 w.de.dc.AB.length&&(Gm (λi=>YK w i (JJ w i)) 0 w.de.dc.AB.length&&(Gm (λi=>Ny w i (ix w.de.dc.AK i)) 0 w.de.dc.AK.length&&(txW w&&(Gm (λi=>Ns w i (JJ w i)) 0 w.de.dc.AB.length&&Gm (eF w) 0 w.de.AM.length)))))
def KG(w:AF):Bool:=DA w.db&&(I4 w.db w.de&&(decide (w.AA.length<=16)&&(T4 w&&XU w.db w.de.df [] w.de w.AA)))
theorem readers_ok:∀(l:iT)(a:Int),(∀t∈l,I1 c t)->(∀t∈l,a<t)->l.Pairwise (· < ·)->I7 c a l:=by intro l;induction l with|nil=>exactλ_ _ _ _=>rfl|cons x r ih=>intro a d e b;obtain⟨f,g⟩:=List.pairwise_cons.1 b;unfold I7;simp_all
theorem begun_iff(h:s.df.length=wv.AB.length):I1 s.df u=true↔begB wv s.df u:=by unfold I1 begB;simp_all
theorem rdB_app(a b:jo)(t:Int):Jj (a++b) t=Jj a t++Jj b t:=by unfold Jj;simp_all
variable{B F:kj}
theorem isIn_new(h:NK (B++F) o):JW B.length F o:=by unfold JW;by_cases f:o<(B.length:Int);simp[f];unfold NK at h |-;simp only[AAL]at h;have d:=As.1 h.1;simp only[AA1]at d;have e:B4 (o-B.length) F.length:=As.2 ah;have c:=h.2;unfold ix at c;rw[AAu ah,show o.toNat-B.length=(o-(B.length:Int)).toNat from by omega]at c;rw[e];unfold ix;grind
variable{pre0:jo}
theorem posW_ok(e:∀u,B4 u wv.AB.length->ix c u=((Jj pre0 u).length:Int)):∀(l pre:jo)(s:AD),(G3 wv (pre0++pre) s l).2=0->XU wv c pre s l:=by intro l;induction l with|nil=>exactλ_ _ _=>rfl|cons x r ih=>intro pre s h;rw[G3]at h;split at h;rename_i a;rw[AAL]at a;rw[ABL]at h;unfold XU;rw[a.1,ih _ _ h];have g:=Lp a.1;have b:=a.2;unfold UI at b;unfold bZ;rw[rdB_app,AAL]at b;rw[e _ g];have key:∀D:List Int,D.all (NK (Jj pre0 x.cT++Jj pre x.cT))->D.all (JW ((Jj pre0 x.cT).length:Int) (Jj pre x.cT)):=λD d=>AAS.2 λk f=>isIn_new (AAS.1 d k f);grind;cases h
theorem valid_of(I:DA wv)(h:WI wv pre s){l:jo}(G:l.length<=16)(hn:pre.length+l.length<=400)(J:(G3 wv pre s l).2=0):KG ⟨wv,(pre.length:Int),s,l⟩:=by
 obtain⟨f1,f2,f3,f4⟩:=Hq h.f;obtain⟨N,O,P⟩:=Dn f1;have g:∀j:Nat,j<wv.AB.length->B4 (j:Int) wv.AB.length:=λj k=>As.2 ah;have C:∀u,B4 u wv.AB.length->0<=ix s.df u/\ix s.df u<=pre.length:=λu H=>by have:=Kn pre u;rw[h.c u H];omega
 have v:∀{u},begB wv s.df u->I1 s.df u:=λh=>(begun_iff f4).2 h;unfold KG T4;simp only[I,h.f,AAj,AAL,AAe];refine⟨G,⟨?_,?_,?_,?_,?_,?_,?_⟩,posW_ok (pre0:=pre) h.c l [] s am⟩;unfold Lm;simp only[AAL,AAe,AAb];refine⟨I8.2 λj _ k=>?_,h.m.symm,by rw[h.m];omega⟩;grind;refine I8.2 λj _ k=>?_;have i:j<wv.AB.length:=ah;have T:=h.y.t j (g j i);have B:=T.b;unfold begB at B;rw[g j i]at B;have:=C j (g j i);have F:=T.s;unfold Ox JJ;simp only;generalize ix s.dc.AB (j:Int)=x at T B F |-;generalize K:ix s.df (j:Int)=q at B this |-;simp only[AAL,AAe];refine⟨F,?_,?_,?_⟩;grind;have M:=T.z;grind;unfold Vz;by_cases E:x.dh=3\/x.dh=4;rw[AAQ am];exact(T.c E).1;rw[AAP am];simpa using T.n ah ah;refine I8.2 λj _ k=>?_;have i:j<wv.AB.length:=ah;have T:=h.y.t j (g j i);unfold YK JJ Vz;simp only;generalize ix s.dc.AB (j:Int)=x at T |-;by_cases E:x.dh=3\/x.dh=4;have:=(T.c E).2;simp[this];simp_all;refine I8.2 λj _ k=>?_;have i:j<wv.AK.length:=ah;have L:=h.y.l j (As.2 ah);unfold Ny;simp only;generalize ix s.dc.AK (j:Int)=x at L |-;simp only[AAL,AAo,AAb];refine⟨?_,?_,readers_ok _ _ (λt D=>v (L.r t D)) (λt D=>?_) L.p⟩;by_cases e:x.Bw= -1;omega;exact .inr (v (L.o e));by_cases e:x.Ae=[];simp_all;exact .inr (L.w e);have:=(As.1 (L.r t D).1).1;omega;unfold txW;simp only[AAo,AAb];by_cases e:s.dc.Tx= -1;omega;exact .inr (v (h.y.x e));(refine I8.2 λj _ k=>?_;have i:j<wv.AB.length:=ah;have T:=h.y.t j (g j i);unfold Ns JJ;simp only;generalize ix s.dc.AB (j:Int)=x at T |-;cases ha:x.dy with|false=>rfl|true=>exact v (T.b.2 (T.a ha)));refine I8.2 λj _ k=>?_;have i:j<wv.AM.length:=ah;unfold eF;simp only;cases hd:ix s.dc.Bs (j:Int)with|true=>rfl|false=>simpa using h.d j (As.2 ah) hd
def Jr(t:Cu)(n:Nat):AD:=(t.AA.take n).foldl (Dd t.db) (Iu t.db)
variable{t:Cu}
theorem Sk(h:n<t.AA.length):Jr t (n+1)=Dd t.db (Jr t n) t.AA[n]:=by unfold Jr;rw[<- AAn h,List.foldl_append];rfl
theorem yC(d:DA t.db)(g:t.AA.length<=400)(e:G3 t.db [] (Iu t.db) t.AA=(0,0)):∀n,n<=t.AA.length->WI t.db (t.AA.take n) (Jr t n)/\G3 t.db (t.AA.take n) (Jr t n) (t.AA.drop n)=(0,0):=by have f:=TL d;intro n;induction n with|zero=>intro _;exact⟨WI.start d,e⟩|succ n ih=>intro hn;obtain⟨a,b⟩:=ih ah;rw[ABH ah,G3]at b;split at b;rename_i c;rw[AAL]at c;rw[Sk ah,<- AAn ah];exact⟨a.next f an c.1,b⟩;simp_all
theorem checkL_pre:∀(a b:jo) pre s,G3 wv pre s (a++b)=(0,0)->G3 wv pre s a=(0,0):=by intro a;induction a with|nil=>intro b pre s _;rfl|cons x r ih=>intro b pre s h;rw[AA3,G3]at h;rw[G3];grind
def winS(t:Cu)(size i:Nat):AF:=⟨t.db,(i:Int),Jr t i,(t.AA.drop i).take size⟩
variable{k:Nat}
theorem winS_valid(c:DA t.db)(f:t.AA.length<=400)(e:G3 t.db [] (Iu t.db) t.AA=(0,0))(g:k<=16)(hi:n<=t.AA.length):KG (winS t k n):=by obtain⟨a,b⟩:=yC c f e n hi;have d:G3 t.db (t.AA.take n) (Jr t n) ((t.AA.drop n).take k)=(0,0):=checkL_pre _ ((t.AA.drop n).drop k) _ _ (by rw[ABY];exact b);have:=valid_of c a (l:=(t.AA.drop n).take k) an an (by rw[d]);rw[ABg,Nat.min_eq_left hi]at this;exact this
theorem Kd{L:Nat->Int->ABm Bool}{R:ABm Bool}(b:∀(n i:Nat),i<k->L (n+1) (i:Int)=if p i=true then L n ((i+1:Nat):Int)else some false)(a:∀n,L (n+1) (k:Int)=R):∀n i:Nat,i<=k->k<n+i->L n (i:Int)=if Gm p i (k-i)=true then R else some false|0,i,h1,h2=>ah|n+1,i,h1,h2=>by by_cases hi:i<k;(rw[b n i hi,show k-i=(k-(i+1))+1 from by omega,Gm];cases hp:p i with|false=>rfl|true=>rw[AAQ rfl,AAj,Kd b a n (i+1) ah ah]);have:i=k:=ah;subst this;rw[a,Nat.sub_self];rfl
def AAB(w:AF)(i:Nat):Bool:=decide (0<=ix w.de.df i)&&decide (ix w.de.df i<=400)
theorem XP(w:AF)(b:w.de.df.length<=4):∀(n i:Nat)(c:Int),i<=w.de.df.length->w.de.df.length<n+i->0<=c->c<=400*i->CT.AU w n c (i:Int)=if Gm (AAB w) i (w.de.df.length-i)=true then CT.J2 w (c+(w.de.df.drop i).sum)else some false|0,i,c,h1,h2,h3,h4=>ah|n+1,i,c,h1,h2,h3,h4=>by unfold CT.AU CT.L1;by_cases hi:i<w.de.df.length;rw[Ay ah,Be hi,AAK,show w.de.df.length-i=(w.de.df.length-(i+1))+1 from by omega,Gm,DQ hi,List.sum_cons];unfold AAB CT.J1;rw[CH hi];generalize w.de.df[i]=d;by_cases a:d<0;grind;rw[AR a];by_cases g2:d>400;grind;rw[show decide (d>400)=false from by simp_all,AAP ak,CY ah ah,AW ah,XP w b n (i+1) _ ah ah ah ah,show decide (0<=d)=true from by simp;omega,show decide (d<=400)=true from by simp;omega,Int.add_assoc];rfl;rw[AR ah,EW hi,List.sum_nil,Int.add_zero,show w.de.df.length-i=0 from by omega];rfl
theorem XF(w:AF)(b:w.de.df.length<=4):∀(n i:Nat)(c:Int),i<=w.de.df.length->w.de.df.length<n+i->0<=c->c<=400*i->FZ.AU w n c (i:Int)=CT.AU w n c (i:Int)|0,i,c,h1,h2,h3,h4=>ah|n+1,i,c,h1,h2,h3,h4=>by unfold FZ.AU FZ.L1 CT.AU CT.L1;by_cases hi:i<w.de.df.length;rw[Ay ah,Ay ah,Be hi,AAK,AAK];unfold FZ.J1 CT.J1;rw[Be hi,AAK];generalize w.de.df[i]=d;by_cases a:d<0;simp_all;rw[AR a,AR a];by_cases g2:d>400;simp_all;rw[show decide (d>400)=false from by simp_all,AAP ak,AAP ak,CY ah ah,AW ah,XF w b n (i+1) _ ah ah ah ah];rw[AR ah,AR ah];rfl
theorem Y3(w:AF)(e:w.de.df.length<=4)(k:w.AA.length<=16):CT w=some (Lm w):=by
 have i:=BN;unfold CT;have:=XP w e BQ 0 0 ah ah ah ah;rw[Int.natCast_zero]at this;rw[this,Nat.sub_zero,AAr,Int.zero_add];unfold Lm;change (if Gm (AAB w) 0 _=true then _ else _)=some (Gm (AAB w) 0 _&&_);cases ha:Gm (AAB w) 0 w.de.df.length with
 |false=>rfl
 |true=>
  rw[AAQ rfl,AAj];unfold CT.J2 CT.J3;have m:0<=w.de.df.sum/\w.de.df.sum<=1600:=by(have c:=I8.1 ha;have key:∀l:List Int,(∀x∈l,0<=x/\x<=400)->0<=l.sum/\l.sum<=400*l.length:=by intro l;induction l with|nil=>grind|cons x l ih=>intro h;have a:=h x ak;have b:=ih λy g=>h y (by simp[g]);grind);(have:=key w.de.df λx f=>by obtain⟨j,d,rfl⟩:=ABR f;have:=c j ah ah;unfold AAB at this;rw[CH d]at this;simp_all);omega
  rw[CY ah ah];grind
theorem uU(w:AF)(a:w.de.df.length<=4)(b:w.AA.length<=16):FZ w=some (Lm w):=by rw[<- Y3 w a b];exact XF w a BQ 0 0 ah aS ah ah
variable{P:Int->Prop}
theorem pU(f:∀x,x<0->P x)(g:∀x,5<x->P x)(a0:P 0)(a:P 1)(b:P 2)(c:P 3)(d:P 4)(e:P 5)(x:Int):P x:=aA
structure WinF (w:AF):Prop where
 v:DA w.db=true
 f:I4 w.db w.de=true
 e:w.AA.length<=16
structure NO (w:AF):Prop where
 s:Small w.db
 l:w.de.dc.AK.length=w.db.AK.length
 d:w.de.dc.Bs.length=w.db.AM.length
 t:w.de.dc.AB.length=w.db.AB.length
 u:w.de.AM.length=w.db.AM.length
 c:w.de.df.length=w.db.AB.length
 m:∀o,B4 o w.db.Aj.length=true->B4 (ix w.db.Aj o).dn w.db.AK.length=true
variable{w:AF}
theorem WinF.l(h:WinF w):NO w:=by obtain⟨f1,f2,f3,f4⟩:=Hq h.f;obtain⟨b,c,d⟩:=Dn f1;exact⟨Eh h.v,b,c,d,f3,f4,λo a=>Fg f1 a⟩
theorem kZ(h:NO w)(n i:Nat)(hi:i<w.de.dc.AB.length):BP.AU w (n+1) (i:Int)=if(Ox w i (JJ w i)&&YK w i (JJ w i))=true then BP.AU w n ((i+1:Nat):Int)else some false:=by
 have f:=h.s.t;have g:=h.t;have j:=h.c;rw[BP.AU];unfold BP.L1 JJ;rw[Ay ah,Be hi,AAK,CH hi];generalize w.de.dc.AB[i]=x;unfold BP.J1 BP.J2 BP.J3 BP.J4 BP.J5;rw[AW ah];generalize BP.AU w n ((i+1:Nat):Int)=R;rw[Bv (l:=w.de.df) (As.2 ah)];simp only[AAK,AAq,AAd,AAU];unfold Ox YK Vz;have e:((i:Int)==0)=(i==0):=by rw[Bool.eq_iff_iff,AAb,AAb];omega
 rw[e];generalize (ix w.de.df (i:Int)==0)=c;have d:(if decide (x.DS<0)=true then some false else if decide (x.DS>=(w.db.Aj.length:Int))=true then some false else
  (gt w.db.Aj x.DS).bind λl=>(gt w.de.dc.AK l.dn).bind λo=>if(o.Bw==(i:Int))=true then some false else R)=
  if(B4 x.DS w.db.Aj.length&&(ix w.de.dc.AK (ix w.db.Aj x.DS).dn).Bw != (i:Int))=true then R else some false:=by
  by_cases b:x.DS<0;rw[Ay b,show B4 x.DS w.db.Aj.length=false from by rw[Bool.eq_false_iff];intro h;have:=As.1 h;omega];rfl;rw[AR b];by_cases g2:x.DS>=(w.db.Aj.length:Int);rw[Ay g2,show B4 x.DS w.db.Aj.length=false from by rw[Bool.eq_false_iff];intro h;have:=As.1 h;omega];rfl;have a:B4 x.DS w.db.Aj.length:=As.2 ah;rw[AR g2,Bv a,AAK,Bv (by rw[h.l];exact h.m _ a),AAK,a,AAj];simp_all
 generalize x.DS=co at d |-;generalize x.dh=st;revert st;refine pU ?_ ?_ ?_ ?_ ?_ ?_ ?_ ?_;all_goals grind
def XK(i:Int)(n:Nat):Li i (n:Int)=some (B4 i n):=Oo i n
theorem vB(h:NO w)(n i:Nat)(hi:i<w.de.dc.AB.length):CR.AU w (n+1) (i:Int)=if Ox w i (JJ w i)=true then CR.AU w n ((i+1:Nat):Int)else some false:=by
 have d:=h.s.t;have e:=h.t;have f:=h.c;rw[CR.AU];unfold CR.L1 JJ;unfold CR.J1 CR.J2 CR.J3 CR.J4;rw[Ay ah,Be hi,CH hi];generalize w.de.dc.AB[i]=x;rw[AW ah];generalize CR.AU w n ((i+1:Nat):Int)=R;rw[Bv (l:=w.de.df) (As.2 ah)];simp only[AAK,AAq,AAd,AAU,XK];unfold Ox Vz;have a:((i:Int)==0)=(i==0):=by rw[Bool.eq_iff_iff,AAb,AAb];omega
 rw[a];generalize (ix w.de.df (i:Int)==0)=c;generalize B4 x.DS w.db.Aj.length=b;generalize x.DS=co;generalize x.dh=st;revert st;refine pU ?_ ?_ ?_ ?_ ?_ ?_ ?_ ?_;all_goals grind
theorem Rx(w:AF)(t:Int):CM t w=some (I1 w.de.df t):=by unfold CM CM.J1 I1;by_cases h:B4 t w.de.df.length=true;have:=As.1 h;rw[Ay ah,Ay ah,Bv h,h];rfl;rw[show B4 t w.de.df.length=false from by grind];by_cases g:t>=0;rw[Ay g,AR (λk=>h (As.2 ⟨g,k⟩))];rfl;grind
theorem Ru(w:AF)(t:Int):Fj w t=some (I1 w.de.df t):=by unfold Fj Fj.J1 I1;rw[XK,AAK];cases h:B4 t w.de.df.length with|true=>rw[AAQ rfl,Bv h];rfl|false=>rfl
theorem p5(w:AF)(x:AQ)(c:x.Ae.length<=4611686018427387904)(L1:i6)(b:Int):∀(n e:Nat)(f:Int),e<=x.Ae.length->x.Ae.length<n+e->Ai.B9 L1 b w x n f (e:Int)=if I7 w.de.df f (x.Ae.drop e)=true then L1 (A9 (b+1))else some false|0,e,f,h1,h2=>ah|n+1,e,f,h1,h2=>by unfold Ai.B9 Ai.L2;by_cases a:e<x.Ae.length;(rw[Ay ah,Be a,AAK,DQ a,I7,Rx,AAK];unfold Ai.J3;by_cases g:x.Ae[e]<=f;grind;rw[AR g,show decide (f<x.Ae[e])=true from by grind,AAj,AW ah];cases I1 w.de.df x.Ae[e]with|false=>rfl|true=>rw[AAP ak,AAj];exact p5 w x c L1 b n (e+1) _ ah ah);rw[AR ah,EW a];rfl
theorem oU(w:AF)(x:AQ)(c:x.Ae.length<=4611686018427387904)(L1:i6)(b:Int):∀(n e:Nat)(f:Int),e<=x.Ae.length->x.Ae.length<n+e->(∀(h:0<e)(i:e-1<x.Ae.length),f=x.Ae[e-1])->(e=0->f= -1)->BC.B9 L1 b w x n (e:Int)=if I7 w.de.df f (x.Ae.drop e)=true then L1 (A9 (b+1))else some false|0,e,f,h1,h2,_,_=>ah|n+1,e,f,h1,h2,h3,h4=>by unfold BC.B9 BC.L2;by_cases a:e<x.Ae.length;(rw[Ay ah,Be a,AAK,DQ a,I7,Ru,AAK];unfold BC.J2;have j:=oU w x c L1 b n (e+1) x.Ae[e] ah ah (λ_ _=>rfl) cm;cases hb:I1 w.de.df x.Ae[e]with|false=>simp_all|true=>have d:=As.1 (AAL _ _▸hb).1;rw[AAP ak,AW ah,AAj];by_cases g:0<e;rw[Ay ah,CY ah ah,show(e:Int)-1=((e-1:Nat):Int)from by omega,Be ah,AAK,<- h3 g ah];grind;grind);rw[AR ah,EW a];rfl
theorem W8(l:List a):decide ((l.length:Int)>0)= !l.isEmpty:=by cases l<;>simp<;>omega
theorem vT(h:NO w)(c:RB 4611686018427387904 w.de.dc)(n i:Nat)(hi:i<w.de.dc.AK.length):Ai.AU w (n+1) (i:Int)=if Ny w i (ix w.de.dc.AK i)=true then Ai.AU w n ((i+1:Nat):Int)else some false:=by have d:=h.s.l;have e:=h.l;rw[Ai.AU];unfold Ai.L1;rw[Ay ah,Be hi,AAK,CH hi,Rx,AAK];have b:=c _ (AAW hi);generalize w.de.dc.AK[i]=x at b |-;unfold Ai.J1 Ai.J2;have a:=p5 w x b (Ai.AU w n) i BQ 0 (-1) ah aS;rw[Int.natCast_zero,AAr,AW ah]at a;rw[a,W8,Bv (As.2 ah),AAK];generalize Ai.AU w n ((i+1:Nat):Int)=R;unfold Ny;grind
theorem u9(h:NO w)(c:RB 4611686018427387904 w.de.dc)(n i:Nat)(hi:i<w.de.dc.AK.length):BC.AU w (n+1) (i:Int)=if Ny w i (ix w.de.dc.AK i)=true then BC.AU w n ((i+1:Nat):Int)else some false:=by have d:=h.s.l;have e:=h.l;rw[BC.AU];unfold BC.L1;rw[Ay ah,Be hi,AAK,CH hi,Ru,AAK];have b:=c _ (AAW hi);generalize w.de.dc.AK[i]=x at b |-;unfold BC.J1;have a:=oU w x b (BC.AU w n) i BQ 0 (-1) ah aS cm (λ_=>rfl);rw[Int.natCast_zero,AAr,AW ah]at a;rw[a,W8,Bv (As.2 ah),AAK];generalize BC.AU w n ((i+1:Nat):Int)=R;unfold Ny;grind
theorem vR(h:NO w)(n i:Nat)(hi:i<w.de.dc.AB.length):Ai.Fw w (n+1) (i:Int)=if Ns w i (JJ w i)=true then Ai.Fw w n ((i+1:Nat):Int)else some false:=by have a:=h.s.t;have b:=h.t;rw[Ai.Fw];unfold Ai.L3 Ai.J7 JJ Ns;rw[Ay ah,Be hi,AAK,CH hi,Rx,AAK,AW ah];grind
theorem uT(h:NO w)(n i:Nat)(hi:i<w.de.dc.AB.length)(c:Ox w i (JJ w i)):BC.Fw w (n+1) (i:Int)=if(Ns w i (JJ w i)&&YK w i (JJ w i))=true then BC.Fw w n ((i+1:Nat):Int)else some false:=by
 have e:=h.s.t;have f:=h.t;rw[BC.Fw];unfold BC.L3 BC.J6 BC.J7;unfold Ox at c;unfold JJ at c |-;unfold Ns YK;rw[Ay ah,Be hi,AAK,CH hi,Ru,AAK,AW ah];rw[CH hi]at c;generalize BC.Fw w n ((i+1:Nat):Int)=R;generalize w.de.dc.AB[i]=x at c |-;simp only[AAL]at c;obtain⟨_,_,_,b⟩:=c;unfold Vz at b |-;have d:∀(a:Bool),(if(!a)=true then some false else if(x.dh==3)=true then(gt w.db.Aj x.DS).bind λz=>(gt w.de.dc.AK z.dn).bind λq=>if(q.Bw==(i:Int))=true then some false else R
  else if(x.dh==4)=true then(gt w.db.Aj x.DS).bind λz=>(gt w.de.dc.AK z.dn).bind λq=>if(q.Bw==(i:Int))=true then some false else R else if false=true then some false else R)=
  if(a&&(!(x.dh==3||x.dh==4)||(ix w.de.dc.AK (ix w.db.Aj x.DS).dn).Bw != (i:Int)))=true then R else some false:=by
  intro a;cases a with|false=>rfl|true=>rw[AAP ak,AAj];cases g3:x.dh==3 with|true=>rw[g3]at b;have b:B4 x.DS w.db.Aj.length:=(by simpa using b);rw[AAQ rfl,Bv b,AAK,Bv (by rw[h.l];exact h.m _ b),AAK];simp_all|false=>cases g4:x.dh==4 with|true=>rw[g3,g4]at b;have b:B4 x.DS w.db.Aj.length:=(by simpa using b);rw[AAP ak,AAQ rfl,Bv b,AAK,Bv (by rw[h.l];exact h.m _ b),AAK];simp_all|false=>rfl
 grind
theorem vfut_step(h:NO w)(n i:Nat)(hi:i<w.de.AM.length):B8.AU w.de (n+1) (i:Int)=if eF w i=true then B8.AU w.de n ((i+1:Nat):Int)else some false:=by have a:=h.s.f;have b:=h.d;have c:=h.u;rw[B8.AU];unfold B8.L1 B8.J1 eF;rw[Ay ah,Bv (As.2 ah),AAK,Bv (As.2 ah),AAK,AW ah];grind
theorem rfut_step(h:NO w)(n i:Nat)(hi:i<w.de.AM.length):CD.AU w (n+1) (i:Int)=if eF w i=true then CD.AU w n ((i+1:Nat):Int)else some false:=by have a:=h.s.f;have b:=h.d;have c:=h.u;rw[CD.AU];unfold CD.L1 CD.J2 eF;rw[Ay ah,Bv (As.2 ah),AAK,Bv (As.2 ah),AAK,AW ah];grind
theorem iteB(b:Bool):(if b=true then some true else some false)=some b:=aA
theorem p6(h:NO w):BP w=some (Gm (λi=>Ox w i (JJ w i)) 0 w.de.dc.AB.length&&Gm (λi=>YK w i (JJ w i)) 0 w.de.dc.AB.length):=by have a:=h.s.t;have b:=h.t;have c:=BN;rw[<- Yn,<- iteB];exact Kd (L:=BP.AU w) (R:=some true) (λn i hi=>kZ h n i hi) (λn=>by rw[BP.AU];unfold BP.L1;rw[AR ah];rfl) BQ 0 ah ah
theorem jY(h:NO w):CR w=some (Gm (λi=>Ox w i (JJ w i)) 0 w.de.dc.AB.length):=by have a:=h.s.t;have b:=h.t;have c:=BN;rw[<- iteB];exact Kd (L:=CR.AU w) (R:=some true) (λn i hi=>vB h n i hi) (λn=>by rw[CR.AU];unfold CR.L1;rw[AR ah];rfl) BQ 0 ah ah
theorem pZ(h:NO w)(b:RB 4611686018427387904 w.de.dc):Ai w=some (Gm (λi=>Ny w i (ix w.de.dc.AK i)) 0 w.de.dc.AK.length&&(txW w&&Gm (λi=>Ns w i (JJ w i)) 0 w.de.dc.AB.length)):=by
 have c:=h.s.l;have d:=h.l;have e:=h.s.t;have f:=h.t;have j:=BN;have a:Ai.Fw w BQ 0=some (Gm (λi=>Ns w i (JJ w i)) 0 w.de.dc.AB.length):=by rw[<- iteB];exact Kd (L:=Ai.Fw w) (R:=some true) (λn i hi=>vR h n i hi) (λn=>by rw[Ai.Fw];unfold Ai.L3;rw[AR ah];rfl) BQ 0 ah ah
 have g:Ai.J5 w=some (txW w&&Gm (λi=>Ns w i (JJ w i)) 0 w.de.dc.AB.length):=by unfold Ai.J5 Ai.J6 txW;rw[a,Rx,AAK];unfold bne;cases w.de.dc.Tx== -1<;>cases I1 w.de.df w.de.dc.Tx<;>rfl
 refine(Kd (L:=Ai.AU w) (R:=Ai.J5 w) (λn i hi=>vT h b n i hi) (λn=>by rw[Ai.AU];unfold Ai.L1;simp_all) BQ 0 ah ah).trans ?_;grind
variable{q:j4}
theorem loop_all'{L:Nat->Int->ABm Bool}{R:ABm Bool}(b:Gm q 0 k)(c:∀(n i:Nat),i<k->q i->L (n+1) (i:Int)=if p i=true then L n ((i+1:Nat):Int)else some false)(a:∀n,L (n+1) (k:Int)=R):∀n i:Nat,i<=k->k<n+i->L n (i:Int)=if Gm p i (k-i)=true then R else some false:=Kd (λn i hi=>c n i hi (I8.1 b i ah ah)) a
theorem oT(h:NO w)(c:RB 4611686018427387904 w.de.dc)(d:Gm (λi=>Ox w i (JJ w i)) 0 w.de.dc.AB.length):BC w=some (Gm (λi=>Ny w i (ix w.de.dc.AK i)) 0 w.de.dc.AK.length&&(txW w&&(Gm (λi=>Ns w i (JJ w i)) 0 w.de.dc.AB.length&&Gm (λi=>YK w i (JJ w i)) 0 w.de.dc.AB.length))):=by
 have e:=h.s.l;have f:=h.l;have g:=h.s.t;have j:=h.t;have m:=BN;have a:BC.Fw w BQ 0=some (Gm (λi=>Ns w i (JJ w i)) 0 w.de.dc.AB.length&&Gm (λi=>YK w i (JJ w i)) 0 w.de.dc.AB.length):=by rw[<- Yn,<- iteB];exact loop_all' (L:=BC.Fw w) (R:=some true) d (λn i hi b=>uT h n i hi b) (λn=>by rw[BC.Fw];unfold BC.L3;rw[AR ah];rfl) BQ 0 ah ah
 have k:BC.J4 w=some (txW w&&(Gm (λi=>Ns w i (JJ w i)) 0 w.de.dc.AB.length&&Gm (λi=>YK w i (JJ w i)) 0 w.de.dc.AB.length)):=by unfold BC.J4 BC.J5 txW;rw[a,Ru,AAK];unfold bne;cases w.de.dc.Tx== -1<;>cases I1 w.de.df w.de.dc.Tx<;>rfl
 refine(Kd (L:=BC.AU w) (R:=BC.J4 w) (λn i hi=>u9 h c n i hi) (λn=>by rw[BC.AU];unfold BC.L1;simp_all) BQ 0 ah ah).trans ?_;grind
theorem pY(h:NO w):B8 w.de=some (Gm (eF w) 0 w.de.AM.length):=by have a:=h.s.f;have b:=h.d;have c:=h.u;have e:=BN;rw[<- iteB];exact Kd (L:=B8.AU w.de) (R:=some true) (λn i hi=>vfut_step h n i hi) (λn=>by rw[B8.AU];unfold B8.L1;rw[AR ah];rfl) BQ 0 ah ah
theorem oS(h:NO w):CD.AU w BQ 0=if Gm (eF w) 0 w.de.AM.length=true then CD.J3 w else some false:=by have a:=h.s.f;have b:=h.d;have c:=h.u;have e:=BN;exact Kd (L:=CD.AU w) (R:=CD.J3 w) (λn i hi=>rfut_step h n i hi) (λn=>by rw[CD.AU];unfold CD.L1;simp_all) BQ 0 ah ah
theorem jH:∀(D:iT)(a:Int),F9 o a D->∀k∈D,a<k/\k<o:=by intro D;induction D with|nil=>simp_all|cons x r ih=>intro a h k b;unfold F9 at h;grind
variable{x:AH}
theorem Oc(h:ET wv s x):(∀k∈x.D4,1<=k/\k<ix s.df x.cT)/\∀k∈x.DL,1<=k/\k<ix s.df x.cT:=by unfold ET Ed at h;simp only[AAL]at h;obtain⟨_,_,_,_,⟨⟨_,b⟩,_,c⟩,_⟩:=h;exact⟨λk a=>by have:=jH _ _ b k a;omega,λk a=>by have:=jH _ _ c k a;omega⟩
theorem oH:∀(l:iT)(a:Int),a<c.length->I7 c a l->(l.length:Int)+a+1<=c.length:=by intro l;induction l with|nil=>grind|cons t r ih=>intro a h b;unfold I7 I1 at b;simp only[AAL,AAe]at b;have d:=As.1 b.2.1.1;grind
theorem RB_of(h:NO w)(b:Gm (λi=>Ny w i (ix w.de.dc.AK i)) 0 w.de.dc.AK.length):RB 4 w.de.dc:=by intro x d;obtain⟨j,a,rfl⟩:=ABR d;have:=I8.1 b j ah ah;unfold Ny at this;rw[CH a]at this;simp only[AAL]at this;have:=oH _ _ ah this.2.2;have e:=h.s.t;have f:=h.c;omega
def CI(c:iT)(nt:Nat)(pre:jo)(s:AD):Prop:=s.df.length=nt/\∀u,B4 u nt->ix s.df u=ix c u+((Jj pre u).length:Int)
theorem CI.next(h:CI c k pre s)(a:B4 x.cT k)(d:∀u,B4 u k->0<=ix c u/\ix c u<=400)(l:pre.length<=1000):CI c k (pre++[x]) (Dd wv s x):=by refine⟨by simpa[Dd]using h.1,λu b=>?_⟩;obtain⟨g,i⟩:=As.1 a;obtain⟨j,nt⟩:=As.1 b;rw[OH];show ix (s.df.set x.cT.toNat (A9 (ix s.df x.cT+1))) u=_;have m:=d _ a;have f:=h.2 _ a;have hn:=Kn pre x.cT;by_cases e:x.cT=u;subst e;rw[AAQ rfl];unfold ix;rw[AAR (by have:=h.1;omega)];show A9 (ix s.df x.cT+1)=ix c x.cT+_;rw[f,CY ah ah];grind;rw[AAP e,<- h.2 u b];unfold ix;grind
section
variable{w:AF}
theorem pos.L3(L2:i6)(l:iT)(R:jb)(t:Int)(x:AH)(g:l.length<4611686018427387904)(f:∀k∈l,1<=k/\k<1000000)(d:gt R x.cT=some B)(e:gt w.de.df x.cT=some (ix w.de.df x.cT))(b:0<=ix w.de.df x.cT/\ix w.de.df x.cT<=400):∀(n i:Nat),i<=l.length->l.length<n+i->A7.Fw L2 l R t w x n (i:Int)=if(l.drop i).all (JW (ix w.de.df x.cT) B)=true then L2 (A9 (t+1))else some false|0,i,h1,h2=>ah|n+1,i,h1,h2=>by rw[A7.Fw];unfold A7.L3;by_cases hi:i<l.length;unfold A7.J2;have j:=f _ (AAW hi);rw[Ay ah,Be hi,AAK,e,AAK,DQ hi,AW ah,pos.L3 L2 l R t x g f d e b n (i+1) ah ah,AA8,d,AAK];generalize l[i]=k at j |-;generalize (l.drop (i+1)).all (JW (ix w.de.df x.cT) B)=q;generalize ix w.de.df x.cT=c at b |-;rw[CY ah ah];unfold JW NK;by_cases m:k<c;grind;rw[Ay ah,show decide (k<c)=false from by simp_all];by_cases a:k-c>=(B.length:Int);rw[Ay a,show B4 (k-c) B.length=false from by simp[B4];omega];rfl;have h:B4 (k-c) B.length:=br;rw[AR a,Bv h,AAK,h];grind;rw[AR ah,EW hi];rfl
theorem pos.L2(L1:AD->List (List Bool)->Int->ABm Bool)(R:jb)(t:Int)(v:mc)(x:AH)(b:K3 x)(hd:∀k∈x.D4,1<=k/\k<1000000)(f:∀k∈x.DL,1<=k/\k<1000000)(d:gt R x.cT=some B)(e:gt w.de.df x.cT=some (ix w.de.df x.cT))(c:0<=ix w.de.df x.cT/\ix w.de.df x.cT<=400):A7.B9 L1 R t v w x BQ 0=if(x.D4.all (JW (ix w.de.df x.cT) B)&&x.DL.all (JW (ix w.de.df x.cT) B))=true then A7.J4 L1 R t v x else some false:=by
 have n:=BN;have a:∀L1 t l,l.length<4611686018427387904->(∀k∈l,1<=k/\k<1000000)->A7.J1 L1 R t w x l=if l.all (JW (ix w.de.df x.cT) B)=true then L1 (A9 (t+1))else some false:=by intro L1 t l h g;have:=pos.L3 L1 l R t x h g d e c BQ 0 ah ah;rw[AAr]at this;exact this
 rw[cC];generalize BQ-3=m;have j:A7.B9 L1 R t v w x (m+1) 2=A7.J4 L1 R t v x:=by rw[A7.B9];unfold A7.L2;rfl
 have i:A7.B9 L1 R t v w x (m+2) 1=if x.DL.all (JW (ix w.de.df x.cT) B)=true then A7.J4 L1 R t v x else some false:=by rw[A7.B9];unfold A7.L2;rw[Ay bk,AAP bk,AAQ bk,a _ _ _ b.2 f,show A9 (1+1)=2 from rfl,j]
 rw[A7.B9];unfold A7.L2;rw[Ay bk,AAQ bk,a _ _ _ b.1 hd,show A9 (0+1)=1 from rfl,i];grind
theorem oB(h:NO w)(r:w.AA.length<=16)(l:∀e∈w.AA,K3 e)(f:∀u,B4 u w.db.AB.length->0<=ix w.de.df u/\ix w.de.df u<=400):∀(n i:Nat)(s:AD)(R:jb),i<=w.AA.length->w.AA.length<n+i->RB (4+i) s.dc->R.length=w.db.AB.length->(∀u:Nat,u<R.length->R[u]? =some (Jj (w.AA.take i) (u:Int)))->CI w.de.df w.db.AB.length (w.AA.take i) s->A7.AU w n s R (i:Int)=some (XU w.db w.de.df (w.AA.take i) s (w.AA.drop i))|0,i,s,R,h1,h2,_,_,_,_=>ah|n+1,i,s,R,h1,h2,h3,h4,h5,h6=>by rw[A7.AU];unfold A7.L1;by_cases hi:i<w.AA.length;(have o:=l _ (AAW hi);rw[Ay ah,Be hi,AAK,dY w.db h.s s (h3.mono ah) _ o,AAK,DQ hi,XU];unfold QV;cases hp:ET w.db s w.AA[i]with|false=>rfl|true=>rw[AAQ rfl,AAP (c:=(!true)=true) ak,AAj];have a:=Lp hp;obtain⟨q,z⟩:=As.1 a;have v:w.AA[i].cT.toNat<R.length:=ah;have m:gt R w.AA[i].cT=some (Jj (w.AA.take i) w.AA[i].cT):=(by unfold gt;rw[AAQ q,h5 _ v];congr 2;omega);have y:=Kn (w.AA.take i) w.AA[i].cT;rw[List.length_take_of_le ah]at y;have g:=f _ a;have t:=h6.2 _ a;obtain⟨B,C⟩:=Oc hp;rw[pos.L2 _ _ _ _ _ o (λk d=>aA) (λk d=>aA) m (Bv (by rw[h.c];exact a)) g];change (if bZ w.de.df (w.AA.take i) w.AA[i]=true then _ else _)=_;cases bZ w.de.df (w.AA.take i) w.AA[i]with|false=>rfl|true=>(unfold A7.J4;rw[AAQ rfl,m,AAK,Bg ah,Bg ah,AAj];unfold A7.J5 A7.J6;have d:∀b,b=lS w.AA[i]->A7.AU w n (Dd w.db s w.AA[i]) (R.set w.AA[i].cT.toNat (Jj (w.AA.take i) w.AA[i].cT++[b])) (A9 ((i:Int)+1))=some (XU w.db w.de.df (w.AA.take i++[w.AA[i]]) (Dd w.db s w.AA[i]) (w.AA.drop (i+1))):=by rintro b rfl;have j:=h6.next (wv:=w.db) a f an;rw[AW ah];rw[AAn hi]at j |-;refine oB h r l f n (i+1) _ _ ah ah ?_ am ?_ j;exact(h3.apply _ _ _ _ _).mono ah;intro u x;rw[<- AAn hi,OH];grind);by_cases p:w.AA[i].da=3;rw[AAQ (by simp[p])];exact d _ (by simp[lS,p]);rw[AAP am];exact d _ (by simp[lS,show(w.AA[i].da==3)=false by simp_all]));rw[AR ah,EW hi];rfl
theorem sN(h:NO w)(d:Lm w):∀u,B4 u w.db.AB.length->0<=ix w.de.df u/\ix w.de.df u<=400:=by intro u e;unfold Lm at d;simp only[AAL]at d;obtain⟨a,b⟩:=As.1 e;have f:=h.c;have:=I8.1 d.1 u.toNat ah ah;grind
theorem oC(h:NO w)(f:w.AA.length<=16)(b:∀e∈w.AA,K3 e)(d:Lm w)(g:RB 4 w.de.dc):A7 w=some (XU w.db w.de.df [] w.de w.AA):=by have i:=h.s.t;have j:=BN;unfold A7;rw[AAQ ⟨ah,ah,Cd ah⟩];have:=oB h f b (sN h d) BQ 0 w.de (List.replicate w.db.AB.length []) ah ah g ak (by intro u a;simp at a;simp[a,Jj]) ⟨h.c,λu _=>by simp[Jj]⟩;simp_all
end
variable{r y z C f g:Bool}
section
variable{w:AF}
theorem Yg(c:w.AA.length<=16)(t:Int):∀(n j d:Nat),j<=w.AA.length->w.AA.length<n+j->d<=1000000->∃r,IM.AU t w n (d:Int) (j:Int)=some r/\(match(Jj (w.AA.drop j) t)[d]? with
 |some b=>∃(e:Nat)(h:e<w.AA.length),r=(e:Int)/\lS w.AA[e]=b
 |none=>r= -1)
 |0,j,d,h1,h2,_=>ah
 |n+1,j,d,h1,h2,h3=>by rw[IM.AU];unfold IM.L1 IM.J1;by_cases a:j<w.AA.length;rw[Ay ah,Be a,AAK,DQ a,uV,AW ah];by_cases g:w.AA[j].cT=t;(rw[AAQ aA,AAQ g];cases d with|zero=>grind|succ d=>rw[AAP an,CY ah ah,show((d+1:Nat):Int)-1=(d:Int)from by omega,ABM];exact Yg c t n (j+1) d ah ah ah);rw[AAP aA,AAP g];exact Yg c t n (j+1) d ah ah h3;rw[AR ah,EW a];exact⟨_,rfl,rfl⟩
theorem XN(m:w.AA.length<=16)(l:iT)(t:Int)(hn:l.length<4611686018427387904)(j:∀k∈l,1<=k/\k<1000000)(h:gt w.de.df t=some (ix w.de.df t))(g:0<=ix w.de.df t/\ix w.de.df t<=400):∀(n i:Nat),i<=l.length->l.length<n+i->E9.AU l t w n (i:Int)=some ((l.drop i).all (JW (ix w.de.df t) (Jj w.AA t)))|0,i,h1,h2=>ah|n+1,i,h1,h2=>by rw[E9.AU];unfold E9.L1 E9.J1 E9.J2;by_cases hi:i<l.length;(have f:=j _ (AAW hi);rw[Ay ah,Be hi,AAK,h,AAK,DQ hi,AW ah,XN m l t hn j h g n (i+1) ah ah,AA8];generalize l[i]=k at f |-;generalize (l.drop (i+1)).all (JW (ix w.de.df t) (Jj w.AA t))=q;generalize ix w.de.df t=c at g |-;rw[CY ah ah];unfold JW NK;by_cases p:k<c;simp_all;rw[AR p,show decide (k<c)=false from by simp_all];obtain⟨r,o,d⟩:=Yg m t BQ 0 (k-c).toNat ah aS ah;rw[show(((k-c).toNat:Nat):Int)=k-c from by omega,show((0:Nat):Int)=0 from rfl]at o;rw[AAr]at d;unfold IM;rw[o,AAK,Bool.false_or];cases hb:(Jj w.AA t)[(k-c).toNat]? with|none=>rw[hb]at d;have a:=List.getElem?_eq_none_iff.1 hb;rw[show B4 (k-c) (Jj w.AA t).length=false from by simp[B4];omega];simp_all|some b=>rw[hb]at d;obtain⟨e,s,rfl,u⟩:=d;obtain⟨a,_⟩:=AAN.1 hb;rw[show B4 (k-c) (Jj w.AA t).length=true from by simp[B4];omega,AR ah,Be s,AAK];have f:ix (Jj w.AA t) (k-c)=b:=(by unfold ix;rw[hb];rfl);rw[f,<- u];unfold lS;grind);rw[AR ah,EW hi];rfl
theorem fU(d:w.AA.length<=16)(l:iT)(t:Int)(hn:l.length<4611686018427387904)(c:∀k∈l,1<=k/\k<1000000)(b:gt w.de.df t=some (ix w.de.df t))(a:0<=ix w.de.df t/\ix w.de.df t<=400):E9 w t l=some (l.all (JW (ix w.de.df t) (Jj w.AA t))):=by have:=XN d l t hn c b a BQ 0 ah aS;rw[AAr]at this;exact this
theorem fG{c:Int}(h:o<c+B.length):JW c (B++F) o=JW c B o:=by unfold JW NK;by_cases g:o<c;simp[g];have d:B4 (o-c) (B++F).length:=br;have e:B4 (o-c) B.length:=br;rw[d,e];unfold ix;grind
theorem fV(h:NO w)(l:w.AA.length<=16)(o:∀e∈w.AA,K3 e)(g:∀u,B4 u w.db.AB.length->0<=ix w.de.df u/\ix w.de.df u<=400):∀(n i:Nat)(s:AD),i<=w.AA.length->w.AA.length<n+i->RB (4+i) s.dc->CI w.de.df w.db.AB.length (w.AA.take i) s->CD.B9 w n s (i:Int)=some (XU w.db w.de.df (w.AA.take i) s (w.AA.drop i))|0,i,s,h1,h2,_,_=>ah|n+1,i,s,h1,h2,h3,h6=>by rw[CD.B9];unfold CD.L2 CD.J4;by_cases hi:i<w.AA.length;(have j:=o _ (AAW hi);rw[Ay ah,Be hi,AAK,Tp w.db h.s s (h3.mono ah) _ j,AAK,DQ hi,XU];unfold QV;cases hp:ET w.db s w.AA[i]with|false=>rfl|true=>(rw[AAQ rfl,AAP (c:=(!true)=true) ak,AAj];have f:=Lp hp;have a:=g _ f;have v:=h6.2 _ f;have x:=Kn (w.AA.take i) w.AA[i].cT;rw[List.length_take_of_le ah]at x;obtain⟨y,z⟩:=Oc hp;have b:gt w.de.df w.AA[i].cT=some (ix w.de.df w.AA[i].cT):=Bv (by rw[h.c];exact f);have key:∀D:List Int,(∀k∈D,1<=k/\k<ix s.df w.AA[i].cT)->D.all (JW (ix w.de.df w.AA[i].cT) (Jj w.AA w.AA[i].cT))=D.all (JW (ix w.de.df w.AA[i].cT) (Jj (w.AA.take i) w.AA[i].cT)):=by intro D q;have p:Jj w.AA w.AA[i].cT=Jj (w.AA.take i) w.AA[i].cT++Jj (w.AA.drop i) w.AA[i].cT:=(by rw[<- rdB_app,ABY]);rw[p,Bool.eq_iff_iff,AAS,AAS];constructor<;>intro r k d<;>have:=r k d<;>have t:=q k d;rwa [fG ah]at this;rwa [fG ah]);rw[fU l _ _ j.1 (λk d=>aA) b a,AAK,fU l _ _ j.2 (λk d=>aA) b a,AAK,key _ y,key _ z];unfold bZ;cases w.AA[i].D4.all (JW (ix w.de.df w.AA[i].cT) (Jj (w.AA.take i) w.AA[i].cT))with|false=>rfl|true=>cases w.AA[i].DL.all (JW (ix w.de.df w.AA[i].cT) (Jj (w.AA.take i) w.AA[i].cT))with|false=>rfl|true=>rw[AAP (c:=(!true)=true) ak,AAP (c:=(!true)=true) ak,AAj,AAj,AW ah];have m:=h6.next (wv:=w.db) f g an;rw[AAn hi]at m |-;exact fV h l o g n (i+1) _ ah ah ((h3.apply _ _ _ _ _).mono ah) m);rw[AR ah,EW hi];rfl
theorem vK{e:Bool}:(r&&(y&&(z&&(C&&(e&&(f&&g))))))=(r&&((y&&z)&&((C&&(e&&f))&&g))):=aA
theorem yS(f:∀e∈w.AA,K3 e)(g:RB 4611686018427387904 w.de.dc):Fe w=some (KG w):=by unfold Fe KG;rw[Vu,AAK];cases hv:DA w.db with|false=>rfl|true=>have d:=Eh hv;rw[AAQ rfl,AAj];have a:JK w.db w.de=some (I4 w.db w.de):=NJ _ d _;rw[a,AAK];cases hf:I4 w.db w.de with|false=>rfl|true=>rw[AAQ rfl,AAj];by_cases b:w.AA.length<=16;(have h:NO w:=WinF.l ⟨hv,hf,b⟩;rw[Ay ah,show decide (w.AA.length<=16)=true from by simp_all,AAj,Y3 w (by have:=d.t;have:=h.c;omega) b,AAK];unfold T4;rw[vK,p6 h,AAK,pZ h g,AAK,pY h,AAK];cases hc:Lm w with|false=>rfl|true=>rw[AAQ rfl,AAj];cases(Gm (λi=>Ox w i (JJ w i)) 0 w.de.dc.AB.length&&Gm (λi=>YK w i (JJ w i)) 0 w.de.dc.AB.length)with|false=>rfl|true=>rw[AAQ rfl,AAj];cases hL:(Gm (λi=>Ny w i (ix w.de.dc.AK i)) 0 w.de.dc.AK.length&&(txW w&&Gm (λi=>Ns w i (JJ w i)) 0 w.de.dc.AB.length))with|false=>rfl|true=>rw[AAL]at hL;rw[AAQ rfl,AAj,oC h b f hc (RB_of h hL.1)];cases Gm (eF w) 0 w.de.AM.length<;>rfl);rw[AR ah,show decide (w.AA.length<=16)=false from by simp_all];rfl
theorem rValid_eq(d:∀e∈w.AA,K3 e)(g:RB 4611686018427387904 w.de.dc):CD w=some (KG w):=by unfold CD KG;rw[NA,AAK];cases hv:DA w.db with|false=>rfl|true=>have b:=Eh hv;rw[AAP (c:=(!true)=true) ak,AAj,Sy _ b,AAK];cases hf:I4 w.db w.de with|false=>rfl|true=>rw[AAP (c:=(!true)=true) ak,AAj];by_cases a:w.AA.length<=16;(have h:NO w:=WinF.l ⟨hv,hf,a⟩;rw[AR ah,show decide (w.AA.length<=16)=true from by simp_all,AAj,uU w (by have:=b.t;have:=h.c;omega) a,AAK,jY h,AAK];unfold T4;cases hc:Lm w with|false=>rfl|true=>rw[AAP (c:=(!true)=true) ak,AAj];cases hs:Gm (λi=>Ox w i (JJ w i)) 0 w.de.dc.AB.length with|false=>rfl|true=>rw[AAP (c:=(!true)=true) ak,AAj,oT h g hs,AAK];unfold CD.J1;rw[oS h];cases hL:Gm (λi=>Ny w i (ix w.de.dc.AK i)) 0 w.de.dc.AK.length with|false=>simp_all|true=>have f:CD.J3 w=some (XU w.db w.de.df [] w.de w.AA):=(by have:=fV h a d (sN h hc) BQ 0 w.de ah aS (RB_of h hL) ⟨h.c,λu _=>by simp[Jj]⟩;rw[List.take_zero,AAr]at this;exact this);rw[f];cases Gm (λi=>YK w i (JJ w i)) 0 w.de.dc.AB.length<;>cases txW w<;>cases Gm (λi=>Ns w i (JJ w i)) 0 w.de.dc.AB.length<;>cases Gm (eF w) 0 w.de.AM.length<;>rfl);rw[Ay ah,show decide (w.AA.length<=16)=false from by simp_all];rfl
end
theorem zT(wv:AG)(l:jo):∀pre s,G3 wv pre s l=(0,0)\/(G3 wv pre s l).2=12/\(pre.length:Int)<=(G3 wv pre s l).1:=by induction l with|nil=>exactλ_ _=>.inl rfl|cons x r ih=>intro pre s;unfold G3;split;refine(ih (pre++[x]) _).imp id λh=>⟨h.1,?_⟩;have:=h.2;simp at this |-;omega;exact .inr ⟨rfl,ak⟩
structure AT (t:Cu):Prop where
 w:DA t.db=true
 l:t.AA.length<=400
 c:G3 t.db [] (Iu t.db) t.AA=(0,0)
 e:∀e∈t.AA,K3 e
theorem AT.of(a:∀e∈t.AA,K3 e)(h:(Ma t).2=0):AT t:=by unfold Ma at h;split at h;cases h;split at h;(rename_i c b;rcases zT t.db t.AA [] (Iu t.db)with hc|⟨hc,_⟩);exact⟨b,ah,hc,a⟩;rw[hc]at h;cases h;cases h
theorem AT.check(h:AT t):Ma t=(0,0):=by unfold Ma;rw[AAP (by have:=h.l;omega),AAQ h.w,h.c]
theorem AT.poss(h:AT t)(hi:k<t.AA.length):ET t.db (Jr t k) t.AA[k]:=by obtain⟨_,b⟩:=yC h.w h.l h.c k ah;rw[ABH hi,G3]at b;split at b;rename_i a;rw[AAL]at a;exact a.1;exact absurd (congrArg Prod.snd b) (λh:(12:Int)=0=>by cases h)
theorem AT.rb:∀i,i<=t.AA.length->RB i (Jr t i).dc|0,_=>RB.start _|i+1,hi=>by rw[Sk ah];exact(AT.rb i ah).apply _ _ _ _ _
theorem AT.step{t:Cu}(h:AT t){i:Nat}(hi:i<t.AA.length):QV t.db (Jr t i) t.AA[i]=(Jr t (i+1),true):=by unfold QV;rw[AAQ (h.poss hi),Sk hi]
theorem AT.vstep(h:AT t)(hi:k<t.AA.length):CF t.db (Jr t k) t.AA[k]=some (Jr t (k+1),true):=by rw[dY _ (Eh h.w) _ ((AT.rb k ah).mono (by have:=h.l;omega)) _ (h.e _ (AAW hi)),h.step hi]
theorem AT.rstep(h:AT t)(hi:k<t.AA.length):CC t.db (Jr t k) t.AA[k]=some (Jr t (k+1),true):=by rw[Tp _ (Eh h.w) _ ((AT.rb k ah).mono (by have:=h.l;omega)) _ (h.e _ (AAW hi)),h.step hi]
theorem rK(h:AT t)(a:k<=t.AA.length):∀(n i:Nat),i<=k->k<n+i->He.AU (k:Int) t n (Jr t i) (i:Int)=some (Jr t k)|0,i,h1,h2=>ah|n+1,i,h1,h2=>by have c:=h.l;rw[He.AU];unfold He.L1;by_cases hi:i<k;rw[Ay ah,Be ah,AAK,h.rstep ah,AAK,AW ah];exact rK h a n (i+1) ah ah;have:i=k:=ah;subst this;rw[AR ah];rfl
theorem after_eq(h:AT t)(a:k<=t.AA.length):He t (k:Int)=some (Jr t k):=by unfold He;rw[PZ _ (Eh h.w),AAK];exact rK h a BQ 0 ah (by have:=BN;have:=h.l;omega)
def Ev400(e:AH):Prop:=e.D4.length<=1000/\e.DL.length<=1000
theorem nX:∀(D:iT)(a:Int),a<o->F9 o a D->(D.length:Int)+a+1<=o:=by intro D;induction D with|nil=>intro a h _;simp;omega|cons x r ih=>intro a h hn;unfold F9 at hn;simp only[AAL,AAe]at hn;have:=ih x hn.2.1 hn.2.2;simp only[ABJ];omega
theorem AT.ev(h:AT t)(m:x∈t.AA):Ev400 x:=by
 obtain⟨i,hi,rfl⟩:=ABR m;obtain⟨a,_⟩:=yC h.w h.l h.c i ah;have b:=h.poss hi;have k:=a.c _ (Lp b);have n:=Kn (t.AA.take i) t.AA[i].cT;have o:=h.l;rw[List.length_take_of_le ah]at n;unfold ET Ed at b;simp only[AAL]at b;obtain⟨_,_,_,_,⟨⟨_,d⟩,_,f⟩,_⟩:=b;rw[k]at d f;have key:∀D:List Int,F9 ((Jj (t.AA.take i) t.AA[i].cT).length:Int) 0 D->D.length<=1000:=by intro D g;cases D with|nil=>simp|cons e r=>(have j:0<((Jj (t.AA.take i) t.AA[i].cT).length:Int):=by have:=jH _ _ g e ak;omega);have:=nX _ _ j g;omega
 exact⟨key _ d,key _ f⟩
def winN(k i:Nat):Nat:=(i+k-1)/k
theorem winN_in(a:0<k)(q r:Nat)(b:0<r)(c:r<=k):winN k (q*k+r)=q+1:=by unfold winN;rw[show q*k+r+k-1=k*q+(r-1+k)from by rw[ABZ];omega,Nat.mul_add_div a,Nat.add_div_right _ a,Nat.div_eq_of_lt ah]
theorem winN_le(a:0<k)(i:Nat):winN k i<=i+k:=by unfold winN;exact ABF (Nat.div_le_self _ _) ah
def XW(t:Cu)(k i:Nat):List AF:=(List.range (winN k i)).map λj=>winS t k (j*k)
theorem yH(t:Cu)(k i:Nat):(XW t k i).length=winN k i:=by simp[XW]
def range_snoc(n:Nat):List.range (n+1)=List.range n++[n]:=List.range_succ
theorem slice_eq(hi:n<=pre.length):(pre.drop n).take (((if(pre.length:Int)<(n:Int)+(k:Int)then(pre.length:Int)else(n:Int)+(k:Int)).toNat)-n)=(pre.drop n).take k:=by split;rw[AAw ak,AAw an];rw[show((n:Int)+(k:Int)).toNat-n=k from by omega]
def splitS(t:Cu)(size:Int):List AF×Int:=if(Ma t).2≠0 then([],12)else if size<1\/size>16 then([],1)else(XW t size.toNat t.AA.length,0)
theorem oV(h:AT t)(a:0<k)(f:k<=16):∀(n j:Nat),j*k<t.AA.length+k->t.AA.length+k<n+j*k->Gh.AU (k:Int) t n ((List.range j).map λj=>winS t k (j*k)) ((j*k:Nat):Int)=some (XW t k t.AA.length,0)
 |0,j,h1,h2=>ah
 |n+1,j,h1,h2=>by
  have o:=h.l;rw[Gh.AU];unfold Gh.L1;have m:j<=j*k:=Nat.le_mul_of_pos_right j a;have b:(j+1)*k=j*k+k:=Nat.succ_mul j k;have c:t.AA.length<=j*k->winN k t.AA.length=j:=by intro hi;cases j with|zero=>have g:t.AA.length=0:=ah;rw[g];unfold winN;exact Nat.div_eq_of_lt ah|succ j=>have p:(j+1)*k=j*k+k:=Nat.succ_mul j k;have:=winN_in a j (t.AA.length-j*k) ah ah;rw[show j*k+(t.AA.length-j*k)=t.AA.length from by omega]at this;exact this
  generalize d:j*k=i at*;by_cases hi:i<t.AA.length;rw[Ay ah,after_eq h ah,AAK,CY (n:=(i:Int)+(k:Int)) ah ah,AAi,slice_eq ah,AAQ (by split<;>omega),Bg an];have e:((List.range j).map λj=>winS t k (j*k))++[AF.mk t.db (i:Int) (Jr t i) ((t.AA.drop i).take k)]=(List.range (j+1)).map λj=>winS t k (j*k):=(by rw[range_snoc,AA0,List.map_singleton,d];rfl);rw[e];have:=oV h a f n (j+1) ah ah;rw[b]at this;exact this;rw[AR ah];unfold Gh.J2 XW;rw[c ah]
theorem rSplit_eq(t:Cu)(d:∀e∈t.AA,K3 e)(n:Int):Gh t n=some (splitS t n):=by unfold Gh splitS;rw[rCheck_eq t d,AAK];by_cases a:(Ma t).2=0;have h:=AT.of d a;rw[AAP (c:=((Ma t).2 != 0)=true) (by simp[a]),AAP (c:=(Ma t).2≠0) (by simp[a])];unfold Gh.J1;by_cases b:n<1;rw[Ay b,AAQ rfl,AAQ (.inl b)];rw[AR b];by_cases g2:n>16;rw[AAQ (by simpa using g2),AAQ (.inr g2)];rw[AAP (by simpa using g2),AAP ah];have:=oV h (k:=n.toNat) ah ah BQ 0 ah (by have:=BN;have:=h.l;omega);rw[show((n.toNat:Nat):Int)=n from by omega,Nat.zero_mul]at this;exact this;rw[AAQ (c:=((Ma t).2 != 0)=true) (by simp[a]),AAQ (c:=(Ma t).2≠0) a]
def cN:ABn:=⟨#[99]⟩
def noE:BU:=⟨0,0,⟨#[]⟩,[]⟩
def nmF(T:lr)(o:Int)(s a:ABn)(i:List BU):Prop:=(o=1->i=[]->s∈vN)/\(o=4->s=⟨#[109]⟩\/s=⟨#[110]⟩)/\(o=5\/o=6->s=⟨#[114]⟩)/\(o=12\/o=13->T s)/\(o=14->s=⟨#[102]⟩)/\(o=15->s=⟨#[97]⟩/\a=⟨#[102]⟩)
def bdF(o:Int)(b e:kh):Prop:=(o∉[(2:Int),3,4,5,6,7,8]->b=[])/\(o≠2->e=[])
def Kx(T:lr):Nat->AX->Prop|0,_=>False|n+1,s=>(1<=s.Op/\s.Op<=15)/\(s.d6=[]\/s.Op=1/\s.dq=qS/\∃a,s.d6=[a]/\bY 2 a)/\(bY 2 s.du\/s.Op∉[(1:Int),2,3,14]/\s.du=noE)/\(s.Op∈[(9:Int),10,11]->s.dq=cN)/\s.dz.length<=4/\s.ea.length<=4/\(∀x∈s.dz,Kx T n x)/\(∀x∈s.ea,Kx T n x)/\bdF s.Op s.dz s.ea/\nmF T s.Op s.dq s.e6 s.d6
structure MK (H:Nat) (m:AO):Prop where
 t:FG m.t
 h:m.eb.length<=H/\H<=500
structure MD (m m':AO):Prop where
 t:FG m'.t
 h:m'.eb=m.eb
variable{m D:AO}
theorem o6.keep(h:o6 m D):MD m D:=⟨h.1,by rw[h.2]⟩
theorem MD.mk'(b:MK k m)(h:MD m D):MK k D:=⟨h.t,by rw[h.h];exact b.h⟩
variable{E:AO}
def MD.trans{c:AO}(h:MD m E)(g:MD E c):MD m c:=⟨g.t,g.h.trans h.h⟩
def okL(T:lr)(k:Nat)(l:kh):Prop:=l.length<=2/\∀x∈l,Kx T k x
variable{T:lr}
theorem S9{s:ABn}{e:BU}(h:bY 2 e)(a:s∈vN)(k:Nat):Kx T (k+1) ⟨1,0,s,⟨#[]⟩,[],e,[],[]⟩:=⟨⟨ak,ak⟩,.inl rfl,.inl h,ak,ak,ak,ak,ak,⟨λ_=>rfl,λ_=>rfl⟩,λ_ _=>a,ak,ak,ak,ak,ak⟩
theorem Zj{l:Int}{s a:ABn}(h:1<=o/\o<=15)(b:o∉[(1:Int),2,3,14])(c:o∈[(9:Int),10,11]->s=cN)(d:nmF T o s a []):Kx T (k+1) ⟨o,l,s,a,[],noE,[],[]⟩:=⟨h,.inl rfl,.inr ⟨b,rfl⟩,c,ak,ak,ak,ak,⟨λ_=>rfl,λ_=>rfl⟩,d⟩
theorem bN{s a:ABn}(i:o∈[(2:Int),3,4,5,6,7,8])(h:1<=o/\o<=15)(d:o∉[(1:Int),2,3,14])(e:o∉[(9:Int),10,11])(f:nmF T o s a []){b:kh}(g:b.length<=4)(c:∀x∈b,Kx T k x):Kx T (k+1) ⟨o,u,s,a,[],noE,b,[]⟩:=⟨h,.inl rfl,.inr ⟨d,rfl⟩,λh=>absurd h e,g,ak,c,ak,⟨λh=>absurd i h,λ_=>rfl⟩,f⟩
variable{v:j7}
section
variable{T:lr}{R158:AO->ABn->Int->ABm (List AX×AO)}{R86:AO->Int->Int->ABm (List AX×AO)}{depth:Int}{nested:Bool}{k H:Nat}
structure Yj (T:ABn->Prop) (R158:AO->ABn->Int->ABm (List AX×AO)) (R86:AO->Int->Int->ABm (List AX×AO)) (depth:Int) (k H:Nat):Prop where
 d:0<=depth/\depth<100
 b:0<depth->∀m s,MK H m->CX (R158 m s (depth-1)) λr=>okL T (k+1) r.1/\MD m r.2
 s:0<depth->∀m d n,MK H m->(d=0\/d=depth-1)->(n=1\/n=2)->CX (R86 m d n) λr=>okL T (k+1) r.1/\MD m r.2
abbrev Good(T:lr)(k:Nat)(m:AO)(r:AX×AO):Prop:=Kx T (k+2) r.1/\MD m r.2
theorem J12_tot{m:AO}(a:MK H m)(b:Bool):CX (Bn.gN m b) (Good T k m):=by unfold Bn.gN F8;refine tI (λ_=>tR ⟨Zj bk bk bk (by simp[nmF]),a.t,rfl⟩) λ_=>?_;refine tB (QS (.inr rfl) a.t) ?_;rintro e ⟨c,d⟩;exact tR ⟨S9 c (uG bk) _,d.keep⟩
theorem qP{m:AO}(a:MK H m)(v:j7)(b:Bool):CX (Bn.P9 m v b) (Good T k m):=by unfold Bn.P9;refine tI (λ_=>?_) λ_=>tI (λ_=>tI (λ_=>?_) λ_=>J12_tot a _) λ_=>J12_tot a _;refine tB (QS (.inr rfl) a.t) ?_;rintro e ⟨d,c⟩;exact tR ⟨⟨⟨ak,ak⟩,.inl rfl,.inl d,ak,ak,ak,ak,ak,⟨λ_=>rfl,λ_=>rfl⟩,by simp[nmF]⟩,c.1,by rw[c.2]⟩;refine tB (KA a.t ah) ?_;rintro e ⟨_,c⟩;exact tM (J12_tot (k:=k) (m:={m with t:=e.2}) ⟨c,a.h⟩ _) λr h=>⟨h.1,h.2.t,h.2.h⟩
theorem J10_tot{m:AO}(a:MK H m)(v:j7)(b:Bool):CX (Bn.OE v m b) (Good T k m):=by unfold Bn.OE;refine tI (λ_=>?_) λ_=>tI (λ_=>tI (λ_=>tI (λ_=>qP a _ _) λ_=>qP a _ _) λ_=>qP a _ _) λ_=>qP a _ _;refine tB (KA a.t ah) ?_;rintro e ⟨f,d⟩;refine tR ⟨bN bk bk bk bk (by simp[nmF]) ak ?_,d,rfl⟩;intro x c;simp only[AAg]at c;subst c;rw[CY ah ah];refine Zj ah ?_ (λ_=>rfl) ⟨ah,ah,ah,ah,ah,ah⟩;simp;omega
theorem J9_tot{m:AO}(a:MK H m)(v:j7)(b:Bool):CX (Bn.J9 nested v m b) (Good T k m):=by unfold Bn.J9 KM F8;refine tI (λ_=>?_) λ_=>tI (λ_=>tI (λ_=>?_) λ_=>J10_tot a _ _) λ_=>J10_tot a _ _;(simp only[AAK];refine tR ⟨bN bk bk bk bk (by simp[nmF]) ak ?_,a.t,rfl⟩;intro x c;simp only[AAk,List.not_mem_nil,ABB]at c;rcases c with rfl|rfl);exact Zj bk bk (λ_=>rfl) (by simp[nmF]);exact S9 (.inr (.inl ⟨rfl,rfl,uG bk⟩)) (uG bk) _;refine tB (bL (by have:=a.h;omega) _) ?_;rintro e rfl;exact J10_tot a _ _
theorem J8_tot(b:Yj T R158 R86 depth k H)(hn:nested=true->0<depth){m:AO}(a:MK H m)(v:j7)(i:g=true->0<depth):CX (Bn.J8 R86 depth m nested v g) (Good T k m):=by have hd:=b.d;unfold Bn.J8;refine tI (λh=>?_) λ_=>tI (λ_=>tI (λ_=>tI (λ_=>?_) λ_=>J9_tot a _ _) λ_=>J9_tot a _ _) λ_=>J9_tot a _ _;refine tB (b.s (i h) _ _ _ ⟨a.t,a.h⟩ (.inr (CY ah ah)) (.inr rfl)) ?_;rintro e ⟨c,f⟩;exact tR ⟨bN bk bk bk bk (by simp[nmF]) (by have:=c.1;omega) c.2,f.t,f.h⟩;refine tB (bL (by have:=a.h;omega) _) ?_;rintro e rfl;exact J9_tot a _ _
theorem J7_tot(d:Yj T R158 R86 depth k H)(hn:nested=true->0<depth){m:AO}(a:MK H m)(v:j7)(i:g=true->0<depth):CX (Bn.J7 R86 depth m nested v g) (Good T k m):=by unfold Bn.J7;refine tI (λh=>?_) λ_=>tI (λ_=>tI (λh=>J8_tot d hn a _ λ_=>hn h) λ_=>J8_tot d hn a _ ak) λ_=>J8_tot d hn a _ ak;refine tB (KA a.t ah) ?_;rintro b ⟨j,c⟩;refine tB (d.s (i h) {m with t:=b.2,tx:=true} _ _ ⟨c,a.h⟩ (.inl rfl) (by rw[CY (by omega) (by omega)];omega)) ?_;rintro e ⟨c,f⟩;exact tR ⟨bN bk bk bk bk (by simp[nmF]) (by have:=c.1;omega) c.2,f.t,f.h⟩
theorem J6_tot(c:Yj T R158 R86 depth k H)(hn:nested=true->0<depth){m:AO}(f:MK H m)(v:j7)(j:g=true->0<depth/\(v.1=10\/v.1=11)):CX (Bn.J6 R158 R86 depth nested v m g) (Good T k m):=by have hd:=c.d;unfold Bn.J6;refine tI (λh=>?_) λ_=>tI (λ_=>J7_tot c hn f _ hn) λ_=>J7_tot c hn f _ ak;obtain⟨i,a⟩:=j h;rw[CY (n:=depth-1) ah ah];refine tB (c.b i m _ f) ?_;rintro e ⟨b,g2⟩;refine tR ⟨?_,g2⟩;rcases a with a|a<;>rw[a]<;>exact bN bk bk bk bk (by first| (rw[show A9 (A9 ((10:Int)-10)+5)=5 from rfl];simp[nmF])| (rw[show A9 (A9 ((11:Int)-10)+5)=6 from rfl];simp[nmF])) (by have:=b.1;omega) b.2
theorem J5_tot(f:Yj T R158 R86 depth k H)(hn:nested=true->0<depth){m:AO}(a:MK H m)(v:j7)(s:g=true->0<depth/\(v.1=8\/v.1=9)):CX (Bn.J5 R158 R86 depth nested v m g) (Good T k m):=by
 have hd:=f.d;have t:=a.h;have o:∀{c:Bool}{i:Int},(v.1==i)->(i=10\/i=11)->nested=true->c=true->0<depth/\(v.1=10\/v.1=11):=λp q r _=>⟨hn r,am⟩;unfold Bn.J5;refine tI (λh=>?_) λ_=>tI (λb=>tI (λj=>?_) λ_=>J6_tot f hn a _ ak) λ_=>tI (λb=>tI (λj=>?_) λ_=>J6_tot f hn a _ ak) λ_=>J6_tot f hn a _ ak;obtain⟨p,q⟩:=s h;rw[CY (n:=depth-1) ah ah,CY ah ah];refine tG an λx u=>tB (f.b p m _ a) ?_;rintro e ⟨l,g2⟩;exact tR ⟨bN bk bk bk bk ⟨ak,λ_=>am,ak,ak,ak,ak⟩ (by have:=l.1;omega) l.2,g2⟩;all_goals
  refine tB (bL ah _) ?_;rintro e rfl;exact J6_tot f hn a _ (o b ah j)
theorem J4_tot(a:Yj T R158 R86 depth k H)(hn:nested=true->0<depth){m:AO}(l:MK H m)(q:FG v.2)(z:g=true->0<depth):CX (Bn.J4 R158 R86 depth m nested v g) (Good T k m):=by
 have hd:=a.d;have E:=l.h;have o:∀{c:Bool}{i:Int},(v.1==i)->(i=8\/i=9)->nested=true->c=true->0<depth/\(v.1=8\/v.1=9):=λC D u _=>⟨hn u,am⟩;have b:MK H (AO.mk v.2 m.CA (A9 (m.left-1)) m.Ik m.tx m.d9 m.ej m.eb):=⟨q,l.h⟩;have w:∀{r:AX×AO},Good T k (AO.mk v.2 m.CA (A9 (m.left-1)) m.Ik m.tx m.d9 m.ej m.eb) r->Good T k m r:=λh=>⟨h.1,h.2.t,h.2.h⟩;unfold Bn.J4;refine tI (λh=>?_) λ_=>tI (λj=>tI (λn=>?_) λ_=>tM (J5_tot a hn b _ ak) λ_=>w) λ_=>tI (λj=>tI (λn=>?_) λ_=>tM (J5_tot a hn b _ ak) λ_=>w) λ_=>tM (J5_tot a hn b _ ak) λ_=>w;unfold KM Lc Jm F8;simp only[AAK];refine tB (a.s (z h) _ _ _ ⟨q,l.h⟩ (.inr (CY ah ah)) (.inl rfl)) ?_;rintro e ⟨p,g2⟩;have:=p.1;refine tC (Cd ah) (tR ⟨⟨ak,.inl rfl,.inl ?_,ak,an,ak,?_,ak,⟨λh=>absurd ak h,λ_=>rfl⟩,by simp[nmF]⟩,g2.t,g2.h⟩);exact .inr (.inr (.inr ⟨ak,_,_,rfl,.inr (.inl ⟨rfl,rfl,uG bk⟩),.inl ⟨rfl,rfl⟩⟩));(intro x f;rcases AAc.1 f with f|f);exact p.2 x f;simp only[AAg]at f;subst f;exact S9 (.inr (.inr (.inr ⟨bk,_,_,rfl,.inr (.inl ⟨rfl,rfl,uG bk⟩),.inl ⟨rfl,rfl⟩⟩))) (uG bk) _;all_goals
  have y:=eq_of_beq j;rw[y];refine tG bk λx _=>tB (bL aA _) ?_;rintro e B;rw[B];exact tM (J5_tot a hn b _ (o j ah n)) λ_=>w
theorem J2_tot(a:Yj T R158 R86 depth k H)(hn:nested=true->0<depth){m:AO}(f:MK H m)(b:FG v.2)(z:g=true->0<depth):CX (Bn.J2 R158 R86 depth m nested v g) (Good T k m):=by have hd:=a.d;unfold Bn.J2 Bn.J3;refine tI (λh=>?_) λ_=>tI (λ_=>J4_tot a hn f b λh=>aA) λ_=>J4_tot a hn f b ak;have h:=z h;refine tB (QS (.inr rfl) (m:=AO.mk v.2 m.CA (A9 (m.left-1)) m.Ik m.tx m.d9 m.ej m.eb) b) ?_;rintro e ⟨o,y⟩;have p:=y.keep;have u:MK H (AO.mk v.2 m.CA (A9 (m.left-1)) m.Ik m.tx m.d9 m.ej m.eb):=⟨b,f.h⟩;rw[CY (n:=depth-1) ah ah];refine tB (a.s h _ _ _ (MD.mk' u p) (.inr rfl) (.inl rfl)) ?_;rintro w ⟨⟨w,j⟩,q⟩;refine tB (KA q.t ah) ?_;rintro c ⟨_,l⟩;have i:=q.h.trans p.h;refine tI (λ_=>?_) λ_=>tR ⟨⟨ak,.inl rfl,.inl o,ak,an,ak,j,ak,⟨λh=>absurd ak h,λ_=>rfl⟩,by simp[nmF]⟩,l,i⟩;refine tB (a.s h _ _ _ ⟨l,by rw[show _=m.eb from i];exact f.h⟩ (.inr rfl) (.inl rfl)) ?_;rintro d ⟨⟨B,x⟩,r⟩;exact tR ⟨⟨ak,.inl rfl,.inl o,ak,an,an,j,x,⟨λh=>absurd ak h,λh=>absurd rfl h⟩,by simp[nmF]⟩,r.t,r.h.trans i⟩
theorem J1_tot(l:Yj T R158 R86 depth k H)(hn:nested=true->0<depth){m:AO}(f:MK H m)(q:0<=v.1)(d:FG v.2):CX (Bn.J1 R158 R86 depth m v nested) (Good T k m):=by have j:MK H (AO.mk v.2 m.CA (A9 (m.left-1)) m.Ik m.tx m.d9 m.ej m.eb):=⟨d,f.h⟩;unfold Bn.J1 F8;refine tI (λh=>?_) λ_=>tI (λ_=>?_) λ_=>tI (λ_=>?_) λ_=>tI (λ_=>J2_tot l hn f d λh=>aA) λ_=>J2_tot l hn f d ak;have h:=AAV h;refine tG an λx i=>tB (QS (.inr rfl) j.t) ?_;rintro e ⟨b,a⟩;exact tR ⟨S9 b (qV bk i) _,a.keep.t,a.keep.h⟩;refine tB (KA d ah) ?_;rintro c ⟨n,o⟩;refine tG n λx i=>tB (QS (.inr rfl) o) ?_;rintro e ⟨b,a⟩;exact tR ⟨S9 b (qV bk i) _,a.keep.t,a.keep.h⟩;refine tB (QS (.inl rfl) j.t) ?_;rintro e ⟨b,a⟩;refine tB (QS (.inr rfl) a.keep.t) ?_;rintro g ⟨p,g2⟩;exact tR ⟨⟨ak,.inr ⟨rfl,rfl,_,rfl,b⟩,.inl p,ak,ak,ak,ak,ak,⟨λ_=>rfl,λ_=>rfl⟩,by simp[nmF]⟩,g2.keep.t,g2.keep.h.trans a.keep.h⟩
theorem stmt_tot(b:Yj T R158 R86 depth k H){m:AO}(a:MK H m):CX (Bn R158 R86 m depth) (Good T k m):=by unfold Bn;refine tB (KA a.t ah) ?_;rintro v ⟨c,d⟩;exact tI (λh=>tI (λ_=>J1_tot b (λ_=>aA) a c.1 d) λ_=>J1_tot b ak a c.1 d) λ_=>J1_tot b ak a c.1 d
end
section
variable{T:lr}
theorem stmts_tot{R:lx}(s:∀m,MK n m->CX (R m o) λr=>Kx T k r.1/\MD m r.2)(a:MK n m)(hn:0<=u/\u<=3):CX (DM R m o u) λr=>((r.1.length:Int)<=u/\∀x∈r.1,Kx T k x)/\MD m r.2:=by
 have j:=BN;have key:∀H (i:Nat) (d:AO) (l:kh),10<H+i->(i:Int)<=u->l.length<=i->(∀x∈l,Kx T k x)->MD m d->CX (DM.AU R o u H d l i) λr=>((r.1.length:Int)<=u/\∀x∈r.1,Kx T k x)/\MD m r.2:=by intro H;induction H with|zero=>omega|succ H ih=>(intro i d l v w y q f;have J:∀b,(b=true->(i:Int)<u)->CX (DM.J1 (DM.AU R o u H) R o i l d b) λr=>((r.1.length:Int)<=u/\∀x∈r.1,Kx T k x)/\MD m r.2:=by(intro b j;unfold DM.J1 DM.J2;refine tI (λh=>?_) λ_=>tR ⟨⟨aA,q⟩,f⟩;have h:=j h;refine tB (s _ (MD.mk' a f)) ?_;rintro e ⟨c,p⟩;refine tC (Cd ah) ?_;rw[AW ah];refine ih (i+1) _ _ ah ah an ?_ (f.trans p);intro x g;rcases AAc.1 g with g|g);grind;simp_all);unfold DM.AU DM.L1;grind
 exact key BQ 0 m [] ah ah ak ak ⟨a.t,rfl⟩
theorem okS_mono:∀{s:AX},Kx T n s->Kx T (n+1) s:=by induction n with|zero=>exactλh=>h.elim|succ n ih=>exactλ⟨h1,h2,h3,h4,h5,h6,h7,h8,h9⟩=>⟨h1,h2,h3,h4,h5,h6,λx a=>ih (h7 x a),λx a=>ih (h8 x a),h9⟩
theorem okS_le{b:Nat}(h:n<=b){s:AX}(c:Kx T n s):Kx T b s:=by induction h with|refl=>exact c|step _ ih=>exact okS_mono ih
theorem block_tot{R86:AO->Int->Int->ABm (List AX×AO)}(b:MK n m)(i:n<500)(s:ABn)(h:∀m H,MK (n+1) m->(H=1\/H=2)->CX (R86 m o H) λr=>okL T k r.1/\MD m r.2):CX (I2 R86 m s o) λr=>okL T k r.1/\MD m r.2:=by have j:=b.h;unfold I2;refine tC (Cd ah) (tB (KA b.t ah) ?_);rintro v ⟨l,g⟩;refine tB (h (AO.mk v.2 m.CA m.left m.Ik m.tx m.d9 m.ej (m.eb++[s])) _ ⟨g,an⟩ (by rw[CY (by omega) (by omega)];omega)) ?_;rintro e ⟨c,a⟩;have f:e.2.eb=m.eb++[s]:=a.h;simp only[f,AA1,ABJ,List.length_nil];rw[CY ah ah];refine tC ah (tR ⟨c,a.t,?_⟩);simp_all
theorem made0_tot{H:Nat}(c:H<500)(d:3<=n):(∀m,MK H m->CX (IK n m (0:Nat)) (Good T 0 m))/\∀m a,MK H m->0<=a/\a<=3->CX (FU (n+1) m (0:Nat) a) λr=>((r.1.length:Int)<=a/\∀x∈r.1,Kx T 2 x)/\MD m r.2:=by
 have key:∀m,MK H m->CX (IK n m (0:Nat)) (Good T 0 m):=by intro m b;obtain⟨n,rfl⟩:∃k,n=k+1:=⟨n-1,ah⟩;exact stmt_tot (R158:=MU n) (R86:=FU n) (H:=H) ⟨ah,λh=>by simp at h,λh=>by simp at h⟩ b
 exact⟨key,λm a b hn=>stmts_tot (R:=IK n) key b hn⟩
theorem made_tot(d:Nat):∀(H n:Nat),d<50->H+d<500->3*d+3<=n->(∀m,MK H m->CX (IK n m d) (Good T d m))/\∀m a,MK H m->0<=a/\a<=3->CX (FU (n+1) m d a) λr=>((r.1.length:Int)<=a/\∀x∈r.1,Kx T (d+2) x)/\MD m r.2:=by
 induction d with
 |zero=>exactλH n _ g i=>made0_tot ah ah
 |succ d ih=>
  intro H n o g i;have sub:∀(f c:Nat)(m:AO)(e a:Int),f<=H+1->3*d+4<=c->MK f m->(e=0\/e=((d+1:Nat):Int)-1)->(a=1\/a=2)->CX (FU c m e a) λr=>okL T (d+2) r.1/\MD m r.2:=by(intro f c m e a l g2 b hd hn;obtain⟨c,rfl⟩:∃k,c=k+1:=⟨c-1,ah⟩;rcases hd with rfl|rfl);exact tM ((made0_tot (n:=c) ah ah).2 m a b ah) λr h=>⟨⟨ah,λx j=>okS_le ah (h.1.2 x j)⟩,h.2⟩;rw[show((d+1:Nat):Int)-1=(d:Int)from by omega];exact tM ((ih f c ah ah ah).2 m a b ah) λr h=>⟨⟨ah,h.1.2⟩,h.2⟩
  have key:∀m,MK H m->CX (IK n m (d+1:Nat)) (Good T (d+1) m):=by intro m b;obtain⟨n,rfl⟩:∃k,n=k+2:=⟨n-2,ah⟩;refine stmt_tot (R158:=MU (n+1)) (R86:=FU (n+1)) (H:=H) (k:=d+1) ⟨ah,λ_ m s b=>?_,λ_ m e a b hd hn=>?_⟩ b;exact block_tot (R86:=FU n) b ah s λm a b hn=>sub (H+1) n m _ a ah ah b (.inr rfl) hn;grind
  exact⟨key,λm a b hn=>stmts_tot (R:=IK n) key b hn⟩
end
section
variable{T:lr}
abbrev TT{d:Type}(o:ABm d):Prop:=CX o λ_=>True
theorem tD{p:Prop}[Decidable p]{a c:ABm b}{R:b->Prop}(d:p->CX a R)(e:¬p->CX c R):CX (if decide p=true then a else c) R:=aA
def NI{o:ABm a}{f:a->ABm b}{R:b->Prop}(h:TT o)(k:∀x,CX (f x) R):CX (o.bind f) R:=tB h λx _=>k x
theorem tE{o:ABm a}{y:a}{f:a->ABm b}{R:b->Prop}(h:o=some y)(k:CX (f y) R):CX (o.bind f) R:=am
theorem tAt{l:List a}{i:Nat}{f:a->ABm b}{R:b->Prop}(h:i<l.length)(k:CX (f l[i]) R):CX ((gt l (i:Int)).bind f) R:=by rw[Be h];exact k
theorem tL{Q:a->Prop}(N:Nat){F:Nat->Int->ABm a}(e:N<1000000000000)(h:∀n (i:Nat),i<=N->(i<N->CX (F n (A9 (i+1))) Q)->CX (F (n+1) i) Q):CX (F BQ 0) Q:=by
 have f:=BN;have key:∀n (i:Nat),N<n+i->i<=N->CX (F n i) Q:=by intro n;induction n with|zero=>omega|succ n ih=>intro i c b;refine h n i b λd=>?_;rw[AW ah];grind
 exact key BQ 0 ah ah
theorem tLk{Q:b->Prop}(N j:Nat)(I:Nat->a->Prop){F:Nat->a->Int->ABm b}(l:N<1000000000000)(o:j<=N){s0:a}(e:I j s0)(h:∀n (i:Nat) s,i<=N->I i s->(∀G,i<N->I (i+1) G->CX (F n G (A9 (i+1))) Q)->CX (F (n+1) s i) Q):CX (F BQ s0 j) Q:=by
 have m:=BN;have key:∀n (i:Nat) s,N<n+i->i<=N->I i s->CX (F n s i) Q:=by intro n;induction n with|zero=>omega|succ n ih=>intro i s f c d;refine h n i s c d λG g k=>?_;rw[AW ah];grind
 grind
theorem aX{Q:b->Prop}(N:Nat)(I:Nat->a->Prop){F:Nat->a->Int->ABm b}(d:N<1000000000000){s0:a}(c:I 0 s0)(h:∀n (i:Nat) s,i<=N->I i s->(∀e,i<N->I (i+1) e->CX (F n e (A9 (i+1))) Q)->CX (F (n+1) s i) Q):CX (F BQ s0 0) Q:=tLk N 0 I d ah c h
def Tk(s:ABn):TT (CU s):=⟨_,Rz s,trivial⟩
def dE:Nat->BU->Prop|0,_=>False|n+1,e=>e.L.length<=2/\∀x∈e.L,dE n x
theorem bY.d:∀{e:BU},bY n e->dE n e:=by
 induction n with
 |zero=>exactλh=>h.elim
 |succ n ih=>
  intro e h;rcases h with⟨_,h⟩|⟨_,h,_⟩|⟨_,_,a,h,c⟩|⟨_,a,b,h,c,f⟩<;>refine⟨by simp[h],?_⟩<;>rw[h]<;>simp
  all_goals simp_all
theorem Kx.e{s:AX}(h:Kx T n s):dE 2 s.du:=by
 cases n with
 |zero=>exact h.elim
 |succ n=>
  rcases h.2.2.1 with h|⟨_,h⟩
  exact h.d;rw[h];exact⟨by simp[noE],by simp[noE]⟩
theorem Kx.i{s:AX}(h:Kx T n s):s.d6=[]\/∃a,s.d6=[a]/\dE 2 a:=by cases n with|zero=>exact h.elim|succ n=>exact h.2.1.imp id λ⟨_,_,a,h,k⟩=>⟨a,h,k.d⟩
theorem vD(d:E1):TT (Dj d):=by
 have a:∀b,TT (Dj.J2 d b):=by intro b;unfold Dj.J2 Dj.J3;repeat' first|exact tR trivial|refine tI (λ_=>?_) λ_=>?_
 have j1:∀b,TT (Dj.J1 d b):=by intro b;unfold Dj.J1;repeat' first|exact tR trivial|exact a _|refine NI (Tk _) λ_=>?_|refine tI (λ_=>?_) λ_=>?_
 unfold Dj;repeat' first|exact j1 _|refine NI (Tk _) λ_=>?_|refine tI (λ_=>?_) λ_=>?_
theorem Operands_tot(o:Int):TT (FB o):=by unfold FB FB.J1 FB.J2 FB.J3;repeat' first|exact tR trivial|refine tI (λ_=>?_) λ_=>?_
theorem rE(d:Nat):∀(n:Nat)(e:BU),d<=n->dE d e->TT (D3 n e):=by
 induction d with
 |zero=>exactλn e _ h=>h.elim
 |succ d ih=>
  intro n e hn ⟨h1,h2⟩;obtain⟨n,rfl⟩:∃k,n=k+1:=⟨n-1,ah⟩;show TT (DN (D3 n) e);have c:∀b,TT (DN.J2 (D3 n) e b):=by intro b;unfold DN.J2;refine tI (λ_=>tR trivial) λ_=>tL e.L.length ah λm i hi k=>?_;unfold DN.AU DN.L1;refine tD (λ_=>tG ah λx a=>NI (ih n x ah (h2 x a)) λ_=>tI (λ_=>tR trivial) λ_=>k ah) λ_=>tR trivial
  have j1:∀b,TT (DN.J1 (D3 n) e b):=by intro b;unfold DN.J1;refine NI (Operands_tot _) λ_=>?_;repeat' first|exact c _|refine NI (Tk _) λ_=>?_|refine tI (λ_=>?_) λ_=>?_
  unfold DN;grind
theorem UR(h:n<=1000):n<=BQ:=aS
theorem SE_tot{e:BU}(h:dE 2 e):TT (D3 BQ e):=rE 2 _ e (UR ah) h
theorem rF{s:AX}{R:List AX->ABm Bool}(d:Kx T k s)(j:TT (R s.dz))(l:TT (R s.ea)):TT (Bt R s):=by
 have r:∀b,TT (Bt.J9 R s b):=by intro b;unfold Bt.J9 Bt.OE;repeat' first|exact tR trivial|refine NI j λ_=>?_|refine NI l λ_=>?_|refine tI (λ_=>?_) λ_=>?_
 have q:∀b,TT (Bt.J8 R s b):=by intro b;unfold Bt.J8;repeat' grind
 have c:∀b,TT (Bt.J7 R s b):=by intro b;unfold Bt.J7;repeat' first|exact tR trivial|exact q _|refine tI (λ_=>?_) λ_=>?_
 have p:∀b,TT (Bt.J6 R s b):=by intro b;unfold Bt.J6;refine tI (λ_=>NI (SE_tot d.e) λ_=>tI (λ_=>c _) λ_=>c _) λ_=>NI ?_ λ_=>c _;unfold Iz Iz.J1;repeat' first|exact tR trivial|refine tI (λ_=>?_) λ_=>?_
 have f:∀b,TT (Bt.J5 R s b):=by intro b;unfold Bt.J5;repeat' first|exact tR trivial|exact p _|refine tI (λ_=>?_) λ_=>?_
 have o:∀b,TT (Bt.J4 R s b):=by
  intro b;unfold Bt.J4;rcases d.i with h|⟨a,h,g⟩<;>rw[h]
  . repeat' first|exact tR trivial|exact f _|refine tI (λ_=>?_) λ_=>?_|grind
  . repeat' first|exact tR trivial|exact f _|refine tI (λ_=>?_) λ_=>?_|refine tE (y:=a) rfl ?_|refine NI (SE_tot g) λ_=>?_
 have n:∀b,TT (Bt.J3 R s b):=by intro b;unfold Bt.J3;repeat' first|exact tR trivial|exact o _|refine tI (λ_=>?_) λ_=>?_|refine NI (Tk _) λ_=>?_
 have m:∀b,TT (Bt.J2 R s b):=by intro b;unfold Bt.J2;repeat' first|exact n _|refine tI (λ_=>?_) λ_=>?_|refine NI (Tk _) λ_=>?_
 have j1:∀b,TT (Bt.J1 R s b):=by intro b;unfold Bt.J1;repeat' first|exact tR trivial|exact m _|refine tI (λ_=>?_) λ_=>?_
 unfold Bt;grind
def eJ(T:lr)(k:Nat)(l:kh):Prop:=l.length<=10/\∀x∈l,Kx T k x
theorem Kx.body{s:AX}(h:Kx T (k+1) s):eJ T k s.dz:=⟨by have:=h.2.2.2.2.1;omega,h.2.2.2.2.2.2.1⟩
theorem Kx.els{s:AX}(h:Kx T (k+1) s):eJ T k s.ea:=⟨by have:=h.2.2.2.2.2.1;omega,h.2.2.2.2.2.2.2.1⟩
theorem qC(d:Nat):∀(n:Nat)(l:kh),2*d+1<=n->eJ T d l->TT (IA n l):=by induction d with|zero=>intro n l hn ⟨_,h⟩;obtain⟨n,rfl⟩:∃k,n=k+1:=⟨n-1,ah⟩;have:l=[]:=ABV.2 λx a=>(h x a).elim;subst this;show TT (Df (MZ n) []);exact tR trivial|succ d ih=>intro n l hn ⟨h1,h2⟩;obtain⟨n,rfl⟩:∃k,n=k+2:=⟨n-2,ah⟩;show TT (Df (MZ (n+1)) l);unfold Df;refine tL l.length ah λm i hi k=>?_;unfold Df.AU Df.L1 Df.J1;refine tD (λ_=>tG ah λx a=>?_) λ_=>tR trivial;refine NI (rF (R:=IA n) (h2 x a) (ih n _ ah (h2 x a).body) (ih n _ ah (h2 x a).els)) λ_=>tI (λ_=>tR trivial) λ_=>k ah
def YL:List ABn:=[⟨#[109,97,105,110]⟩,⟨#[116,49]⟩,⟨#[116,50]⟩,⟨#[116,51]⟩]
def uE:List ABn:=[⟨#[97]⟩,⟨#[98]⟩]
structure MP (p:Aa):Prop where
 d:HG=some p.ek
 t:p.AB.length<=4
 l:∀t∈p.AB,t.Hp.length<=2
 b:∀t∈p.AB,eJ (λs=>s∈p.AB.map (·.dq)) 4 t.dz
 nm:∃n,1<=n/\n<=4/\p.AB.map (·.dq)=YL.take n
 lo:∀t∈p.AB,t.Hp=uE
theorem MP.dl{p:Aa}(h:MP p):p.ek.length=9:=by have h:=h.d;unfold HG at h;rw[<- AAO h];rfl
theorem rG{p:Aa}(h:MP p):TT (Di p):=by
 have hd:=h.dl;have e:=h.t;have c:∀{F:i6}{i:Int}(b:Bool),TT (F (A9 (i+1)))->TT (Di.J3 F i b):=by intro F i b k;unfold Di.J3 Di.J4;exact tI (λ_=>tR trivial) λ_=>k
 unfold Di;refine tL 9 ah λm i hi k=>?_;unfold Di.AU Di.L1 Di.J1;refine tD (λ_=>tG ah λx a=>NI (vD x) λ_=>tI (λ_=>tR trivial) λ_=>k ah) λ_=>tL p.AB.length ah λm i hi k=>?_;unfold Di.B9 Di.L2 Di.J5;refine tD (λ_=>tG ah λx a=>tL x.Hp.length (by have:=h.l x a;omega) λm i hi d=>?_) λ_=>tR trivial;unfold Di.Fw Di.L3 Di.J2;refine tD (λ_=>tG ah λx a=>NI (Tk _) λ_=>tI (λ_=>tR trivial) λ_=>d ah) λ_=>NI (Tk _) λ_=>tI (λ_=>c _ (k ah)) λ_=>NI (qC 4 _ _ (UR ah) (h.b x a)) λ_=>c _ (k ah)
end
end Go.Abs
