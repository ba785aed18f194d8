/- What the typed programs give, in plain Lean. -/
import Derived.Test.YtdojkofgkcmagaaGreatDoorWalkN
import Derived.Test.YtdojkofgkcmagaaGreatDoorPlainA
set_option linter.defProp false
set_option linter.unusedSimpArgs false
set_option linter.unusedVariables false
namespace Go.Abs
set_option maxHeartbeats 4000000
def Vh(t t':AX):Prop:=DX t'/\t'.L=t.L/\t.At<=t'.At
def Vh.trans{a b c:AX}(h:Vh a b)(k:Vh b c):Vh a c:=⟨k.1,k.2.1.trans h.2.1,Int.le_trans h.2.2 k.2.2⟩
def FB{t:AX}(b:DX t){n:Int}(hn:0<n/\n<1000):B5 (Al t n) λr=>(0<=r.1/\r.1<n)/\Vh t r.2/\(t.At<t.L.length->t.At<r.2.At):=by
 have e:=b.l;have f:=b.a;unfold Al Al.J1;rw[CG (n:=t.At+1) ah ah,CG (n:=t.At+1-1) ah ah];refine tI (λh=> ?_) λh=> ?_
 . have h:=AAc h;exact tI (λ_=>tR ⟨⟨ah,hn.1⟩,⟨b,rfl,ak⟩,λ_=>ah⟩) λh=>by cases h
 . have d:¬t.At>=(t.L.length:Int):=(by simpa using h);refine tI (λh=>absurd (AAc h) ah) λ_=> ?_;refine tG ah λx c=>tC ah (tR ⟨?_,⟨⟨b.l,aS,b.u⟩,rfl,aS⟩,λ_=>aS⟩);have c:=b.u x c;rw[CG ah ah];exact⟨Int.tmod_nonneg _ c.1,Int.tmod_lt_of_pos _ hn.1⟩
def Fw:AF:=(Gs).getD ⟨[],[],[],[],[],[]⟩
def fV:Gs=some Fw:=by decide +kernel
def sceneW_ok:Cy Fw=true:=by decide +kernel
def VS:Fw.df.length=5:=by decide +kernel
def aI:Fw.AK.length=3:=by decide +kernel
def aH:Fw.AL.length=1:=by decide +kernel
def VU:Fw.AA.length=4:=by decide +kernel
variable{o u:Int}
theorem uK{b:AX}(f:DX b)(k:0<=u/\u<4):B5 (DE b o u) λr=>(o=3\/o=4->0<=r.1/\r.1<5)/\Vh b r.2:=by
 have hn:Vh b b:=⟨f,rfl,Int.le_refl _⟩;have g:∀p,o≠3->o≠4->B5 (DE.J5 b u p) λr=>(o=3\/o=4->0<=r.1/\r.1<5)/\Vh b r.2:=by intro p c d;unfold DE.J5;refine tI (λ_=>tB (FB f ah) ?_) λ_=>tR ⟨λh=>ah,hn⟩;rintro r ⟨_,h,_⟩;exact tR ⟨λh=>ah,h⟩
 have d:∀p,o≠3->o≠4->B5 (DE.J4 o b u p) λr=>(o=3\/o=4->0<=r.1/\r.1<5)/\Vh b r.2:=by intro p c d;unfold DE.J4;exact tI (λ_=>tR ⟨λh=>ah,hn⟩) λ_=>tI (λ_=>g _ c d) λ_=>g _ c d
 have c:∀p,o≠3->o≠4->B5 (DE.J3 o b u p) λr=>(o=3\/o=4->0<=r.1/\r.1<5)/\Vh b r.2:=by
  intro p c a;unfold DE.J3;refine tI (λ_=>tR ⟨λh=>ah,hn⟩) λ_=> ?_
  iterate 5 refine tI (λ_=>d _ c a) λ_=> ?_
  exact d _ c a
 have m:∀p,o≠3->o≠4->B5 (DE.J2 o b u p) λr=>(o=3\/o=4->0<=r.1/\r.1<5)/\Vh b r.2:=by
  intro p e a;unfold DE.J2;refine tI (λ_=>tB (FB f ah) ?_) λ_=> ?_
  . rintro r ⟨_,h,_⟩;exact tR ⟨λh=>ah,h⟩
  iterate 3 refine tI (λ_=>c _ e a) λ_=> ?_
  exact c _ e a
 have l:∀p,(p=false->o≠3/\o≠4)->B5 (DE.J1 o b u p) λr=>(o=3\/o=4->0<=r.1/\r.1<5)/\Vh b r.2:=by
  intro p n;unfold DE.J1;refine tI (λ_=>tB (FB f ah) ?_) λh=> ?_
  . rintro r ⟨j,h,_⟩;refine tG ah λx i=>tR ⟨λ_=> ?_,h⟩;simp only[AAr,ABL,ABK]at i;omega
  . grind
 unfold DE;grind
theorem W8(s:AD)(f:s.de.AA.length<=500):B5 (Ea s) λr=>r.length<=s.de.AA.length:=by
 have e:=BP;have key:∀n (i:Nat) (c:iq),s.de.AA.length<n+i->i<=s.de.AA.length->c.length<=i->B5 (Ea.AW s n c i) λr=>r.length<=s.de.AA.length:=by
  intro n;induction n with
  |zero=>omega
  |succ n ih=>intro i c a b d;unfold Ea.AW Ea.L1;refine tI (λh=> ?_) λ_=>tR ah;have h:=AAc h;unfold Ea.J1;rw[Af ah];refine tG ah λx _=>tI (λ_=>tC (Bs ah) ?_) λ_=>ih (i+1) c ah ah ah;exact ih (i+1) _ ah ah an
 exact key BT 0 [] ah ah ak
variable{s:AD}
theorem value_adv{b:AX}(a:DX b)(e:s.de.AA.length<=500)(g:u=3->0<=o/\o<(s.df.length:Int))(i:0<s.AL.length):B5 (HQ b s u o) λr=>Vh b r.2:=by
 have hn:Vh b b:=⟨a,rfl,Int.le_refl _⟩;have d:∀p,B5 (HQ.J1 u s b p) λr=>Vh b r.2:=by
  intro p;unfold HQ.J1;refine tI (λ_=>tB (FB a ah) λr h=>tR h.2.1) λ_=>tI (λ_=>tB (FB a ah) λr h=>tR h.2.1) λ_=>tI (λ_=> ?_) λ_=>tI (λ_=> ?_) λ_=>tR hn
  . refine tB (W8 s e) λl c=>tI (λh=> ?_) λ_=>tR hn;have h:=AAc h;refine tB (FB a ah) ?_;rintro r ⟨f,h,_⟩;exact tG f λx _=>tR h
  . exact tB (W8 s e) λl c=>tR hn
 unfold HQ;refine tI (λh=>tG (g aS) λx _=>tR hn) λ_=>tI (λ_=>tG ah λx _=>tR hn) λ_=>tI (λ_=>d _) λ_=>d _
variable{c:iq}
theorem pZ{b:AX}(m:DX b)(t:c.length<=1000):B5 (FA b c) λr=>r.1.length<=c.length/\Vh b r.2:=by
 have u:=BP;have key:∀n (i:Nat) (d:AX) (l:iq),c.length<n+i->i<=c.length->l.length<=i->DX d->Vh b d->B5 (FA.AW c n d l i) λr=>r.1.length<=c.length/\Vh b r.2:=by
  intro n;induction n with
  |zero=>omega
  |succ n ih=>intro i d l o q s hd e;unfold FA.AW FA.L1;refine tI (λh=> ?_) λ_=>tR ⟨aS,e⟩;have h:=AAc h;have j:∀a f p,DX a->Vh b a->B5 (FA.J1 (FA.AW c n) l i f a p) λr=>r.1.length<=c.length/\Vh b r.2:=(by intro a f p g k;unfold FA.J1 FA.J2;rw[Af ah];exact tI (λ_=>tC (Bs ah) (ih (i+1) a _ ah ah an g k)) λ_=>ih (i+1) a l ah ah ah g k);refine tG ah λx _=>tI (λ_=>tB (FB hd ah) ?_) λ_=>j _ _ _ hd e;rintro r ⟨_,h,_⟩;exact j _ _ _ h.1 (e.trans h)
 exact key BT 0 b [] ah ah ak m ⟨m,rfl,Int.le_refl _⟩
structure EvM (q:AX) (r:AH×AX):Prop where
 t:0<=r.1.cr/\r.1.cr<4
 d:r.1.EA.length<=1000
 f:r.1.DW.length<=1000
 a:Vh q r.2
 s:q.At<q.L.length->q.At<r.2.At
variable{wv:AF}{K:jb}
theorem AAA{q:AX}(P:DX q)(O:s.de.AA.length<=500)(W:5<=s.df.length)(U:5<=wv.df.length)(N:0<s.AL.length)(V:K.length=4)(u:∀l∈K,l.length<=1000):B5 (Df q s wv K) (EvM q):=by
 unfold Df Nq;refine tB (FB P ah) ?_;rintro a ⟨a0,F,I⟩;rw[AAS];refine tB (FB F.1 ak) ?_;rintro t ⟨T,E,_⟩;refine tG T λo X=> ?_;refine tB (FB E.1 ah) ?_;rintro i ⟨i0,iA,_⟩;have R:Vh q i.2:=(F.trans E).trans iA;have M:q.At<q.L.length->q.At<i.2.At:=λh=>by have:=I h;have:=E.2.2;have:=iA.2.2;omega
 have G:∀(p:AX)(e:AH),Vh q p->(q.At<q.L.length->q.At<p.At)->e.cr=a.1->e.EA.length<=1000->e.DW.length<=1000->B5 (Df.J6 p e) (EvM q):=λp e b d f k m=>tR ⟨am,k,m,b,d⟩;have m:∀(p:AX)(e:AH) z,Vh q p->(q.At<q.L.length->q.At<p.At)->e.cr=a.1->e.EA.length<=1000->e.DW.length<=1000->B5 (Df.J5 e K p a z) (EvM q):=by intro p e z b d f k m;unfold Df.J5;refine tI (λ_=>tG ah λx r=>tB (pZ b.1 (u x r)) ?_) λ_=>G _ _ b d f k m;rintro v ⟨n,g2⟩;exact G _ _ (b.trans g2) (λh=>by have:=d h;have:=g2.2.2;omega) f k (ABO n (u x r))
 have k:∀(p:AX)(e:AH),Vh q p->(q.At<q.L.length->q.At<p.At)->e.cr=a.1->e.EA.length<=1000->e.DW.length<=1000->B5 (Df.J4 K a p e) (EvM q):=by intro p e b d f k g;unfold Df.J4;exact tI (λ_=>m _ _ _ b d f k g) λ_=>m _ _ _ b d f k g
 have f:∀(c:AH)(j l:jr) y,Vh q l.2->(q.At<q.L.length->q.At<l.2.At)->c.cr=a.1->c.EA.length<=1000->c.DW.length<=1000->B5 (Df.J3 c K a j l y) (EvM q):=by intro c j l y b d f C g;unfold Df.J3;refine tI (λ_=>tG ah λx r=>tB (pZ b.1 (u x r)) ?_) λ_=>k _ _ b d f C g;rintro v ⟨n,g2⟩;exact k _ _ (b.trans g2) (λh=>by have:=d h;have:=g2.2.2;omega) f (ABO n (u x r)) g
 have d:∀(c:AH),c.cr=a.1->c.EA.length<=1000->c.DW.length<=1000->B5 (Df.J2 K s a i wv c) (EvM q):=by
  intro c n g2 J;unfold Df.J2;refine tB (uK iA.1 a0) ?_;rintro j ⟨j0,D⟩;refine tB (value_adv D.1 O bN N) ?_;intro l H;have Q:Vh q l.2:=(R.trans D).trans H;have S:q.At<q.L.length->q.At<l.2.At:=λh=>by have:=M h;have:=D.2.2;have:=H.2.2;omega
  have B:=λy=>f c j l y Q S n g2 J;refine tI (λ_=>B _) λ_=>tI (λh=> ?_) λ_=>tI (λh=> ?_) λ_=>B _
  . have:=j0 (.inl aS);exact tG ah λx _=>B _
  . have:=j0 (.inr aS);exact tG ah λx _=>B _
 unfold Df.J1;grind
theorem rI(wv:AF)(s:AQ)(t k o wake:Int):(DR wv s t k o wake).1.AK.length=s.AK.length/\(DR wv s t k o wake).1.Bp.length=s.Bp.length/\(DR wv s t k o wake).1.AA.length=s.AA.length:=by
 have key:∀(p:Prop) [Decidable p] (a b:AQ×Int),(a.1.AK.length=s.AK.length/\a.1.Bp.length=s.Bp.length/\a.1.AA.length=s.AA.length)->(b.1.AK.length=s.AK.length/\b.1.Bp.length=s.Bp.length/\b.1.AA.length=s.AA.length)->
  ((if p then a else b).1.AK.length=s.AK.length/\(if p then a else b).1.Bp.length=s.Bp.length/\(if p then a else b).1.AA.length=s.AA.length):=by
  intro p _ a b d e;split<;>assumption
 unfold DR
 repeat' refine key _ _ _ ?_ ?_
 all_goals first
  |exact⟨rfl,rfl,rfl⟩
  | (simp only[LC,LB,List.length_set,AA6,and_self];done)
  | (by_cases c:Cd o 0 s.AA=[]<;>simp only[c,AAy,AAk,LC,List.length_set,and_self])
theorem sV(h:JD wv s=true)(e:AH):JD wv (F7 wv s e)=true:=by
 obtain⟨a,f,g,i⟩:=Jx h;obtain⟨b,g2,d⟩:=EO a;have j:wv.Ak.all (λc=>Cp c.dm wv.AK.length)=true:=by unfold HJ at a;simp only[AAT]at a;exact a.1
 obtain⟨k,l,m⟩:=rI wv s.de e.cr e.da e.dn (if e.da=18 then e.dh else -1)
 simp only[JD,HJ,F7,AAT,AAh];grind
def aJ:Small Fw:=Di sceneW_ok
structure SC (N:Nat) (s:AD):Prop where
 f:JD Fw s=true
 r:RB N s.de
variable{k:Nat}
theorem SC.len(h:SC k s):s.de.AA.length=4/\s.df.length=5/\s.AL.length=1/\s.dc.length=4/\s.de.AK.length=3/\s.de.Bp.length=1:=by
 obtain⟨a,d,e,g⟩:=Jx h.f;obtain⟨b,g2,c⟩:=EO a
 have:=VS;have:=aI;have:=aH;have:=VU;omega
variable{n:Nat}
def SC.mono(h:SC k s)(a:k<=n):SC n s:=⟨h.f,h.r.mono a⟩
theorem SC.step{N:Nat}{s:AD}(h:SC N s)(b:N<=1000){e:AH}(a:KE e):B5 (B1 Fw s e) λr=>r.2=true->SC (N+1) r.1:=by
 rw[Qu Fw aJ s (h.r.mono ah) e a];refine tR ?_;unfold P5;split
 . exactλ_=>⟨sV h.f e,h.r.apply _ _ _ _ _⟩
 simp_all
variable{b:Type}
def mem_set{l:List b}{a x:b}(h:x∈l.set n a):x∈l\/x=a:=AA7 h
theorem play2_tot(T:o<=60):∀(n:Nat)(t:AX)(s:AD)(c:jm)(R:jb),DX t->(t.L.length:Int)-t.At<n->SC (c.length+20) s->c.length<=60->(∀e∈c,KE e)->R.length=4->(∀l∈R,l.length<=c.length+1)->
 B5 (CR.CC o Fw n t s c R) λr=>r.1.length<=60/\∀e∈r.1,KE e:=by
 intro n;induction n with
 |zero=>intro t s c R w h;have:=w.a;omega
 |succ n ih=>
  intro t s c R w hn q E D b M;have F:=q.len;have P:∀u,(u=true->(c.length:Int)<o/\t.At<(t.L.length:Int))->B5 (CR.J4 (CR.CC o Fw n) c R s t Fw u) λr=>r.1.length<=60/\∀e∈r.1,KE e:=by
   intro u N;unfold CR.J4 CR.J7;refine tI (λh=> ?_) λ_=>tR ⟨E,D⟩;obtain⟨O,x⟩:=N h;refine tB (AAA w ah ah (by have:=VS;omega) ah b λl p=>aS) λj g=> ?_;have K:KE j.1:=⟨by have:=g.d;omega,by have:=g.f;omega⟩;refine tB (q.step ah K) λv G=> ?_;have S:=g.t;have Q:=g.s x;have J:=g.a.2.1;have k:(j.2.L.length:Int)-j.2.At<n:=(by rw[J];omega);refine tI (λ_=>ih _ _ _ _ g.a.1 k q E D b M) λI=> ?_;have G:=G am;have C:∀i,i.length=4->(∀l∈i,l.length<=c.length+2)->B5 (CR.J6 (CR.CC o Fw n) c j v i) λr=>r.1.length<=60/\∀e∈r.1,KE e:=by
    intro i H I;unfold CR.J6;refine tC (Bs ah) (ih _ _ _ _ g.a.1 k am an ?_ H am);intro e k;rcases AAo.1 k with h|h
    . grind
    . simp_all
   have B:∀z,B5 (CR.J5 (CR.CC o Fw n) c R s j v z) λr=>r.1.length<=60/\∀e∈r.1,KE e:=by
    intro z;unfold CR.J5;refine tI (λ_=>tG ah λy U=>tG ah λm _=>tC (Bs aS) (C _ am λl p=> ?_)) λ_=>C R b λl p=>aS;rcases mem_set p with h|h
    . grind
    . simp_all
   exact tI (λ_=>B _) λ_=>B _
  unfold CR.CC CR.L2;grind
theorem play_tot{t:AX}(C:DX t)(B:SC 20 s)(w:o<=60)(p:Bool):B5 (CR t s Fw o p) λr=>r.1.length<=60/\∀e∈r.1,KE e:=by
 have G:=BP;have j:=B.len;have b:=VU;have key:∀(n i:Nat)(q:AX)(R:jb),4<n+i->i<=4->DX q->R.length=4->(∀l∈R,l.length<=1)->(∀k (g:k<R.length),i<=k->R[k]=[])->B5 (CR.AW p o s Fw n q R i) λr=>r.1.length<=60/\∀e∈r.1,KE e:=by
  intro n;induction n with
  |zero=>omega
  |succ n ih=>
   intro i q R D E d f y u;unfold CR.AW CR.L1;refine tI (λh=> ?_) λ_=> ?_
   . have h:=AAc h;simp only[ABd,b]at h;have c:∀(v:AX) z,DX v->B5 (CR.J1 (CR.AW p o s Fw n) R i v z) λr=>r.1.length<=60/\∀e∈r.1,KE e:=by
      intro v z m;unfold CR.J1 CR.J2;rw[Af ah];refine tI (λ_=> ?_) λ_=>ih (i+1) v R ah ah m f y λk g h=>u k g ah;have hi:i<R.length:=ah;rw[B4 hi,AAS,u i hi (AAv _)];refine tC (Bs ak) (ih (i+1) v _ ah ah m am ?_ ?_)
      . grind
      . grind
     refine tI (λ_=>tG ah λx _=>tI (λ_=>tB (FB d ah) λr h=>c _ _ h.2.1.1) λ_=>c _ _ d) λ_=>c _ _ d
   . unfold CR.J3;refine play2_tot w BT q s [] R d (by have:=d.l;have:=d.a;omega) ah ak ak f (λl F=>am)
 unfold CR;refine tC ⟨ah,ah,Bs ah⟩ (key BT 0 t _ ah ah C (by simp[b]) ?_ ?_)
 all_goals grind
variable{j:Int}
theorem My[Inhabited b]{l:List b}{a:b}(hi:Cp o l.length=true)(c:Cp j l.length=true):ix (l.set o.toNat a) j=if j=o then a else ix l j:=by have hi:=BI.1 hi;have c:=BI.1 c;unfold ix;grind
variable{a:Type}
theorem ix_map[Inhabited a][Inhabited b]{l:List a}{f:a->b}(c:Cp j l.length=true):ix (l.map f) j=f (ix l j):=by
 have c:=BI.1 c;have:j.toNat<l.length:=ah
 unfold ix;simp_all
structure TI (wv:AF) (B:Int->Prop) (L:List AY) (u:Int) (x:AM):Prop where
 s:0<=x.dg/\x.dg<=5
 b:B u↔2<=x.dg
 z:u=0->x.dg≠0
 c:x.dg=3\/x.dg=4->Cp x.Dy wv.Ak.length=true/\(ix L (ix wv.Ak x.Dy).dm).B9≠u
 n:x.dg≠3->x.dg≠4->x.Dy=0
 a:x.dy=true->2<=x.dg
structure LI (wv:AF) (B:Int->Prop) (i:Int) (x:AY):Prop where
 o:x.B9≠ -1->B x.B9
 w:x.An≠[]->(ix wv.AK i).RW=true/\x.B9= -1
 p:x.An.Pairwise (· < ·)
 r:∀y∈x.An,B y
structure YI (wv:AF) (B:Int->Prop) (s:AQ):Prop where
 t:∀u,Cp u wv.AA.length=true->TI wv B s.AK u (ix s.AA u)
 l:∀i,Cp i wv.AK.length=true->LI wv B i (ix s.AK i)
 x:s.Tx≠ -1->B s.Tx
 b:∀u,B u->Cp u wv.AA.length=true
variable{P:nq}
section
variable{wv:AF}{B:nq}{s:AQ}
theorem YI.LC(h:YI wv B s)(hn:s.AA.length=wv.AA.length){f:AM->AM}(hd:Cp o wv.AA.length=true)(c:TI wv B s.AK o (f (ix s.AA o))):YI wv B (LC s o f):=by
 refine⟨λu a=> ?_,h.l,h.x,h.b⟩;show TI wv B s.AK u (ix (s.AA.set o.toNat (f (ix s.AA o))) u);rw[My am am];by_cases e:u=o
 . simp_all
 . rw[AAa e];exact h.t u a
theorem YI.LB(h:YI wv B s)(p:∀i,Cp i wv.Ak.length=true->Cp (ix wv.Ak i).dm wv.AK.length=true)(hn:s.AK.length=wv.AK.length){f:AY->AY}(hi:Cp o wv.AK.length=true)(r:LI wv B o (f (ix s.AK o)))(k:(f (ix s.AK o)).B9= -1\/(f (ix s.AK o)).B9=(ix s.AK o).B9\/Cp (f (ix s.AK o)).B9 wv.AA.length=true/\(ix s.AA (f (ix s.AK o)).B9).dg=2):YI wv B (LB s o f):=by
 refine⟨λu m=> ?_,λj q=> ?_,h.x,h.b⟩
 . have g:=h.t u m;refine⟨g.s,g.b,g.z,λd=>⟨(g.c d).1,?_⟩,g.n,g.a⟩;have d:(ix s.AA u).dg=3\/(ix s.AA u).dg=4:=d;have v:=p _ (g.c d).1;show(ix (s.AK.set o.toNat (f (ix s.AK o))) (ix wv.Ak (ix s.AA u).Dy).dm).B9≠u;rw[My am am];by_cases e:(ix wv.Ak (ix s.AA u).Dy).dm=o
   . rw[AAb e];have m:=BI.1 m;rcases k with k|k|k
     . omega
     . rw[k,<- e];exact(g.c d).2
     grind
   . rw[AAa e];exact(g.c d).2
 . show LI wv B j (ix (s.AK.set o.toNat (f (ix s.AK o))) j);rw[My am am];by_cases e:j=o
   . simp_all
   . rw[AAa e];exact h.l j q
theorem YI.congr(h:YI wv B s)(b:∀u,P u↔B u):YI wv P s:=by have:P=B:=funext λu=>propext (b u);simp_all
end
theorem kT(l:iq):(OI l).Pairwise (· < ·):=by exact MI l
theorem Yz{s:AQ}(h:HJ wv s=true)(t k o wake:Int):HJ wv (DR wv s t k o wake).1=true:=by
  have d:wv.Ak.all (λc=>Cp c.dm wv.AK.length)=true:=by unfold HJ at h;simp only[AAT]at h;exact h.1
  have key:∀(p:Prop) [Decidable p] (a b:AQ×Int),HJ wv a.1=true->HJ wv b.1=true->HJ wv (if p then a else b).1=true:=by intro p _ a b j l;split<;>assumption
  obtain⟨e,f,g⟩:=EO h;unfold DR
  repeat' refine key _ _ _ ?_ ?_
  all_goals first
    |exact h
    | (simp[HJ,LC,LB,d,e,f,g];done)
    | (by_cases i:Cd o 0 s.AA=[]
       . simp_all
       . simp[i,HJ,LC,d,e,f,g])
def mutex_of{s:AQ}(h:HJ wv s=true):∀o,Cp o wv.Ak.length=true->Cp (ix wv.Ak o).dm wv.AK.length=true:=λ_ a=>Ho h a
theorem waits_in{s:AQ}(hn:s.AA.length=wv.AA.length)(h:u∈Cd o 0 s.AA):Cp u wv.AA.length=true/\(ix s.AA u).dg=3:=by
 have key:∀(T:ke)(i:Nat)(u:Int),u∈Cd o i T->∃x,T[(u-i).toNat]? =some x/\x.dg=3:=by
  intro T;induction T with
  |nil=>intro i u h;cases h
  |cons x r ih=>
   intro i u h;unfold Cd at h;have key:u∈Cd o (i+1) r->∃y,(x::r)[(u-i).toNat]? =some y/\y.dg=3:=(by intro h;have d:=(JY o r (i+1) u h).1;obtain⟨y,y1,y2⟩:=ih (i+1) u h;refine⟨y,?_,y2⟩;rw[show(u-(i:Int)).toNat=(u-((i+1:Nat):Int)).toNat+1 from by omega,ABN];exact y1);split at h
   . rename_i b;rcases AAr.1 h with rfl|h
     . refine⟨x,ak,?_⟩;unfold Jw at b;simp_all
     simp_all
   simp_all
 obtain⟨x,a,e⟩:=key _ _ _ h;have c:=JY o s.AA 0 u h;have a:s.AA[u.toNat]? =some x:=by simpa using a
 refine⟨BI.2 ah,?_⟩;unfold ix;simp_all
variable{wake:Int}
theorem zM(h:c≠[]):FN wake c∈c:=by
 unfold FN;rw[AAa h];split
 . simp_all
 . cases c with
   |nil=>simp_all
   |cons a r=>simp
theorem YI.apply{B:nq}{s:AQ}(hq:∀o,Cp o wv.Ak.length=true->(ix wv.AK (ix wv.Ak o).dm).RW=false)(h:YI wv B s)(he:B7 wv s u j o=true):YI wv (λt=>B t\/t=u) (DR wv s u j o wake).1:=by
 unfold B7 at he;simp only[AAT]at he;obtain⟨hf,v,g,m⟩:=he;obtain⟨Z,l2,E⟩:=EO hf;have G:=mutex_of hf;have T:=h.t u v;unfold DR;by_cases P:j=1
 . rw[AAb P];have hs:(ix s.AA u).dg=1:=(by simpa[Jh,P]using m);have up:∀{t},B t->B t\/t=u:=.inl;refine⟨λt N=> ?_,λi hi=> ?_,λhx=>up (h.x hx),λt N=>N.elim (h.b t) λe=>e▸v⟩
   . show TI wv _ s.AK t (ix (s.AA.set u.toNat _) t);rw[My am am];have U:=h.t t N;by_cases e:t=u
     . rw[AAb e];exact⟨ak,by simp[e],ak,ak,λ_ _=>T.n ah ah,ak⟩
     . rw[AAa e];exact⟨U.s,by simp[e,U.b],U.z,U.c,U.n,U.a⟩
   . have L:=h.l i hi;exact⟨λh=>up (L.o h),L.w,L.p,λy q=>up (L.r y q)⟩
 rw[AAa P];have M:j≠17->(ix s.AA u).dg=2:=by intro d;unfold Jh at m;simp only[AAa P,AAa d,AAT]at m;exact eq_of_beq m.1
 have h4:j=17->(ix s.AA u).dg=4/\(ix s.AA u).Dy=o:=by intro d;unfold Jh at m;simp only[AAa P,AAb d,AAT]at m;exact⟨eq_of_beq m.1,eq_of_beq m.2.1⟩
 have F:B u:=T.b.2 ah;refine YI.congr (B:=B) ?_ λt=>⟨λh=>h.elim id λe=>e▸F,.inl⟩;have own:∀{i},Cp i wv.AK.length=true->(ix s.AK i).An=[]->j≠17->YI wv B (Abs.LB s i λx=>⟨u,x.An⟩):=λhi P6 d=>
  h.LB G Z hi ⟨λ_=>F,λh=>absurd P6 h,(h.l _ hi).p,(h.l _ hi).r⟩ (.inr (.inr ⟨v,M d⟩))
 have off:∀{i},Cp i wv.AK.length=true->YI wv B (Abs.LB s i λx=>⟨-1,x.An⟩):=λhi=>
  h.LB G Z hi ⟨λh=>absurd rfl h,λK=>⟨((h.l _ hi).w K).1,rfl⟩,(h.l _ hi).p,(h.l _ hi).r⟩ (.inl rfl)
 by_cases k2:j=2
 . rw[AAb k2];have M:=M ah;dsimp only;apply h.LC E v;exact⟨ak,by simp[F],ak,ak,λ_ _=>T.n ah ah,ak⟩
 rw[AAa k2];by_cases k6:j=6\/j=10
 . rw[AAb k6];have hi:Cp o wv.AK.length=true:=(by rcases k6 with rfl|rfl<;>simp[Bm]at g<;>exact g.1);refine own hi ?_ ah;rcases k6 with rfl|rfl
   . have J:(ix wv.AK o).RW=false:=(by simp[Bm]at g;exact g.2);by_cases e:(ix s.AK o).An=[]
     . exact e
     . have:=(h.l o hi).w e;simp_all
   . simp[Jh]at m;grind
 rw[AAa k6];by_cases k7:j=7\/j=11
 . rw[AAb k7];refine off ?_;rcases k7 with rfl|rfl<;>simp[Bm]at g<;>exact g.1
 rw[AAa k7];by_cases k8:j=8
 . rw[AAb k8];subst k8;simp[Bm]at g;simp[Jh]at m;have L:=h.l o g.1;dsimp only;applyλx=>h.LB G Z g.1 x (.inr (.inl rfl));refine⟨L.o,λ_=>⟨g.2,m.2.1⟩,kT _,?_⟩;intro y q;have q:y∈(ix s.AK o).An++[u]:=(Kg _ y).1 q;rcases AAo.1 q with q|q
   . exact L.r y q
   simp_all
 rw[AAa k8];by_cases k9:j=9
 . rw[AAb k9];subst k9;simp[Bm]at g;have L:=h.l o g.1;dsimp only;applyλx=>h.LB G Z g.1 x (.inr (.inl rfl));exact⟨L.o,λK=>L.w λe=>K (by simp[e]),L.p.sublist List.filter_sublist,λy q=>L.r y (List.mem_filter.1 q).1⟩
 rw[AAa k9];by_cases Q:j=12
 . rw[AAb Q];exact⟨h.t,h.l,λ_=>F,h.b⟩
 rw[AAa Q];by_cases R:j=13
 . rw[AAb R];exact⟨h.t,h.l,λh=>absurd rfl h,h.b⟩
 rw[AAa R];by_cases S:j=14
 . rw[AAb S];have M:=M ah;dsimp only;apply h.LC E v;exact⟨T.s,T.b,T.z,T.c,T.n,λ_=>am⟩
 rw[AAa S];by_cases V:j=15
 . rw[AAb V];dsimp only;apply h.LC E v;exact⟨T.s,T.b,T.z,T.c,T.n,λh=>by cases h⟩
 rw[AAa V];by_cases I:j=16
 . rw[AAb I];have H:Cp o wv.Ak.length=true:=(by simpa[Bm,I]using g);have k:=G o H;dsimp only;apply(off k).LC E v;refine⟨ak,by simp[F],ak,λ_=>⟨H,?_⟩,ak,ak⟩;show(ix (s.AK.set _ _) _).B9≠u;rw[My am am,AAb rfl]
   have:=BI.1 v;grind
 rw[AAa I];by_cases d:j=17
 . rw[AAb d];have H:Cp o wv.Ak.length=true:=(by simpa[Bm,d]using g);have k:=G o H;have q:=h.LC E v (f:=λx=>⟨2,0,x.dy⟩) ⟨ak,by simp[F],ak,ak,ak,ak⟩;refine q.LB G Z (f:=λx=>⟨u,x.An⟩) k ⟨λ_=>F,λK=> ?_,(h.l _ k).p,(h.l _ k).r⟩ (.inr (.inr ⟨v,?_⟩))
   . have J:=((h.l _ k).w K).1;simp_all
   . show(ix (s.AA.set u.toNat _) u).dg=2;rw[My am am,AAb rfl]
 rw[AAa d];by_cases W:j=18
 . rw[AAb W];by_cases hW:Cd o 0 s.AA=[]
   . simp_all
   . simp only[hW,AAk];obtain⟨d1,d2⟩:=waits_in E (zM (wake:=wake) hW);have D:=h.t _ d1;apply h.LC E d1;exact⟨by simp[JS],by simp[JS];exact D.b.2 ah,by simp[JS],λ_=>D.c (.inl d2),by simp[JS],by simp[JS]⟩
 rw[AAa W];by_cases X:j=19
 . rw[AAb X];refine⟨λt N=> ?_,h.l,h.x,h.b⟩;show TI wv B s.AK t (ix (s.AA.map (Jn o)) t);rw[ix_map am];have U:=h.t t N;unfold Jn;by_cases J:Jw (ix s.AA t) o=true
   . have d2:(ix s.AA t).dg=3:=(by unfold Jw at J;simp only[AAT]at J;exact eq_of_beq J.1);rw[AAb J];exact⟨by simp[JS],by simp[JS];exact U.b.2 ah,by simp[JS],λ_=>U.c (.inl d2),by simp[JS],by simp[JS]⟩
   simp_all
 rw[AAa X];by_cases C:j=20
 . rw[AAb C];have H:Cp o wv.AA.length=true:=(by simpa[Bm,C]using g);have O:=h.t o H;have hs:(ix s.AA o).dg=0:=(by simp[Jh,C]at m;exact m.2.2);have nb:¬B o:=λh=>(by have:=O.b.1 h;omega);dsimp only;apply h.LC E H;exact⟨ak,by simp[nb],ak,ak,λ_ _=>O.n ah ah,λh=>by have:=O.a h;omega⟩
 rw[AAa C];by_cases lM:j=22
 . rw[AAb lM];exact⟨h.t,h.l,h.x,h.b⟩
 simp_all
def zD(wv:AF)(c:iq)(u:Int):Prop:=Cp u wv.AA.length=true/\1<=ix c u
structure WI (wv:AF) (pre:List AH) (s:AD):Prop where
 f:JD wv s=true
 c:∀u,Cp u wv.AA.length=true->ix s.dc u=((It pre u).length:Int)
 m:s.dc.sum=(pre.length:Int)
 y:YI wv (zD wv s.dc) s.de
 d:∀i,Cp i wv.AL.length=true->ix s.de.Bp i=false->ix s.AL i=0
theorem sum_set:∀{i:Nat}{x:Int},i<c.length->(c.set i x).sum=c.sum+(x-c.getD i 0):=by
 induction c with
 |nil=>simp_all
 |cons a r ih=>
  intro i x h;cases i with
  |zero=>simp;omega
  |succ i=>grind
theorem ZI[Inhabited b]{a:b}(h:Cp o n=true):ix (List.replicate n a) o=a:=by have:=BI.1 h;unfold ix;simp_all
theorem RO(h:Cy wv=true):wv.Ak.all (Sn wv)=true/\1<=wv.AA.length:=by unfold Cy at h;grind
theorem Rv(h:Cy wv=true):∀o,Cp o wv.Ak.length=true->(ix wv.AK (ix wv.Ak o).dm).RW=false:=by
 intro o b;have a:=(RO h).1
 have:=BI.1 b;have c:o.toNat<wv.Ak.length:=ah
 have:=AAY.1 a (ix wv.Ak o) (by unfold ix;simp_all);unfold Sn at this;simp_all
theorem WI.start(h:Cy wv=true):WI wv [] (Hi wv):=by
 have l:=Di h;have b:=Rv h;have j:=(RO h).2;have d:∀u,¬zD wv (Hi wv).dc u:=λu ⟨a,k⟩=>by have:ix (Hi wv).dc u=0:=ZI a;omega
 have f:wv.Ak.all (λc=>Cp c.dm wv.AK.length)=true:=by
  have b:=(RO h).1;refine AAY.2 λx g=> ?_
  have:=AAY.1 b x g;unfold Sn at this;simp only[AAT]at this;exact this.1
 refine⟨?_,λu a=>ZI a,?_,⟨λu a=> ?_,λi hi=> ?_,λh=>absurd rfl h,λu a=>a.1⟩,λi hi _=>ZI hi⟩
 . unfold JD HJ Hi KS;simp[f]
 . show(List.replicate wv.AA.length (0:Int)).sum=0;simp_all
 . show TI wv _ _ u (ix ((List.replicate wv.AA.length (⟨0,0,false⟩:AM)).set (0:Int).toNat ⟨1,0,false⟩) u);rw[My (BI.2 an) am];by_cases e:u=0
   . rw[AAb e];exact⟨ak,by simp[d],ak,ak,ak,ak⟩
   . rw[AAa e,ZI a];exact⟨ak,by simp[d],λh=>absurd h e,ak,ak,ak⟩
 . show LI wv _ i (ix (List.replicate wv.AK.length (⟨-1,[]⟩:AY)) i);rw[ZI hi];exact⟨ak,ak,ak,ak⟩
theorem WI.next{wv:AF}{pre:jm}{s:AD}{e:AH}(D:∀o,Cp o wv.Ak.length=true->(ix wv.AK (ix wv.Ak o).dm).RW=false)(h:WI wv pre s)(G:pre.length<=100000)(C:Hc wv s e=true):WI wv (pre++[e]) (F7 wv s e):=by
 have q:=C;unfold Hc at q;simp only[AAT]at q;obtain⟨B,n,l,_,_,_⟩:=q;obtain⟨f1,f2,f3,f4⟩:=Jx B;obtain⟨I,J,K⟩:=EO f1;have E:=KP pre e.cr;have v:=h.c e.cr n;have w:A6 (ix s.dc e.cr+1)=((It pre e.cr).length:Int)+1:=by rw[v,CG ah ah]
 have r:∀u,Cp u wv.AA.length=true->ix (F7 wv s e).dc u=if u=e.cr then((It pre e.cr).length:Int)+1 else ix s.dc u:=by intro u f;show ix (s.dc.set e.cr.toNat _) u=_;rw[My am am,w]
 refine⟨?_,λu f=> ?_,?_,?_,λi hi hd=> ?_⟩
 . have:=Yz f1 e.cr e.da e.dn (if e.da=18 then e.dh else -1)
   unfold JD F7;grind
 . rw[r u f,NB];by_cases j:u=e.cr
   . simp_all
   . rw[AAa j,AAa (λh=>j h.symm),h.c u f]
 . show(s.dc.set e.cr.toNat _).sum=_;have hi:=BI.1 n;have:ix s.dc e.cr=s.dc.getD e.cr.toNat 0:=(by unfold ix;rw[List.getD_eq_getElem?_getD];rfl);rw[sum_set ah,h.m,w,<- this,v];simp;omega
 . refine(h.y.apply D l (wake:=if e.da=18 then e.dh else -1)).congr λu=> ?_
   constructor
   . rintro⟨f,k⟩;rw[r u f]at k;by_cases j:u=e.cr
     . omega
     . rw[AAa j]at k;exact .inl ⟨f,k⟩
   . rintro(⟨f,k⟩|rfl)
     . refine⟨f,?_⟩;grind
     . refine⟨n,?_⟩;grind
 . unfold B7 at l;simp only[AAT]at l;obtain⟨_,_,t,E⟩:=l;have x:(DR wv s.de e.cr e.da e.dn (if e.da=18 then e.dh else -1)).1.Bp=if e.da=22 then s.de.Bp.set e.dn.toNat true else s.de.Bp:=by
    unfold DR;by_cases g:e.da=22
    . simp[g]
    . rw[AAa g,AAa g];have key:∀(p:Prop) [Decidable p] (a b:AQ×Int),a.1.Bp=s.de.Bp->b.1.Bp=s.de.Bp->(if p then a else b).1.Bp=s.de.Bp:=by intro p _ a b t F;split<;>assumption
      repeat' refine key _ _ _ ?_ ?_
      all_goals first
       |rfl
       | (by_cases z:Cd e.dn 0 s.de.AA=[]<;>simp only[z,AAy,AAk]<;>rfl)
   have hd:ix (if e.da=22 then s.de.Bp.set e.dn.toNat true else s.de.Bp) i=false:=by rw[<- x];exact hd
   show ix (if e.da=22 then s.AL.set e.dn.toNat e.dh else s.AL) i=0
   by_cases g:e.da=22
   . rw[AAb g]at hd |-;have H:Cp e.dn wv.AL.length=true:=(by simpa[Bm,g]using t);rw[My am am]at hd;rw[My am am];by_cases j:i=e.dn
     . simp_all
     . rw[AAa j]at hd |-;exact h.d i hi hd
   . rw[AAa g]at hd |-;exact h.d i hi hd
def G1(f:js):Nat->Nat->Bool
 |_,0=>true
 |i,k+1=>f i&&G1 f (i+1) k
variable{p:js}
theorem Iw:∀{k i:Nat},G1 p i k=true↔∀j,i<=j->j<i+k->p j=true
 |0,i=>by simp[G1];omega
 |k+1,i=>by unfold G1;rw[AAT,Iw];grind
theorem Ya(f g:js):∀k i:Nat,G1 (λj=>f j&&g j) i k=(G1 f i k&&G1 g i k)
 |0,i=>rfl
 |k+1,i=>by unfold G1;rw[Ya f g k (i+1)];grind
def I4(c:iq)(t:Int):Bool:=Cp t c.length&&decide (1<=ix c t)
def Lg(w:AG):Bool:=G1 (λi=>decide (0<=ix w.db.dc i)&&decide (ix w.db.dc i<=400)) 0 w.db.dc.length&&(w.ej==w.db.dc.sum&&decide (w.db.dc.sum+w.AB.length<=400))
def T1(x:AM):Bool:=x.dg==3||x.dg==4
def Oo(w:AG)(i:Nat)(x:AM):Bool:=
 (decide (0<=x.dg)&&decide (x.dg<=5))&&((decide (x.dg<=1)==(ix w.db.dc i==0))&&(!(i==0&&x.dg==0)&&(if T1 x=true then Cp x.Dy w.cT.Ak.length else x.Dy==0)))
def Xd(w:AG)(i:Nat)(x:AM):Bool:= !T1 x||(ix w.db.de.AK (ix w.cT.Ak x.Dy).dm).B9 != (i:Int)
def NS(w:AG)(i:Nat)(x:AM):Bool:= !x.dy||I4 w.db.dc i
def Jb(c:iq):Int->List Int->Bool
 |_,[]=>true
 |last,t::r=>decide (last<t)&&(I4 c t&&Jb c t r)
def Ov(w:AG)(i:Nat)(x:AY):Bool:=(x.B9== -1||I4 w.db.dc x.B9)&&((x.An.isEmpty||((ix w.cT.AK i).RW&&x.B9== -1))&&Jb w.db.dc (-1) x.An)
def txW(w:AG):Bool:=w.db.de.Tx== -1||I4 w.db.dc w.db.de.Tx
def cB(w:AG)(i:Nat):Bool:=ix w.db.de.Bp i||ix w.db.AL i==0
def JE(c:Int)(reads:jD)(k:Int):Bool:=decide (k<c)||KM reads (k-c)
def Zh(c:iq)(pre:jm)(x:AH):Bool:=x.EA.all (JE (ix c x.cr) (It pre x.cr))&&x.DW.all (JE (ix c x.cr) (It pre x.cr))
def V4(wv:AF)(c:iq):List AH->AD->List AH->Bool
 |_,_,[]=>true
 |pre,s,x::r=>Hc wv s x&&(Zh c pre x&&V4 wv c (pre++[x]) (F7 wv s x) r)
abbrev I7(w:AG)(i:Nat):AM:=ix w.db.de.AA i
def aW(w:AG):Bool:=Lg w&&(G1 (λi=>Oo w i (I7 w i)) 0 w.db.de.AA.length&&(G1 (λi=>Xd w i (I7 w i)) 0 w.db.de.AA.length&&
 (G1 (λi=>Ov w i (ix w.db.de.AK i)) 0 w.db.de.AK.length&&(txW w&&(G1 (λi=>NS w i (I7 w i)) 0 w.db.de.AA.length&&G1 (cB w) 0 w.db.AL.length)))))
def MJ(w:AG):Bool:=Cy w.cT&&(JD w.cT w.db&&(decide (w.AB.length<=16)&&(aW w&&V4 w.cT w.db.dc [] w.db w.AB)))
theorem uU:∀(l:iq)(a:Int),(∀t∈l,I4 c t=true)->(∀t∈l,a<t)->l.Pairwise (· < ·)->Jb c a l=true:=by
 intro l;induction l with
 |nil=>exactλ_ _ _ _=>rfl
 |cons x r ih=>intro a d e b;obtain⟨f,g⟩:=List.pairwise_cons.1 b;unfold Jb;simp_all
theorem zE(h:s.dc.length=wv.AA.length):I4 s.dc u=true↔zD wv s.dc u:=by unfold I4 zD;simp_all
theorem xM(a b:jm)(t:Int):It (a++b) t=It a t++It b t:=by unfold It;simp_all
variable{B F:jD}
theorem isIn_new(h:KM (B++F) o=true):JE B.length F o=true:=by
 unfold JE;by_cases f:o<(B.length:Int)
 . simp[f]
 . unfold KM at h |-;simp only[AAT]at h;have d:=BI.1 h.1;simp only[AA8]at d;have e:Cp (o-B.length) F.length=true:=BI.2 ah;have c:=h.2;unfold ix at c;rw[AAx ah,show o.toNat-B.length=(o-(B.length:Int)).toNat from by omega]at c;rw[e];unfold ix;grind
variable{pre0:jm}
theorem posW_ok(e:∀u,Cp u wv.AA.length=true->ix c u=((It pre0 u).length:Int)):∀(l pre:jm)(s:AD),(Fe wv (pre0++pre) s l).2=0->V4 wv c pre s l=true:=by
 intro l;induction l with
 |nil=>exactλ_ _ _=>rfl
 |cons x r ih=>
  intro pre s h;rw[Fe]at h;split at h
  . rename_i a;rw[AAT]at a;rw[ABi]at h;unfold V4;rw[a.1,ih _ _ h];have g:=Kx a.1;have b:=a.2;unfold PW at b;unfold Zh;rw[xM,AAT]at b;rw[e _ g];have key:∀D:List Int,D.all (KM (It pre0 x.cr++It pre x.cr))=true->D.all (JE ((It pre0 x.cr).length:Int) (It pre x.cr))=true:=λD d=>AAY.2 λk f=>isIn_new (AAY.1 d k f);grind
  . cases h
variable{pre:jm}
theorem valid_of(I:Cy wv=true)(h:WI wv pre s){l:jm}(G:l.length<=16)(hn:pre.length+l.length<=400)(J:(Fe wv pre s l).2=0):MJ ⟨wv,(pre.length:Int),s,l⟩=true:=by
 obtain⟨f1,f2,f3,f4⟩:=Jx h.f;obtain⟨N,O,P⟩:=EO f1;have g:∀j:Nat,j<wv.AA.length->Cp (j:Int) wv.AA.length=true:=λj v=>BI.2 ah;have D:∀u,Cp u wv.AA.length=true->0<=ix s.dc u/\ix s.dc u<=pre.length:=λu H=>by have:=KP pre u;rw[h.c u H];omega
 have B:∀{u},zD wv s.dc u->I4 s.dc u=true:=λh=>(zE f4).2 h;unfold MJ aW;simp only[I,h.f,AAq,AAT,AAl];refine⟨G,⟨?_,?_,?_,?_,?_,?_,?_⟩,posW_ok (pre0:=pre) h.c l [] s am⟩
 . unfold Lg;simp only[AAT,AAl,AAh];refine⟨Iw.2 λj _ v=> ?_,h.m.symm,by rw[h.m];omega⟩;grind
 . refine Iw.2 λj _ v=> ?_;have i:j<wv.AA.length:=ah;have T:=h.y.t j (g j i);have C:=T.b;unfold zD at C;rw[g j i]at C
   have:=D j (g j i);have F:=T.s;unfold Oo I7;simp only;generalize ix s.de.AA (j:Int)=x at T C F |-;generalize K:ix s.dc (j:Int)=q at C this |-;simp only[AAT,AAl];refine⟨F,?_,?_,?_⟩
   . grind
   . have M:=T.z;grind
   . unfold T1;by_cases k:x.dg=3\/x.dg=4
     . rw[AAb am];exact(T.c k).1
     . rw[AAa am];simpa using T.n ah ah
 . refine Iw.2 λj _ v=> ?_;have i:j<wv.AA.length:=ah;have T:=h.y.t j (g j i);unfold Xd I7 T1;simp only;generalize ix s.de.AA (j:Int)=x at T |-;by_cases k:x.dg=3\/x.dg=4
   . have:=(T.c k).2;simp[this]
   simp_all
 . refine Iw.2 λj _ v=> ?_;have i:j<wv.AK.length:=ah;have L:=h.y.l j (BI.2 ah);unfold Ov;simp only;generalize ix s.de.AK (j:Int)=x at L |-;simp only[AAT,AAt,AAh];refine⟨?_,?_,uU _ _ (λt E=>B (L.r t E)) (λt E=> ?_) L.p⟩
   . by_cases e:x.B9= -1
     . omega
     . exact .inr (B (L.o e))
   . by_cases e:x.An=[]
     . simp_all
     . exact .inr (L.w e)
   . have:=(BI.1 (L.r t E).1).1;omega
 . unfold txW;simp only[AAt,AAh];by_cases e:s.de.Tx= -1
   . omega
   . exact .inr (B (h.y.x e))
 . refine Iw.2 λj _ v=> ?_;have i:j<wv.AA.length:=ah;have T:=h.y.t j (g j i);unfold NS I7;simp only;generalize ix s.de.AA (j:Int)=x at T |-;cases ha:x.dy with
   |false=>rfl
   |true=>exact B (T.b.2 (T.a ha))
 . refine Iw.2 λj _ v=> ?_;have i:j<wv.AL.length:=ah;unfold cB;simp only;cases hd:ix s.de.Bp (j:Int)with
   |true=>rfl
   |false=>simpa using h.d j (BI.2 ah) hd
def Ig(t:Ca)(n:Nat):AD:=(t.AB.take n).foldl (F7 t.cT) (Hi t.cT)
variable{t:Ca}
theorem QV(h:n<t.AB.length):Ig t (n+1)=F7 t.cT (Ig t n) t.AB[n]:=by unfold Ig;rw[<- AAp h,List.foldl_append];rfl
theorem rO(d:Cy t.cT=true)(g:t.AB.length<=400)(e:Fe t.cT [] (Hi t.cT) t.AB=(0,0)):∀n,n<=t.AB.length->WI t.cT (t.AB.take n) (Ig t n)/\Fe t.cT (t.AB.take n) (Ig t n) (t.AB.drop n)=(0,0):=by
 have f:=Rv d;intro n;induction n with
 |zero=>intro _;exact⟨WI.start d,e⟩
 |succ n ih=>
  intro hn;obtain⟨a,b⟩:=ih ah;rw[ABQ ah,Fe]at b;split at b
  . rename_i c;rw[AAT]at c;rw[QV ah,<- AAp ah];exact⟨a.next f an c.1,b⟩
  simp_all
theorem sA:∀(a b:jm) pre s,Fe wv pre s (a++b)=(0,0)->Fe wv pre s a=(0,0):=by
 intro a;induction a with
 |nil=>intro b pre s _;rfl
 |cons x r ih=>intro b pre s h;rw[ABE,Fe]at h;rw[Fe];grind
def winS(t:Ca)(size i:Nat):AG:=⟨t.cT,(i:Int),Ig t i,(t.AB.drop i).take size⟩
theorem vP(c:Cy t.cT=true)(f:t.AB.length<=400)(e:Fe t.cT [] (Hi t.cT) t.AB=(0,0))(g:k<=16)(hi:n<=t.AB.length):MJ (winS t k n)=true:=by
 obtain⟨a,b⟩:=rO c f e n hi;have d:Fe t.cT (t.AB.take n) (Ig t n) ((t.AB.drop n).take k)=(0,0):=sA _ ((t.AB.drop n).drop k) _ _ (by rw[ABS];exact b)
 have:=valid_of c a (l:=(t.AB.drop n).take k) an an (by rw[d]);rw[List.length_take,Nat.min_eq_left hi]at this;exact this
theorem Ks{L:Nat->Int->ABu Bool}{R:ABu Bool}(b:∀(n i:Nat),i<k->L (n+1) (i:Int)=if p i=true then L n ((i+1:Nat):Int)else some false)(a:∀n,L (n+1) (k:Int)=R):∀n i:Nat,i<=k->k<n+i->L n (i:Int)=if G1 p i (k-i)=true then R else some false
 |0,i,h1,h2=>ah
 |n+1,i,h1,h2=>by
  by_cases hi:i<k
  . rw[b n i hi,show k-i=(k-(i+1))+1 from by omega,G1];cases hp:p i with
    |false=>rfl
    |true=>rw[AAb rfl,AAq,Ks b a n (i+1) ah ah]
  . have:i=k:=ah;subst this;rw[a,Nat.sub_self];rfl
def zQ(w:AG)(i:Nat):Bool:=decide (0<=ix w.db.dc i)&&decide (ix w.db.dc i<=400)
theorem XA(w:AG)(b:w.db.dc.length<=4):∀(n i:Nat)(c:Int),i<=w.db.dc.length->w.db.dc.length<n+i->0<=c->c<=400*i->CS.AW w n c (i:Int)=if G1 (zQ w) i (w.db.dc.length-i)=true then CS.J2 w (c+(w.db.dc.drop i).sum)else some false
 |0,i,c,h1,h2,h3,h4=>ah
 |n+1,i,c,h1,h2,h3,h4=>by
  unfold CS.AW CS.L1;by_cases hi:i<w.db.dc.length
  . rw[BC ah,B4 hi,AAS,show w.db.dc.length-i=(w.db.dc.length-(i+1))+1 from by omega,G1,EH hi,List.sum_cons];unfold zQ CS.J1;rw[IK hi];generalize w.db.dc[i]=d;by_cases a:d<0
    . grind
    . rw[Ad a];by_cases g2:d>400
      . grind
      . rw[show decide (d>400)=false from by simp_all,AAa ak,CG ah ah,Af ah,XA w b n (i+1) _ ah ah ah ah,show decide (0<=d)=true from by simp;omega,show decide (d<=400)=true from by simp;omega,Int.add_assoc];rfl
  . rw[Ad ah,E6 hi,List.sum_nil,Int.add_zero,show w.db.dc.length-i=0 from by omega];rfl
theorem Wr(w:AG)(b:w.db.dc.length<=4):∀(n i:Nat)(c:Int),i<=w.db.dc.length->w.db.dc.length<n+i->0<=c->c<=400*i->Fv.AW w n c (i:Int)=CS.AW w n c (i:Int)
 |0,i,c,h1,h2,h3,h4=>ah
 |n+1,i,c,h1,h2,h3,h4=>by
  unfold Fv.AW Fv.L1 CS.AW CS.L1;by_cases hi:i<w.db.dc.length
  . rw[BC ah,BC ah,B4 hi,AAS,AAS];unfold Fv.J1 CS.J1;rw[B4 hi,AAS];generalize w.db.dc[i]=d;by_cases a:d<0
    . simp_all
    . rw[Ad a,Ad a];by_cases g2:d>400
      . simp_all
      . rw[show decide (d>400)=false from by simp_all,AAa ak,AAa ak,CG ah ah,Af ah,Wr w b n (i+1) _ ah ah ah ah]
  . rw[Ad ah,Ad ah];rfl
theorem Yu(w:AG)(e:w.db.dc.length<=4)(k:w.AB.length<=16):CS w=some (Lg w):=by
 have i:=BP;unfold CS
 have:=XA w e BT 0 0 ah ah ah ah;rw[Int.natCast_zero]at this;rw[this,Nat.sub_zero,AAz,Int.zero_add];unfold Lg;change (if G1 (zQ w) 0 _=true then _ else _)=some (G1 (zQ w) 0 _&&_)
 cases ha:G1 (zQ w) 0 w.db.dc.length with
 |false=>rfl
 |true=>
  rw[AAb rfl,AAq];unfold CS.J2 CS.J3;have m:0<=w.db.dc.sum/\w.db.dc.sum<=1600:=by
   have c:=Iw.1 ha;have key:∀l:List Int,(∀x∈l,0<=x/\x<=400)->0<=l.sum/\l.sum<=400*l.length:=by
    intro l;induction l with
    |nil=>grind
    |cons x l ih=>intro h;have a:=h x ak;have b:=ih λy g=>h y (by simp[g]);grind
   have:=key w.db.dc λx f=>by
    obtain⟨j,d,rfl⟩:=ABX f
    have:=c j ah ah;unfold zQ at this;rw[IK d]at this;simp_all
   omega
  rw[CG ah ah];grind
theorem uS(w:AG)(a:w.db.dc.length<=4)(b:w.AB.length<=16):Fv w=some (Lg w):=by rw[<- Yu w a b];exact Wr w a BT 0 0 ah bh ah ah
theorem p5(f:∀x,x<0->P x)(g:∀x,5<x->P x)(a0:P 0)(a:P 1)(b:P 2)(c:P 3)(d:P 4)(e:P 5)(x:Int):P x:=aS
structure WinF (w:AG):Prop where
 v:Cy w.cT=true
 f:JD w.cT w.db=true
 e:w.AB.length<=16
structure NO (w:AG):Prop where
 s:Small w.cT
 l:w.db.de.AK.length=w.cT.AK.length
 d:w.db.de.Bp.length=w.cT.AL.length
 t:w.db.de.AA.length=w.cT.AA.length
 u:w.db.AL.length=w.cT.AL.length
 c:w.db.dc.length=w.cT.AA.length
 m:∀o,Cp o w.cT.Ak.length=true->Cp (ix w.cT.Ak o).dm w.cT.AK.length=true
variable{w:AG}
theorem WinF.l(h:WinF w):NO w:=by obtain⟨f1,f2,f3,f4⟩:=Jx h.f;obtain⟨b,c,d⟩:=EO f1;exact⟨Di h.v,b,c,d,f3,f4,λo a=>Ho f1 a⟩
theorem lF(h:NO w)(n i:Nat)(hi:i<w.db.de.AA.length):
 BM.AW w (n+1) (i:Int)=if(Oo w i (I7 w i)&&Xd w i (I7 w i))=true then BM.AW w n ((i+1:Nat):Int)else some false:=by
 have f:=h.s.t;have g:=h.t;have j:=h.c;rw[BM.AW];unfold BM.L1 I7;rw[BC ah,B4 hi,AAS,IK hi];generalize w.db.de.AA[i]=x;unfold BM.J1 BM.J2 BM.J3 BM.J4 BM.J5;rw[Af ah];generalize BM.AW w n ((i+1:Nat):Int)=R;rw[B6 (l:=w.db.dc) (BI.2 ah)];simp only[AAS,AAy,AAk,AAd];unfold Oo Xd T1;have e:((i:Int)==0)=(i==0):=by rw[ABs,AAh,AAh];omega
 rw[e];generalize (ix w.db.dc (i:Int)==0)=c;have d:(if decide (x.Dy<0)=true then some false else if decide (x.Dy>=(w.cT.Ak.length:Int))=true then some false else
  (gt w.cT.Ak x.Dy).bind λl=>(gt w.db.de.AK l.dm).bind λo=>if(o.B9==(i:Int))=true then some false else R)=
  if(Cp x.Dy w.cT.Ak.length&&(ix w.db.de.AK (ix w.cT.Ak x.Dy).dm).B9 != (i:Int))=true then R else some false:=by
  by_cases b:x.Dy<0
  . rw[BC b,show Cp x.Dy w.cT.Ak.length=false from by rw[Bool.eq_false_iff];intro h;have:=BI.1 h;omega];rfl
  . rw[Ad b];by_cases g2:x.Dy>=(w.cT.Ak.length:Int)
    . rw[BC g2,show Cp x.Dy w.cT.Ak.length=false from by rw[Bool.eq_false_iff];intro h;have:=BI.1 h;omega];rfl
    . have a:Cp x.Dy w.cT.Ak.length=true:=BI.2 ah;rw[Ad g2,B6 a,AAS,B6 (by rw[h.l];exact h.m _ a),AAS,a,AAq];simp_all
 generalize x.Dy=co at d |-;generalize x.dg=st;revert st;refine p5 ?_ ?_ ?_ ?_ ?_ ?_ ?_ ?_
 all_goals grind
def Ww(i:Int)(n:Nat):MA i (n:Int)=some (Cp i n):=Oq i n
theorem u7(h:NO w)(n i:Nat)(hi:i<w.db.de.AA.length):
 CQ.AW w (n+1) (i:Int)=if Oo w i (I7 w i)=true then CQ.AW w n ((i+1:Nat):Int)else some false:=by
 have d:=h.s.t;have e:=h.t;have f:=h.c;rw[CQ.AW];unfold CQ.L1 I7;unfold CQ.J1 CQ.J2 CQ.J3 CQ.J4;rw[BC ah,B4 hi,IK hi];generalize w.db.de.AA[i]=x;rw[Af ah];generalize CQ.AW w n ((i+1:Nat):Int)=R;rw[B6 (l:=w.db.dc) (BI.2 ah)];simp only[AAS,AAy,AAk,AAd,Ww];unfold Oo T1;have a:((i:Int)==0)=(i==0):=by rw[ABs,AAh,AAh];omega
 rw[a];generalize (ix w.db.dc (i:Int)==0)=c;generalize Cp x.Dy w.cT.Ak.length=b;generalize x.Dy=co;generalize x.dg=st;revert st;refine p5 ?_ ?_ ?_ ?_ ?_ ?_ ?_ ?_
 all_goals grind
theorem Ru(w:AG)(t:Int):CH t w=some (I4 w.db.dc t):=by
 unfold CH CH.J1 I4;by_cases h:Cp t w.db.dc.length=true
 . have:=BI.1 h;rw[BC ah,BC ah,B6 h,h];rfl
 . rw[show Cp t w.db.dc.length=false from by grind];by_cases g:t>=0
   . rw[BC g,Ad (λk=>h (BI.2 ⟨g,k⟩))];rfl
   grind
theorem Rp(w:AG)(t:Int):GF w t=some (I4 w.db.dc t):=by
 unfold GF GF.J1 I4;rw[Ww,AAS];cases h:Cp t w.db.dc.length with
 |true=>rw[AAb rfl,B6 h];rfl
 |false=>rfl
theorem qB(w:AG)(x:AY)(c:x.An.length<=4611686018427387904)(L1:ir)(b:Int):∀(n e:Nat)(f:Int),e<=x.An.length->x.An.length<n+e->
 Ah.CC L1 b w x n f (e:Int)=if Jb w.db.dc f (x.An.drop e)=true then L1 (A6 (b+1))else some false
 |0,e,f,h1,h2=>ah
 |n+1,e,f,h1,h2=>by
  unfold Ah.CC Ah.L2;by_cases a:e<x.An.length
  . rw[BC ah,B4 a,AAS,EH a,Jb,Ru,AAS];unfold Ah.J3;by_cases g:x.An[e]<=f
    . grind
    . rw[Ad g,show decide (f<x.An[e])=true from by grind,AAq,Af ah];cases I4 w.db.dc x.An[e]with
      |false=>rfl
      |true=>rw[AAa ak,AAq];exact qB w x c L1 b n (e+1) _ ah ah
  . rw[Ad ah,E6 a];rfl
theorem pF(w:AG)(x:AY)(c:x.An.length<=4611686018427387904)(L1:ir)(b:Int):∀(n e:Nat)(f:Int),e<=x.An.length->x.An.length<n+e->
 (∀(h:0<e)(d:e-1<x.An.length),f=x.An[e-1])->(e=0->f= -1)->
 A9.CC L1 b w x n (e:Int)=if Jb w.db.dc f (x.An.drop e)=true then L1 (A6 (b+1))else some false
 |0,e,f,h1,h2,_,_=>ah
 |n+1,e,f,h1,h2,h3,h4=>by
  unfold A9.CC A9.L2;by_cases a:e<x.An.length
  . rw[BC ah,B4 a,AAS,EH a,Jb,Rp,AAS];unfold A9.J2;have i:=pF w x c L1 b n (e+1) x.An[e] ah ah (λ_ _=>rfl) bN;cases hb:I4 w.db.dc x.An[e]with
    |false=>simp_all
    |true=>
     have j:=BI.1 (AAT _ _▸hb).1;rw[AAa ak,Af ah,AAq];by_cases g:0<e
     . rw[BC ah,CG ah ah,show(e:Int)-1=((e-1:Nat):Int)from by omega,B4 ah,AAS,<- h3 g ah];grind
     grind
  . rw[Ad ah,E6 a];rfl
theorem Wj(l:List a):decide ((l.length:Int)>0)= !l.isEmpty:=by cases l<;>simp<;>omega
theorem vL(h:NO w)(c:RB 4611686018427387904 w.db.de)(n i:Nat)(hi:i<w.db.de.AK.length):
 Ah.AW w (n+1) (i:Int)=if Ov w i (ix w.db.de.AK i)=true then Ah.AW w n ((i+1:Nat):Int)else some false:=by
 have d:=h.s.l;have e:=h.l;rw[Ah.AW];unfold Ah.L1;rw[BC ah,B4 hi,AAS,IK hi,Ru,AAS];have b:=c _ (AAi hi);generalize w.db.de.AK[i]=x at b |-;unfold Ah.J1 Ah.J2;have a:=qB w x b (Ah.AW w n) i BT 0 (-1) ah bh;rw[Int.natCast_zero,AAz,Af ah]at a;rw[a,Wj,B6 (BI.2 ah),AAS];generalize Ah.AW w n ((i+1:Nat):Int)=R;unfold Ov;grind
theorem uZ(h:NO w)(c:RB 4611686018427387904 w.db.de)(n i:Nat)(hi:i<w.db.de.AK.length):
 A9.AW w (n+1) (i:Int)=if Ov w i (ix w.db.de.AK i)=true then A9.AW w n ((i+1:Nat):Int)else some false:=by
 have d:=h.s.l;have e:=h.l;rw[A9.AW];unfold A9.L1;rw[BC ah,B4 hi,AAS,IK hi,Rp,AAS];have b:=c _ (AAi hi);generalize w.db.de.AK[i]=x at b |-;unfold A9.J1;have a:=pF w x b (A9.AW w n) i BT 0 (-1) ah bh bN (λ_=>rfl);rw[Int.natCast_zero,AAz,Af ah]at a;rw[a,Wj,B6 (BI.2 ah),AAS];generalize A9.AW w n ((i+1:Nat):Int)=R;unfold Ov;grind
theorem vK(h:NO w)(n i:Nat)(hi:i<w.db.de.AA.length):
 Ah.Gc w (n+1) (i:Int)=if NS w i (I7 w i)=true then Ah.Gc w n ((i+1:Nat):Int)else some false:=by
 have a:=h.s.t;have b:=h.t;rw[Ah.Gc];unfold Ah.L3 Ah.J7 I7 NS;rw[BC ah,B4 hi,AAS,IK hi,Ru,AAS,Af ah];grind
theorem uR(h:NO w)(n i:Nat)(hi:i<w.db.de.AA.length)(c:Oo w i (I7 w i)=true):
 A9.Gc w (n+1) (i:Int)=if(NS w i (I7 w i)&&Xd w i (I7 w i))=true then A9.Gc w n ((i+1:Nat):Int)else some false:=by
 have e:=h.s.t;have f:=h.t;rw[A9.Gc];unfold A9.L3 A9.J6 A9.J7;unfold Oo at c;unfold I7 at c |-;unfold NS Xd;rw[BC ah,B4 hi,AAS,IK hi,Rp,AAS,Af ah];rw[IK hi]at c;generalize A9.Gc w n ((i+1:Nat):Int)=R;generalize w.db.de.AA[i]=x at c |-;simp only[AAT]at c;obtain⟨_,_,_,b⟩:=c;unfold T1 at b |-;have d:∀(a:Bool),(if(!a)=true then some false else if(x.dg==3)=true then(gt w.cT.Ak x.Dy).bind λz=>(gt w.db.de.AK z.dm).bind λq=>if(q.B9==(i:Int))=true then some false else R
  else if(x.dg==4)=true then(gt w.cT.Ak x.Dy).bind λz=>(gt w.db.de.AK z.dm).bind λq=>if(q.B9==(i:Int))=true then some false else R else if false=true then some false else R)=
  if(a&&(!(x.dg==3||x.dg==4)||(ix w.db.de.AK (ix w.cT.Ak x.Dy).dm).B9 != (i:Int)))=true then R else some false:=by
  intro a;cases a with
  |false=>rfl
  |true=>
   rw[AAa ak,AAq];cases g3:x.dg==3 with
   |true=>rw[g3]at b;have b:Cp x.Dy w.cT.Ak.length=true:=(by simpa using b);rw[AAb rfl,B6 b,AAS,B6 (by rw[h.l];exact h.m _ b),AAS];simp_all
   |false=>
    cases g4:x.dg==4 with
    |true=>rw[g3,g4]at b;have b:Cp x.Dy w.cT.Ak.length=true:=(by simpa using b);rw[AAa ak,AAb rfl,B6 b,AAS,B6 (by rw[h.l];exact h.m _ b),AAS];simp_all
    |false=>rfl
 grind
theorem vfut_step(h:NO w)(n i:Nat)(hi:i<w.db.AL.length):
 Bx.AW w.db (n+1) (i:Int)=if cB w i=true then Bx.AW w.db n ((i+1:Nat):Int)else some false:=by
 have a:=h.s.f;have b:=h.d;have c:=h.u;rw[Bx.AW];unfold Bx.L1 Bx.J1 cB;rw[BC ah,B6 (BI.2 ah),AAS,B6 (BI.2 ah),AAS,Af ah];grind
theorem rfut_step(h:NO w)(n i:Nat)(hi:i<w.db.AL.length):
 CB.AW w (n+1) (i:Int)=if cB w i=true then CB.AW w n ((i+1:Nat):Int)else some false:=by
 have a:=h.s.f;have b:=h.d;have c:=h.u;rw[CB.AW];unfold CB.L1 CB.J2 cB;rw[BC ah,B6 (BI.2 ah),AAS,B6 (BI.2 ah),AAS,Af ah];grind
theorem iteB(b:Bool):(if b=true then some true else some false)=some b:=aS
theorem qC(h:NO w):BM w=some (G1 (λi=>Oo w i (I7 w i)) 0 w.db.de.AA.length&&G1 (λi=>Xd w i (I7 w i)) 0 w.db.de.AA.length):=by have a:=h.s.t;have b:=h.t;have c:=BP;rw[<- Ya,<- iteB];exact Ks (L:=BM.AW w) (R:=some true) (λn i hi=>lF h n i hi) (λn=>by rw[BM.AW];unfold BM.L1;rw[Ad ah];rfl) BT 0 ah ah
theorem kJ(h:NO w):CQ w=some (G1 (λi=>Oo w i (I7 w i)) 0 w.db.de.AA.length):=by have a:=h.s.t;have b:=h.t;have c:=BP;rw[<- iteB];exact Ks (L:=CQ.AW w) (R:=some true) (λn i hi=>u7 h n i hi) (λn=>by rw[CQ.AW];unfold CQ.L1;rw[Ad ah];rfl) BT 0 ah ah
theorem qA(h:NO w)(b:RB 4611686018427387904 w.db.de):Ah w=some (G1 (λi=>Ov w i (ix w.db.de.AK i)) 0 w.db.de.AK.length&&(txW w&&G1 (λi=>NS w i (I7 w i)) 0 w.db.de.AA.length)):=by
 have c:=h.s.l;have d:=h.l;have e:=h.s.t;have f:=h.t;have j:=BP;have a:Ah.Gc w BT 0=some (G1 (λi=>NS w i (I7 w i)) 0 w.db.de.AA.length):=by rw[<- iteB];exact Ks (L:=Ah.Gc w) (R:=some true) (λn i hi=>vK h n i hi) (λn=>by rw[Ah.Gc];unfold Ah.L3;rw[Ad ah];rfl) BT 0 ah ah
 have g:Ah.J5 w=some (txW w&&G1 (λi=>NS w i (I7 w i)) 0 w.db.de.AA.length):=by unfold Ah.J5 Ah.J6 txW;rw[a,Ru,AAS];unfold bne;cases w.db.de.Tx== -1<;>cases I4 w.db.dc w.db.de.Tx<;>rfl
 refine(Ks (L:=Ah.AW w) (R:=Ah.J5 w) (λn i hi=>vL h b n i hi) (λn=>by rw[Ah.AW];unfold Ah.L1;simp_all) BT 0 ah ah).trans ?_;grind
variable{q:js}
theorem loop_all'{L:Nat->Int->ABu Bool}{R:ABu Bool}(b:G1 q 0 k=true)(c:∀(n i:Nat),i<k->q i=true->L (n+1) (i:Int)=if p i=true then L n ((i+1:Nat):Int)else some false)(a:∀n,L (n+1) (k:Int)=R):∀n i:Nat,i<=k->k<n+i->L n (i:Int)=if G1 p i (k-i)=true then R else some false:=
 Ks (λn i hi=>c n i hi (Iw.1 b i ah ah)) a
theorem o9(h:NO w)(c:RB 4611686018427387904 w.db.de)(d:G1 (λi=>Oo w i (I7 w i)) 0 w.db.de.AA.length=true):
 A9 w=some (G1 (λi=>Ov w i (ix w.db.de.AK i)) 0 w.db.de.AK.length&&(txW w&&(G1 (λi=>NS w i (I7 w i)) 0 w.db.de.AA.length&&G1 (λi=>Xd w i (I7 w i)) 0 w.db.de.AA.length))):=by
 have e:=h.s.l;have f:=h.l;have g:=h.s.t;have j:=h.t;have m:=BP;have a:A9.Gc w BT 0=some (G1 (λi=>NS w i (I7 w i)) 0 w.db.de.AA.length&&G1 (λi=>Xd w i (I7 w i)) 0 w.db.de.AA.length):=by rw[<- Ya,<- iteB];exact loop_all' (L:=A9.Gc w) (R:=some true) d (λn i hi b=>uR h n i hi b) (λn=>by rw[A9.Gc];unfold A9.L3;rw[Ad ah];rfl) BT 0 ah ah
 have k:A9.J4 w=some (txW w&&(G1 (λi=>NS w i (I7 w i)) 0 w.db.de.AA.length&&G1 (λi=>Xd w i (I7 w i)) 0 w.db.de.AA.length)):=by unfold A9.J4 A9.J5 txW;rw[a,Rp,AAS];unfold bne;cases w.db.de.Tx== -1<;>cases I4 w.db.dc w.db.de.Tx<;>rfl
 refine(Ks (L:=A9.AW w) (R:=A9.J4 w) (λn i hi=>uZ h c n i hi) (λn=>by rw[A9.AW];unfold A9.L1;simp_all) BT 0 ah ah).trans ?_;grind
theorem p9(h:NO w):Bx w.db=some (G1 (cB w) 0 w.db.AL.length):=by have a:=h.s.f;have b:=h.d;have c:=h.u;have e:=BP;rw[<- iteB];exact Ks (L:=Bx.AW w.db) (R:=some true) (λn i hi=>vfut_step h n i hi) (λn=>by rw[Bx.AW];unfold Bx.L1;rw[Ad ah];rfl) BT 0 ah ah
theorem o8(h:NO w):CB.AW w BT 0=if G1 (cB w) 0 w.db.AL.length=true then CB.J3 w else some false:=by have a:=h.s.f;have b:=h.d;have c:=h.u;have e:=BP;exact Ks (L:=CB.AW w) (R:=CB.J3 w) (λn i hi=>rfut_step h n i hi) (λn=>by rw[CB.AW];unfold CB.L1;simp_all) BT 0 ah ah
theorem jW:∀(D:iq)(a:Int),GZ o a D=true->∀k∈D,a<k/\k<o:=by
 intro D;induction D with
 |nil=>simp_all
 |cons x r ih=>intro a h k b;unfold GZ at h;grind
variable{x:AH}
theorem bG(h:Hc wv s x=true):(∀k∈x.EA,1<=k/\k<ix s.dc x.cr)/\∀k∈x.DW,1<=k/\k<ix s.dc x.cr:=by unfold Hc Ek at h;simp only[AAT]at h;obtain⟨_,_,_,_,⟨⟨_,b⟩,_,c⟩,_⟩:=h;exact⟨λk a=>by have:=jW _ _ b k a;omega,λk a=>by have:=jW _ _ c k a;omega⟩
theorem oS:∀(l:iq)(a:Int),a<c.length->Jb c a l=true->(l.length:Int)+a+1<=c.length:=by
 intro l;induction l with
 |nil=>grind
 |cons t r ih=>intro a h b;unfold Jb I4 at b;simp only[AAT,AAl]at b;have d:=BI.1 b.2.1.1;grind
theorem RB_of(h:NO w)(b:G1 (λi=>Ov w i (ix w.db.de.AK i)) 0 w.db.de.AK.length=true):RB 4 w.db.de:=by
 intro x d;obtain⟨j,a,rfl⟩:=ABX d
 have:=Iw.1 b j ah ah;unfold Ov at this;rw[IK a]at this;simp only[AAT]at this
 have:=oS _ _ ah this.2.2;have e:=h.s.t;have f:=h.c;omega
def CI(c:iq)(nt:Nat)(pre:jm)(s:AD):Prop:=s.dc.length=nt/\∀u,Cp u nt=true->ix s.dc u=ix c u+((It pre u).length:Int)
theorem CI.next(h:CI c k pre s)(a:Cp x.cr k=true)(d:∀u,Cp u k=true->0<=ix c u/\ix c u<=400)(l:pre.length<=1000):CI c k (pre++[x]) (F7 wv s x):=by
 refine⟨by simpa[F7]using h.1,λu b=> ?_⟩;obtain⟨g,i⟩:=BI.1 a;obtain⟨j,nt⟩:=BI.1 b;rw[NB];show ix (s.dc.set x.cr.toNat (A6 (ix s.dc x.cr+1))) u=_;have m:=d _ a;have f:=h.2 _ a;have hn:=KP pre x.cr;by_cases e:x.cr=u
 . subst e;rw[AAb rfl];unfold ix;rw[AAX (by have:=h.1;omega)];show A6 (ix s.dc x.cr+1)=ix c x.cr+_;rw[f,CG ah ah];grind
 . rw[AAa e,<- h.2 u b];unfold ix;grind
section
variable{w:AG}
theorem pos.L3(L2:ir)(l:iq)(R:jp)(t:Int)(x:AH)(g:l.length<4611686018427387904)(f:∀k∈l,1<=k/\k<1000000)(d:gt R x.cr=some B)(e:gt w.db.dc x.cr=some (ix w.db.dc x.cr))(b:0<=ix w.db.dc x.cr/\ix w.db.dc x.cr<=400):∀(n i:Nat),i<=l.length->l.length<n+i->
 Az.Gc L2 l R t w x n (i:Int)=if(l.drop i).all (JE (ix w.db.dc x.cr) B)=true then L2 (A6 (t+1))else some false
 |0,i,h1,h2=>ah
 |n+1,i,h1,h2=>by
  rw[Az.Gc];unfold Az.L3;by_cases hi:i<l.length
  . unfold Az.J2;have j:=f _ (AAi hi);rw[BC ah,B4 hi,AAS,e,AAS,EH hi,Af ah,pos.L3 L2 l R t x g f d e b n (i+1) ah ah,ABF,d,AAS];generalize l[i]=k at j |-;generalize (l.drop (i+1)).all (JE (ix w.db.dc x.cr) B)=q;generalize ix w.db.dc x.cr=c at b |-;rw[CG ah ah];unfold JE KM;by_cases m:k<c
    . grind
    . rw[BC ah,show decide (k<c)=false from by simp_all];by_cases a:k-c>=(B.length:Int)
      . rw[BC a,show Cp (k-c) B.length=false from by simp[Cp];omega];rfl
      . have h:Cp (k-c) B.length=true:=br;rw[Ad a,B6 h,AAS,h];grind
  . rw[Ad ah,E6 hi];rfl
theorem pos.L2(L1:AD->List (List Bool)->Int->ABu Bool)(R:jp)(t:Int)(v:ls)(x:AH)(b:KE x)(hd:∀k∈x.EA,1<=k/\k<1000000)(f:∀k∈x.DW,1<=k/\k<1000000)(d:gt R x.cr=some B)(e:gt w.db.dc x.cr=some (ix w.db.dc x.cr))(c:0<=ix w.db.dc x.cr/\ix w.db.dc x.cr<=400):
 Az.CC L1 R t v w x BT 0=if(x.EA.all (JE (ix w.db.dc x.cr) B)&&x.DW.all (JE (ix w.db.dc x.cr) B))=true then Az.J4 L1 R t v x else some false:=by
 have n:=BP;have a:∀L1 t l,l.length<4611686018427387904->(∀k∈l,1<=k/\k<1000000)->Az.J1 L1 R t w x l=if l.all (JE (ix w.db.dc x.cr) B)=true then L1 (A6 (t+1))else some false:=by
  intro L1 t l h g
  have:=pos.L3 L1 l R t x h g d e c BT 0 ah ah;rw[AAz]at this;exact this
 rw[Yl];generalize BT-3=m;have j:Az.CC L1 R t v w x (m+1) 2=Az.J4 L1 R t v x:=by rw[Az.CC];unfold Az.L2;rfl
 have i:Az.CC L1 R t v w x (m+2) 1=if x.DW.all (JE (ix w.db.dc x.cr) B)=true then Az.J4 L1 R t v x else some false:=by rw[Az.CC];unfold Az.L2;rw[BC bg,AAa bg,AAb bg,a _ _ _ b.2 f,show A6 (1+1)=2 from rfl,j]
 rw[Az.CC];unfold Az.L2;rw[BC bg,AAb bg,a _ _ _ b.1 hd,show A6 (0+1)=1 from rfl,i];grind
theorem oP(h:NO w)(r:w.AB.length<=16)(l:∀e∈w.AB,KE e)(f:∀u,Cp u w.cT.AA.length=true->0<=ix w.db.dc u/\ix w.db.dc u<=400):∀(n i:Nat)(s:AD)(R:jp),i<=w.AB.length->w.AB.length<n+i->RB (4+i) s.de->R.length=w.cT.AA.length->(∀u:Nat,u<R.length->R[u]? =some (It (w.AB.take i) (u:Int)))->CI w.db.dc w.cT.AA.length (w.AB.take i) s->
 Az.AW w n s R (i:Int)=some (V4 w.cT w.db.dc (w.AB.take i) s (w.AB.drop i))
 |0,i,s,R,h1,h2,_,_,_,_=>ah
 |n+1,i,s,R,h1,h2,h3,h4,h5,h6=>by
  rw[Az.AW];unfold Az.L1;by_cases hi:i<w.AB.length
  . have o:=l _ (AAi hi);rw[BC ah,B4 hi,AAS,X6 w.cT h.s s (h3.mono ah) _ o,AAS,EH hi,V4];unfold P5;cases hp:Hc w.cT s w.AB[i]with
    |false=>rfl
    |true=>
     rw[AAb rfl,AAa (c:=(!true)=true) ak,AAq];have a:=Kx hp;obtain⟨q,z⟩:=BI.1 a;have v:w.AB[i].cr.toNat<R.length:=ah;have m:gt R w.AB[i].cr=some (It (w.AB.take i) w.AB[i].cr):=(by unfold gt;rw[AAb q,h5 _ v];congr 2;omega);have y:=KP (w.AB.take i) w.AB[i].cr;rw[ABk ah]at y;have g:=f _ a;have t:=h6.2 _ a;obtain⟨B,C⟩:=bG hp;rw[pos.L2 _ _ _ _ _ o (λk d=>aS) (λk d=>aS) m (B6 (by rw[h.c];exact a)) g];change (if Zh w.db.dc (w.AB.take i) w.AB[i]=true then _ else _)=_
     cases Zh w.db.dc (w.AB.take i) w.AB[i]with
     |false=>rfl
     |true=>
      unfold Az.J4;rw[AAb rfl,m,AAS,Ba ah,Ba ah,AAq];unfold Az.J5 Az.J6;have d:∀b,b=cG w.AB[i]->Az.AW w n (F7 w.cT s w.AB[i]) (R.set w.AB[i].cr.toNat (It (w.AB.take i) w.AB[i].cr++[b])) (A6 ((i:Int)+1))=some (V4 w.cT w.db.dc (w.AB.take i++[w.AB[i]]) (F7 w.cT s w.AB[i]) (w.AB.drop (i+1))):=by
       rintro b rfl;have j:=h6.next (wv:=w.cT) a f an;rw[Af ah];rw[AAp hi]at j |-;refine oP h r l f n (i+1) _ _ ah ah ?_ am ?_ j
       . exact(h3.apply _ _ _ _ _).mono ah
       . intro u x;rw[<- AAp hi,NB];grind
      by_cases p:w.AB[i].da=3
      . rw[AAb (by simp[p])];exact d _ (by simp[cG,p])
      . rw[AAa am];exact d _ (by simp[cG,show(w.AB[i].da==3)=false by simp_all])
  . rw[Ad ah,E6 hi];rfl
theorem cnt_of(h:NO w)(d:Lg w=true):∀u,Cp u w.cT.AA.length=true->0<=ix w.db.dc u/\ix w.db.dc u<=400:=by
 intro u e;unfold Lg at d;simp only[AAT]at d;obtain⟨a,b⟩:=BI.1 e;have f:=h.c
 have:=Iw.1 d.1 u.toNat ah ah;grind
theorem oQ(h:NO w)(f:w.AB.length<=16)(b:∀e∈w.AB,KE e)(d:Lg w=true)(g:RB 4 w.db.de):Az w=some (V4 w.cT w.db.dc [] w.db w.AB):=by
 have i:=h.s.t;have j:=BP;unfold Az;rw[AAb ⟨ah,ah,Bs ah⟩]
 have:=oP h f b (cnt_of h d) BT 0 w.db (List.replicate w.cT.AA.length []) ah ah g ak (by intro u a;simp at a;simp[a,It]) ⟨h.c,λu _=>by simp[It]⟩;simp_all
end
variable{r y z C f g:Bool}
section
variable{w:AG}
theorem YU(c:w.AB.length<=16)(t:Int):∀(n j d:Nat),j<=w.AB.length->w.AB.length<n+j->d<=1000000->∃r,Gx.AW t w n (d:Int) (j:Int)=some r/\(match(It (w.AB.drop j) t)[d]? with
 |some b=>∃(e:Nat)(h:e<w.AB.length),r=(e:Int)/\cG w.AB[e]=b
 |none=>r= -1)
 |0,j,d,h1,h2,_=>ah
 |n+1,j,d,h1,h2,h3=>by
  rw[Gx.AW];unfold Gx.L1 Gx.J1;by_cases a:j<w.AB.length
  . rw[BC ah,B4 a,AAS,EH a,oR,Af ah];by_cases g:w.AB[j].cr=t
    . rw[AAb aS,AAb g];cases d with
      |zero=>grind
      |succ d=>rw[AAa an,CG ah ah,show((d+1:Nat):Int)-1=(d:Int)from by omega,ABN];exact YU c t n (j+1) d ah ah ah
    . rw[AAa aS,AAa g];exact YU c t n (j+1) d ah ah h3
  . rw[Ad ah,E6 a];exact⟨_,rfl,rfl⟩
theorem Wz(m:w.AB.length<=16)(l:iq)(t:Int)(hn:l.length<4611686018427387904)(j:∀k∈l,1<=k/\k<1000000)(h:gt w.db.dc t=some (ix w.db.dc t))(g:0<=ix w.db.dc t/\ix w.db.dc t<=400):∀(n i:Nat),i<=l.length->l.length<n+i->
 FM.AW l t w n (i:Int)=some ((l.drop i).all (JE (ix w.db.dc t) (It w.AB t)))
 |0,i,h1,h2=>ah
 |n+1,i,h1,h2=>by
  rw[FM.AW];unfold FM.L1 FM.J1 FM.J2;by_cases hi:i<l.length
  . have f:=j _ (AAi hi);rw[BC ah,B4 hi,AAS,h,AAS,EH hi,Af ah,Wz m l t hn j h g n (i+1) ah ah,ABF];generalize l[i]=k at f |-;generalize (l.drop (i+1)).all (JE (ix w.db.dc t) (It w.AB t))=q;generalize ix w.db.dc t=c at g |-;rw[CG ah ah];unfold JE KM;by_cases p:k<c
    . simp_all
    . rw[Ad p,show decide (k<c)=false from by simp_all];obtain⟨r,o,d⟩:=YU m t BT 0 (k-c).toNat ah bh ah;rw[show(((k-c).toNat:Nat):Int)=k-c from by omega,show((0:Nat):Int)=0 from rfl]at o;rw[AAz]at d;unfold Gx;rw[o,AAS,Bool.false_or];cases hb:(It w.AB t)[(k-c).toNat]? with
      |none=>rw[hb]at d;have a:=List.getElem?_eq_none_iff.1 hb;rw[show Cp (k-c) (It w.AB t).length=false from by simp[Cp];omega];simp_all
      |some b=>rw[hb]at d;obtain⟨e,s,rfl,u⟩:=d;obtain⟨a,_⟩:=AAV.1 hb;rw[show Cp (k-c) (It w.AB t).length=true from by simp[Cp];omega,Ad ah,B4 s,AAS];have f:ix (It w.AB t) (k-c)=b:=(by unfold ix;rw[hb];rfl);rw[f,<- u];unfold cG;grind
  . rw[Ad ah,E6 hi];rfl
theorem fS(d:w.AB.length<=16)(l:iq)(t:Int)(hn:l.length<4611686018427387904)(c:∀k∈l,1<=k/\k<1000000)(b:gt w.db.dc t=some (ix w.db.dc t))(a:0<=ix w.db.dc t/\ix w.db.dc t<=400):
 FM w t l=some (l.all (JE (ix w.db.dc t) (It w.AB t))):=by
 have:=Wz d l t hn c b a BT 0 ah bh;rw[AAz]at this;exact this
theorem eZ(h:u<o+B.length):JE o (B++F) u=JE o B u:=by
 unfold JE KM;by_cases g:u<o
 . simp[g]
 . have d:Cp (u-o) (B++F).length=true:=br;have e:Cp (u-o) B.length=true:=br;rw[d,e];unfold ix;grind
theorem fT(h:NO w)(l:w.AB.length<=16)(o:∀e∈w.AB,KE e)(g:∀u,Cp u w.cT.AA.length=true->0<=ix w.db.dc u/\ix w.db.dc u<=400):∀(n i:Nat)(s:AD),i<=w.AB.length->w.AB.length<n+i->RB (4+i) s.de->CI w.db.dc w.cT.AA.length (w.AB.take i) s->
 CB.CC w n s (i:Int)=some (V4 w.cT w.db.dc (w.AB.take i) s (w.AB.drop i))
 |0,i,s,h1,h2,_,_=>ah
 |n+1,i,s,h1,h2,h3,h6=>by
  rw[CB.CC];unfold CB.L2 CB.J4;by_cases hi:i<w.AB.length
  . have j:=o _ (AAi hi);rw[BC ah,B4 hi,AAS,Qu w.cT h.s s (h3.mono ah) _ j,AAS,EH hi,V4];unfold P5;cases hp:Hc w.cT s w.AB[i]with
    |false=>rfl
    |true=>
     rw[AAb rfl,AAa (c:=(!true)=true) ak,AAq];have f:=Kx hp;have a:=g _ f;have v:=h6.2 _ f;have x:=KP (w.AB.take i) w.AB[i].cr;rw[ABk ah]at x;obtain⟨y,z⟩:=bG hp;have b:gt w.db.dc w.AB[i].cr=some (ix w.db.dc w.AB[i].cr):=B6 (by rw[h.c];exact f);have key:∀D:List Int,(∀k∈D,1<=k/\k<ix s.dc w.AB[i].cr)->D.all (JE (ix w.db.dc w.AB[i].cr) (It w.AB w.AB[i].cr))=D.all (JE (ix w.db.dc w.AB[i].cr) (It (w.AB.take i) w.AB[i].cr)):=by
      intro D q;have p:It w.AB w.AB[i].cr=It (w.AB.take i) w.AB[i].cr++It (w.AB.drop i) w.AB[i].cr:=(by rw[<- xM,ABS]);rw[p,ABs,AAY,AAY];constructor<;>intro r k d<;>have:=r k d<;>have t:=q k d
      . rwa [eZ ah]at this
      . rwa [eZ ah]
     rw[fS l _ _ j.1 (λk d=>aS) b a,AAS,fS l _ _ j.2 (λk d=>aS) b a,AAS,key _ y,key _ z];unfold Zh;cases w.AB[i].EA.all (JE (ix w.db.dc w.AB[i].cr) (It (w.AB.take i) w.AB[i].cr))with
     |false=>rfl
     |true=>
      cases w.AB[i].DW.all (JE (ix w.db.dc w.AB[i].cr) (It (w.AB.take i) w.AB[i].cr))with
      |false=>rfl
      |true=>rw[AAa (c:=(!true)=true) ak,AAa (c:=(!true)=true) ak,AAq,AAq,Af ah];have m:=h6.next (wv:=w.cT) f g an;rw[AAp hi]at m |-;exact fT h l o g n (i+1) _ ah ah ((h3.apply _ _ _ _ _).mono ah) m
  . rw[Ad ah,E6 hi];rfl
theorem vI{e:Bool}:(r&&(y&&(z&&(C&&(e&&(f&&g))))))=(r&&((y&&z)&&((C&&(e&&f))&&g))):=aS
theorem Valid_eq(f:∀e∈w.AB,KE e)(g:RB 4611686018427387904 w.db.de):FU w=some (MJ w):=by
 unfold FU MJ;rw[Sk,AAS];cases hv:Cy w.cT with
 |false=>rfl
 |true=>
  have d:=Di hv;rw[AAb rfl,AAq];have a:JR w.cT w.db=some (JD w.cT w.db):=NI _ d _;rw[a,AAS];cases hf:JD w.cT w.db with
  |false=>rfl
  |true=>
   rw[AAb rfl,AAq];by_cases b:w.AB.length<=16
   . have h:NO w:=WinF.l ⟨hv,hf,b⟩;rw[BC ah,show decide (w.AB.length<=16)=true from by simp_all,AAq,Yu w (by have:=d.t;have:=h.c;omega) b,AAS];unfold aW;rw[vI,qC h,AAS,qA h g,AAS,p9 h,AAS];cases hc:Lg w with
     |false=>rfl
     |true=>
      rw[AAb rfl,AAq];cases(G1 (λi=>Oo w i (I7 w i)) 0 w.db.de.AA.length&&G1 (λi=>Xd w i (I7 w i)) 0 w.db.de.AA.length)with
      |false=>rfl
      |true=>
       rw[AAb rfl,AAq];cases hL:(G1 (λi=>Ov w i (ix w.db.de.AK i)) 0 w.db.de.AK.length&&(txW w&&G1 (λi=>NS w i (I7 w i)) 0 w.db.de.AA.length))with
       |false=>rfl
       |true=>rw[AAT]at hL;rw[AAb rfl,AAq,oQ h b f hc (RB_of h hL.1)];cases G1 (cB w) 0 w.db.AL.length<;>rfl
   . rw[Ad ah,show decide (w.AB.length<=16)=false from by simp_all];rfl
theorem rValid_eq(d:∀e∈w.AB,KE e)(g:RB 4611686018427387904 w.db.de):CB w=some (MJ w):=by
 unfold CB MJ;rw[Ky,AAS];cases hv:Cy w.cT with
 |false=>rfl
 |true=>
  have b:=Di hv;rw[AAa (c:=(!true)=true) ak,AAq,Sz _ b,AAS];cases hf:JD w.cT w.db with
  |false=>rfl
  |true=>
   rw[AAa (c:=(!true)=true) ak,AAq];by_cases a:w.AB.length<=16
   . have h:NO w:=WinF.l ⟨hv,hf,a⟩;rw[Ad ah,show decide (w.AB.length<=16)=true from by simp_all,AAq,uS w (by have:=b.t;have:=h.c;omega) a,AAS,kJ h,AAS];unfold aW;cases hc:Lg w with
     |false=>rfl
     |true=>
      rw[AAa (c:=(!true)=true) ak,AAq];cases hs:G1 (λi=>Oo w i (I7 w i)) 0 w.db.de.AA.length with
      |false=>rfl
      |true=>
       rw[AAa (c:=(!true)=true) ak,AAq,o9 h g hs,AAS];unfold CB.J1;rw[o8 h];cases hL:G1 (λi=>Ov w i (ix w.db.de.AK i)) 0 w.db.de.AK.length with
       |false=>simp_all
       |true=>have f:CB.J3 w=some (V4 w.cT w.db.dc [] w.db w.AB):=(by have:=fT h a d (cnt_of h hc) BT 0 w.db ah bh (RB_of h hL) ⟨h.c,λu _=>by simp[It]⟩;rw[List.take_zero,AAz]at this;exact this);rw[f];cases G1 (λi=>Xd w i (I7 w i)) 0 w.db.de.AA.length<;>cases txW w<;>cases G1 (λi=>NS w i (I7 w i)) 0 w.db.de.AA.length<;>cases G1 (cB w) 0 w.db.AL.length<;>rfl
   . rw[BC ah,show decide (w.AB.length<=16)=false from by simp_all];rfl
end
theorem zL(wv:AF)(l:jm):∀pre s,Fe wv pre s l=(0,0)\/(Fe wv pre s l).2=12/\(pre.length:Int)<=(Fe wv pre s l).1:=by
 induction l with
 |nil=>exactλ_ _=>.inl rfl
 |cons x r ih=>
  intro pre s;unfold Fe;split
  . refine(ih (pre++[x]) _).imp id λh=>⟨h.1,?_⟩
    have:=h.2;simp at this |-;omega
  . exact .inr ⟨rfl,ak⟩
structure AT (t:Ca):Prop where
 w:Cy t.cT=true
 l:t.AB.length<=400
 c:Fe t.cT [] (Hi t.cT) t.AB=(0,0)
 e:∀e∈t.AB,KE e
theorem AT.of(a:∀e∈t.AB,KE e)(h:(Jq t).2=0):AT t:=by
 unfold Jq at h;split at h
 . cases h
 . split at h
   . rename_i c b;rcases zL t.cT t.AB [] (Hi t.cT)with hc|⟨hc,_⟩
     . exact⟨b,ah,hc,a⟩
     . rw[hc]at h;cases h
   . cases h
theorem AT.check(h:AT t):Jq t=(0,0):=by unfold Jq;rw[AAa (by have:=h.l;omega),AAb h.w,h.c]
theorem AT.poss(h:AT t)(hi:k<t.AB.length):Hc t.cT (Ig t k) t.AB[k]=true:=by
 obtain⟨_,b⟩:=rO h.w h.l h.c k ah;rw[ABQ hi,Fe]at b;split at b
 . rename_i a;rw[AAT]at a;exact a.1
 . exact absurd (congrArg Prod.snd b) (λh:(12:Int)=0=>by cases h)
theorem AT.rb:∀i,i<=t.AB.length->RB i (Ig t i).de
 |0,_=>RB.start _
 |i+1,hi=>by rw[QV ah];exact(AT.rb i ah).apply _ _ _ _ _
theorem AT.step{t:Ca}(h:AT t){i:Nat}(hi:i<t.AB.length):P5 t.cT (Ig t i) t.AB[i]=(Ig t (i+1),true):=by unfold P5;rw[AAb (h.poss hi),QV hi]
theorem AT.vstep(h:AT t)(hi:k<t.AB.length):Bu t.cT (Ig t k) t.AB[k]=some (Ig t (k+1),true):=by rw[X6 _ (Di h.w) _ ((AT.rb k ah).mono (by have:=h.l;omega)) _ (h.e _ (AAi hi)),h.step hi]
theorem AT.rstep(h:AT t)(hi:k<t.AB.length):B1 t.cT (Ig t k) t.AB[k]=some (Ig t (k+1),true):=by rw[Qu _ (Di h.w) _ ((AT.rb k ah).mono (by have:=h.l;omega)) _ (h.e _ (AAi hi)),h.step hi]
theorem YZ(h:AT t)(a:k<=t.AB.length):∀(n i:Nat),i<=k->k<n+i->Gr.AW (k:Int) t n (Ig t i) (i:Int)=some (Ig t k)
 |0,i,h1,h2=>ah
 |n+1,i,h1,h2=>by
  have c:=h.l;rw[Gr.AW];unfold Gr.L1;by_cases hi:i<k
  . rw[BC ah,B4 ah,AAS,h.rstep ah,AAS,Af ah];exact YZ h a n (i+1) ah ah
  . have:i=k:=ah;subst this;rw[Ad ah];rfl
theorem after_eq(h:AT t)(a:k<=t.AB.length):Gr t (k:Int)=some (Ig t k):=by unfold Gr;rw[K5 _ (Di h.w),AAS];exact YZ h a BT 0 ah (by have:=BP;have:=h.l;omega)
def Ev400(e:AH):Prop:=e.EA.length<=1000/\e.DW.length<=1000
theorem nums_len:∀(D:iq)(a:Int),a<o->GZ o a D=true->(D.length:Int)+a+1<=o:=by
 intro D;induction D with
 |nil=>intro a h _;simp;omega
 |cons x r ih=>
  intro a h hn;unfold GZ at hn;simp only[AAT,AAl]at hn
  have:=ih x hn.2.1 hn.2.2;simp only[ABU];omega
theorem AT.ev(h:AT t)(m:x∈t.AB):Ev400 x:=by
 obtain⟨i,hi,rfl⟩:=ABX m;obtain⟨a,_⟩:=rO h.w h.l h.c i ah;have b:=h.poss hi;have k:=a.c _ (Kx b);have n:=KP (t.AB.take i) t.AB[i].cr;have o:=h.l;rw[ABk ah]at n;unfold Hc Ek at b;simp only[AAT]at b;obtain⟨_,_,_,_,⟨⟨_,d⟩,_,f⟩,_⟩:=b;rw[k]at d f;have key:∀D:List Int,GZ ((It (t.AB.take i) t.AB[i].cr).length:Int) 0 D=true->D.length<=1000:=by
  intro D g;cases D with
  |nil=>simp
  |cons e r=>
   have j:0<((It (t.AB.take i) t.AB[i].cr).length:Int):=by have:=jW _ _ g e ak;omega
   have:=nums_len _ _ j g;omega
 exact⟨key _ d,key _ f⟩
def lG(k i:Nat):Nat:=(i+k-1)/k
theorem winN_in(a:0<k)(q r:Nat)(b:0<r)(c:r<=k):lG k (q*k+r)=q+1:=by unfold lG;rw[show q*k+r+k-1=k*q+(r-1+k)from by rw[ABV];omega,Nat.mul_add_div a,Nat.add_div_right _ a,Nat.div_eq_of_lt ah]
theorem winN_le(a:0<k)(i:Nat):lG k i<=i+k:=by unfold lG;exact ABO (Nat.div_le_self _ _) ah
def Pj(t:Ca)(k i:Nat):List AG:=(List.range (lG k i)).map λj=>winS t k (j*k)
theorem dP(t:Ca)(k i:Nat):(Pj t k i).length=lG k i:=by simp[Pj]
def uQ(n:Nat):List.range (n+1)=List.range n++[n]:=List.range_succ
theorem slice_eq(hi:n<=pre.length):(pre.drop n).take (((if(pre.length:Int)<(n:Int)+(k:Int)then(pre.length:Int)else(n:Int)+(k:Int)).toNat)-n)=(pre.drop n).take k:=by
 split
 . rw[AA3 ak,AA3 an]
 . rw[show((n:Int)+(k:Int)).toNat-n=k from by omega]
def kV(t:Ca)(size:Int):List AG×Int:=if(Jq t).2≠0 then([],12)else if size<1\/size>16 then([],1)else(Pj t size.toNat t.AB.length,0)
theorem W3(h:AT t)(a:0<k)(f:k<=16):∀(n j:Nat),j*k<t.AB.length+k->t.AB.length+k<n+j*k->FL.AW (k:Int) t n ((List.range j).map λj=>winS t k (j*k)) ((j*k:Nat):Int)=some (Pj t k t.AB.length,0)
 |0,j,h1,h2=>ah
 |n+1,j,h1,h2=>by
  have o:=h.l;rw[FL.AW];unfold FL.L1;have m:j<=j*k:=Nat.le_mul_of_pos_right j a;have b:(j+1)*k=j*k+k:=ABm j k;have c:t.AB.length<=j*k->lG k t.AB.length=j:=by
   intro hi;cases j with
   |zero=>have g:t.AB.length=0:=ah;rw[g];unfold lG;exact Nat.div_eq_of_lt ah
   |succ j=>
    have p:(j+1)*k=j*k+k:=ABm j k
    have:=winN_in a j (t.AB.length-j*k) ah ah;rw[show j*k+(t.AB.length-j*k)=t.AB.length from by omega]at this;exact this
  generalize d:j*k=i at*;by_cases hi:i<t.AB.length
  . rw[BC ah,after_eq h ah,AAS,CG (n:=(i:Int)+(k:Int)) ah ah,AA9,slice_eq ah,AAb (by split<;>omega),Ba an];have e:((List.range j).map λj=>winS t k (j*k))++[AG.mk t.cT (i:Int) (Ig t i) ((t.AB.drop i).take k)]=(List.range (j+1)).map λj=>winS t k (j*k):=(by rw[uQ,AA5,List.map_singleton,d];rfl);rw[e]
    have:=W3 h a f n (j+1) ah ah;rw[b]at this;exact this
  . rw[Ad ah];unfold FL.J2 Pj;rw[c ah]
theorem rSplit_eq(t:Ca)(d:∀e∈t.AB,KE e)(n:Int):FL t n=some (kV t n):=by
 unfold FL kV;rw[rCheck_eq t d,AAS];by_cases a:(Jq t).2=0
 . have h:=AT.of d a;rw[AAa (c:=((Jq t).2 != 0)=true) (by simp[a]),AAa (c:=(Jq t).2≠0) (by simp[a])];unfold FL.J1;by_cases b:n<1
   . rw[BC b,AAb rfl,AAb (.inl b)]
   . rw[Ad b];by_cases g2:n>16
     . rw[AAb (by simpa using g2),AAb (.inr g2)]
     . rw[AAa (by simpa using g2),AAa ah]
       have:=W3 h (k:=n.toNat) ah ah BT 0 ah (by have:=BP;have:=h.l;omega);rw[show((n.toNat:Nat):Int)=n from by omega,Nat.zero_mul]at this;exact this
 . rw[AAb (c:=((Jq t).2 != 0)=true) (by simp[a]),AAb (c:=(Jq t).2≠0) a]
def cN:ABv:=⟨#[99]⟩
def noE:BO:=⟨0,0,⟨#[]⟩,[]⟩
def qP(T:kp)(o:Int)(s a:ABv)(i:List BO):Prop:=
 (o=1->i=[]->s∈vN)/\(o=4->s=⟨#[109]⟩\/s=⟨#[110]⟩)/\(o=5\/o=6->s=⟨#[114]⟩)/\(o=12\/o=13->T s)/\(o=14->s=⟨#[102]⟩)/\(o=15->s=⟨#[97]⟩/\a=⟨#[102]⟩)
def bP{p:Prop}(h:p:=by simp[qP]):p:=h
def bdF(o:Int)(b e:ju):Prop:=(o∉[(2:Int),3,4,5,6,7,8]->b=[])/\(o≠2->e=[])
def Iz(T:kp):Nat->AR->Prop
 |0,_=>False
 |n+1,s=>(1<=s.Op/\s.Op<=15)/\(s.dz=[]\/s.Op=1/\s.di=qS/\∃a,s.dz=[a]/\Up 2 a)/\(Up 2 s.dv\/s.Op∉[(1:Int),2,3,14]/\s.dv=noE)/\(s.Op∈[(9:Int),10,11]->s.di=cN)/\
  s.dx.length<=4/\s.d7.length<=4/\(∀x∈s.dx,Iz T n x)/\(∀x∈s.d7,Iz T n x)/\bdF s.Op s.dx s.d7/\qP T s.Op s.di s.ep s.dz
structure MK (H:Nat) (m:AP):Prop where
 t:DX m.t
 h:m.d6.length<=H/\H<=500
structure Jj (m m':AP):Prop where
 t:DX m'.t
 h:m'.d6=m.d6
variable{m D:AP}
theorem W4.keep(h:W4 m D):Jj m D:=⟨h.1,by rw[h.2]⟩
theorem Jj.mk'(b:MK k m)(h:Jj m D):MK k D:=⟨h.t,by rw[h.h];exact b.h⟩
variable{E:AP}
def Jj.trans(h:Jj m D)(g:Jj D E):Jj m E:=⟨g.t,g.h.trans h.h⟩
def okL(T:kp)(k:Nat)(l:ju):Prop:=l.length<=2/\∀x∈l,Iz T k x
variable{T:kp}
theorem Mi{s:ABv}{e:BO}(h:Up 2 e)(a:s∈vN)(k:Nat):Iz T (k+1) ⟨1,0,s,⟨#[]⟩,[],e,[],[]⟩:=⟨⟨ak,ak⟩,.inl rfl,.inl h,ak,ak,ak,ak,ak,⟨λ_=>rfl,λ_=>rfl⟩,λ_ _=>a,ak,ak,ak,ak,ak⟩
theorem Qs{s a:ABv}(h:1<=o/\o<=15)(b:o∉[(1:Int),2,3,14])(c:o∈[(9:Int),10,11]->s=cN)(d:qP T o s a []):Iz T (k+1) ⟨o,u,s,a,[],noE,[],[]⟩:=
 ⟨h,.inl rfl,.inr ⟨b,rfl⟩,c,ak,ak,ak,ak,⟨λ_=>rfl,λ_=>rfl⟩,d⟩
theorem Rn{s a:ABv}(i:o∈[(2:Int),3,4,5,6,7,8])(h:1<=o/\o<=15)(d:o∉[(1:Int),2,3,14])(e:o∉[(9:Int),10,11])(f:qP T o s a []){b:ju}(g:b.length<=4)(c:∀x∈b,Iz T k x):Iz T (k+1) ⟨o,u,s,a,[],noE,b,[]⟩:=
 ⟨h,.inl rfl,.inr ⟨d,rfl⟩,λh=>absurd h e,g,ak,c,ak,⟨λh=>absurd i h,λ_=>rfl⟩,f⟩
variable{v:jr}
section
variable{T:kp}{R158:AP->ABv->Int->ABu (List AR×AP)}{R86:AP->Int->Int->ABu (List AR×AP)}{depth:Int}{nested:Bool}{k H:Nat}
structure QT (T:ABv->Prop) (R158:AP->ABv->Int->ABu (List AR×AP)) (R86:AP->Int->Int->ABu (List AR×AP)) (depth:Int) (k H:Nat):Prop where
 d:0<=depth/\depth<100
 b:0<depth->∀m s,MK H m->B5 (R158 m s (depth-1)) λr=>okL T (k+1) r.1/\Jj m r.2
 s:0<depth->∀m d n,MK H m->(d=0\/d=depth-1)->(n=1\/n=2)->B5 (R86 m d n) λr=>okL T (k+1) r.1/\Jj m r.2
abbrev Good(T:kp)(k:Nat)(m:AP)(r:AR×AP):Prop:=Iz T (k+2) r.1/\Jj m r.2
theorem gO{m:AP}(a:MK H m)(b:Bool):B5 (A3.vY m b) (Good T k m):=by unfold A3.vY FH;refine tI (λ_=>tR ⟨Qs bg bg bg bP,a.t,rfl⟩) λ_=> ?_;refine tB (LQ (.inr rfl) a.t) ?_;rintro e ⟨c,d⟩;exact tR ⟨Mi c (ZZ bg) _,d.keep⟩
theorem X5{m:AP}(a:MK H m)(v:jr)(b:Bool):B5 (A3.bT m v b) (Good T k m):=by
 unfold A3.bT;refine tI (λ_=> ?_) λ_=>tI (λ_=>tI (λ_=> ?_) λ_=>gO a _) λ_=>gO a _
 . refine tB (LQ (.inr rfl) a.t) ?_;rintro e ⟨d,c⟩;exact tR ⟨⟨⟨ak,ak⟩,.inl rfl,.inl d,ak,ak,ak,ak,ak,⟨λ_=>rfl,λ_=>rfl⟩,bP⟩,c.1,by rw[c.2]⟩
 . refine tB (HU a.t ah) ?_;rintro e ⟨_,c⟩;exact tM (gO (k:=k) (m:={m with t:=e.2}) ⟨c,a.h⟩ _) λr h=>⟨h.1,h.2.t,h.2.h⟩
theorem gN{m:AP}(a:MK H m)(v:jr)(b:Bool):B5 (A3.QP v m b) (Good T k m):=by unfold A3.QP;refine tI (λ_=> ?_) λ_=>tI (λ_=>tI (λ_=>tI (λ_=>X5 a _ _) λ_=>X5 a _ _) λ_=>X5 a _ _) λ_=>X5 a _ _;refine tB (HU a.t ah) ?_;rintro e ⟨f,d⟩;refine tR ⟨Rn bg bg bg bg bP ak ?_,d,rfl⟩;intro x c;simp only[AAw]at c;subst c;rw[CG ah ah];refine Qs ah ?_ (λ_=>rfl) ⟨ah,ah,ah,ah,ah,ah⟩;simp;omega
theorem gR{m:AP}(a:MK H m)(v:jr)(b:Bool):B5 (A3.J9 nested v m b) (Good T k m):=by
 unfold A3.J9 JX FH;refine tI (λ_=> ?_) λ_=>tI (λ_=>tI (λ_=> ?_) λ_=>gN a _ _) λ_=>gN a _ _
 . simp only[AAS];refine tR ⟨Rn bg bg bg bg bP ak ?_,a.t,rfl⟩;intro x c;simp only[AAr,ABL,ABK]at c;rcases c with rfl|rfl
   . exact Qs bg bg (λ_=>rfl) bP
   . exact Mi (.inr (.inl ⟨rfl,rfl,ZZ bg⟩)) (ZZ bg) _
 . refine tB (Rh (by have:=a.h;omega) _) ?_;rintro e rfl;exact gN a _ _
theorem qZ(b:QT T R158 R86 depth k H)(hn:nested=true->0<depth){m:AP}(a:MK H m)(v:jr)(i:g=true->0<depth):B5 (A3.J8 R86 depth m nested v g) (Good T k m):=by
 have hd:=b.d;unfold A3.J8;refine tI (λh=> ?_) λ_=>tI (λ_=>tI (λ_=>tI (λ_=> ?_) λ_=>gR a _ _) λ_=>gR a _ _) λ_=>gR a _ _
 . refine tB (b.s (i h) _ _ _ ⟨a.t,a.h⟩ (.inr (CG ah ah)) (.inr rfl)) ?_;rintro e ⟨c,f⟩;exact tR ⟨Rn bg bg bg bg bP (by have:=c.1;omega) c.2,f.t,f.h⟩
 . refine tB (Rh (by have:=a.h;omega) _) ?_;rintro e rfl;exact gR a _ _
theorem J7_tot(d:QT T R158 R86 depth k H)(hn:nested=true->0<depth){m:AP}(a:MK H m)(v:jr)(i:g=true->0<depth):B5 (A3.J7 R86 depth m nested v g) (Good T k m):=by unfold A3.J7;refine tI (λh=> ?_) λ_=>tI (λ_=>tI (λh=>qZ d hn a _ λ_=>hn h) λ_=>qZ d hn a _ ak) λ_=>qZ d hn a _ ak;refine tB (HU a.t ah) ?_;rintro b ⟨j,c⟩;refine tB (d.s (i h) {m with t:=b.2,tx:=true} _ _ ⟨c,a.h⟩ (.inl rfl) (by rw[CG (by omega) (by omega)];omega)) ?_;rintro e ⟨c,f⟩;exact tR ⟨Rn bg bg bg bg bP (by have:=c.1;omega) c.2,f.t,f.h⟩
theorem gQ(c:QT T R158 R86 depth k H)(hn:nested=true->0<depth){m:AP}(f:MK H m)(v:jr)(j:g=true->0<depth/\(v.1=10\/v.1=11)):B5 (A3.J6 R158 R86 depth nested v m g) (Good T k m):=by have hd:=c.d;unfold A3.J6;refine tI (λh=> ?_) λ_=>tI (λ_=>J7_tot c hn f _ hn) λ_=>J7_tot c hn f _ ak;obtain⟨i,a⟩:=j h;rw[CG (n:=depth-1) ah ah];refine tB (c.b i m _ f) ?_;rintro e ⟨b,g2⟩;refine tR ⟨?_,g2⟩;rcases a with a|a<;>rw[a]<;>exact Rn bg bg bg bg (by first| (rw[show A6 (A6 ((10:Int)-10)+5)=5 from rfl];simp[qP])| (rw[show A6 (A6 ((11:Int)-10)+5)=6 from rfl];simp[qP])) (by have:=b.1;omega) b.2
theorem gP(f:QT T R158 R86 depth k H)(hn:nested=true->0<depth){m:AP}(a:MK H m)(v:jr)(s:g=true->0<depth/\(v.1=8\/v.1=9)):B5 (A3.J5 R158 R86 depth nested v m g) (Good T k m):=by
 have hd:=f.d;have t:=a.h;have o:∀{c:Bool}{i:Int},(v.1==i)=true->(i=10\/i=11)->nested=true->c=true->0<depth/\(v.1=10\/v.1=11):=λp q r _=>⟨hn r,am⟩;unfold A3.J5;refine tI (λh=> ?_) λ_=>tI (λb=>tI (λj=> ?_) λ_=>gQ f hn a _ ak) λ_=>tI (λb=>tI (λj=> ?_) λ_=>gQ f hn a _ ak) λ_=>gQ f hn a _ ak
 . obtain⟨p,q⟩:=s h;rw[CG (n:=depth-1) ah ah,CG ah ah];refine tG an λx u=>tB (f.b p m _ a) ?_;rintro e ⟨l,g2⟩;exact tR ⟨Rn bg bg bg bg ⟨ak,λ_=>am,ak,ak,ak,ak⟩ (by have:=l.1;omega) l.2,g2⟩
 all_goals
  refine tB (Rh ah _) ?_;rintro e rfl;exact gQ f hn a _ (o b ah j)
theorem J4_tot(a:QT T R158 R86 depth k H)(hn:nested=true->0<depth){m:AP}(l:MK H m)(q:DX v.2)(z:g=true->0<depth):B5 (A3.J4 R158 R86 depth m nested v g) (Good T k m):=by
 have hd:=a.d;have E:=l.h;have o:∀{c:Bool}{i:Int},(v.1==i)=true->(i=8\/i=9)->nested=true->c=true->0<depth/\(v.1=8\/v.1=9):=λC D u _=>⟨hn u,am⟩;have b:MK H (AP.mk v.2 m.Bt (A6 (m.left-1)) m.IQ m.tx m.d5 m.ea m.d6):=⟨q,l.h⟩;have w:∀{r:AR×AP},Good T k (AP.mk v.2 m.Bt (A6 (m.left-1)) m.IQ m.tx m.d5 m.ea m.d6) r->Good T k m r:=λh=>⟨h.1,h.2.t,h.2.h⟩;unfold A3.J4;refine tI (λh=> ?_) λ_=>tI (λj=>tI (λn=> ?_) λ_=>tM (gP a hn b _ ak) λ_=>w) λ_=>tI (λj=>tI (λn=> ?_) λ_=>tM (gP a hn b _ ak) λ_=>w) λ_=>tM (gP a hn b _ ak) λ_=>w
 . unfold JX Ku JF FH;simp only[AAS];refine tB (a.s (z h) _ _ _ ⟨q,l.h⟩ (.inr (CG ah ah)) (.inl rfl)) ?_;rintro e ⟨p,g2⟩
   have:=p.1;refine tC (Bs ah) (tR ⟨⟨ak,.inl rfl,.inl ?_,ak,an,ak,?_,ak,⟨λh=>absurd ak h,λ_=>rfl⟩,bP⟩,g2.t,g2.h⟩)
   . exact .inr (.inr (.inr ⟨ak,_,_,rfl,.inr (.inl ⟨rfl,rfl,ZZ bg⟩),.inl ⟨rfl,rfl⟩⟩))
   . intro x f;rcases AAo.1 f with f|f
     . exact p.2 x f
     . simp only[AAw]at f;subst f;exact Mi (.inr (.inr (.inr ⟨bg,_,_,rfl,.inr (.inl ⟨rfl,rfl,ZZ bg⟩),.inl ⟨rfl,rfl⟩⟩))) (ZZ bg) _
 all_goals
  have y:=eq_of_beq j;rw[y];refine tG bg λx _=>tB (Rh aS _) ?_;rintro e B;rw[B];exact tM (gP a hn b _ (o j ah n)) λ_=>w
theorem J2_tot(a:QT T R158 R86 depth k H)(hn:nested=true->0<depth){m:AP}(f:MK H m)(b:DX v.2)(z:g=true->0<depth):B5 (A3.J2 R158 R86 depth m nested v g) (Good T k m):=by have hd:=a.d;unfold A3.J2 A3.J3;refine tI (λh=> ?_) λ_=>tI (λ_=>J4_tot a hn f b λh=>aS) λ_=>J4_tot a hn f b ak;have h:=z h;refine tB (LQ (.inr rfl) (m:=AP.mk v.2 m.Bt (A6 (m.left-1)) m.IQ m.tx m.d5 m.ea m.d6) b) ?_;rintro e ⟨o,y⟩;have p:=y.keep;have u:MK H (AP.mk v.2 m.Bt (A6 (m.left-1)) m.IQ m.tx m.d5 m.ea m.d6):=⟨b,f.h⟩;rw[CG (n:=depth-1) ah ah];refine tB (a.s h _ _ _ (Jj.mk' u p) (.inr rfl) (.inl rfl)) ?_;rintro w ⟨⟨w,j⟩,q⟩;refine tB (HU q.t ah) ?_;rintro c ⟨_,l⟩;have i:=q.h.trans p.h;refine tI (λ_=> ?_) λ_=>tR ⟨⟨ak,.inl rfl,.inl o,ak,an,ak,j,ak,⟨λh=>absurd ak h,λ_=>rfl⟩,bP⟩,l,i⟩;refine tB (a.s h _ _ _ ⟨l,by rw[show _=m.d6 from i];exact f.h⟩ (.inr rfl) (.inl rfl)) ?_;rintro d ⟨⟨d1,x⟩,r⟩;exact tR ⟨⟨ak,.inl rfl,.inl o,ak,an,an,j,x,⟨λh=>absurd ak h,λh=>absurd rfl h⟩,bP⟩,r.t,r.h.trans i⟩
theorem qY(l:QT T R158 R86 depth k H)(hn:nested=true->0<depth){m:AP}(f:MK H m)(q:0<=v.1)(d:DX v.2):B5 (A3.J1 R158 R86 depth m v nested) (Good T k m):=by
 have j:MK H (AP.mk v.2 m.Bt (A6 (m.left-1)) m.IQ m.tx m.d5 m.ea m.d6):=⟨d,f.h⟩;unfold A3.J1 FH;refine tI (λh=> ?_) λ_=>tI (λ_=> ?_) λ_=>tI (λ_=> ?_) λ_=>tI (λ_=>J2_tot l hn f d λh=>aS) λ_=>J2_tot l hn f d ak
 . have h:=AAc h;refine tG an λx i=>tB (LQ (.inr rfl) j.t) ?_;rintro e ⟨b,a⟩;exact tR ⟨Mi b (YG bg i) _,a.keep.t,a.keep.h⟩
 . refine tB (HU d ah) ?_;rintro c ⟨n,o⟩;refine tG n λx i=>tB (LQ (.inr rfl) o) ?_;rintro e ⟨b,a⟩;exact tR ⟨Mi b (YG bg i) _,a.keep.t,a.keep.h⟩
 . refine tB (LQ (.inl rfl) j.t) ?_;rintro e ⟨b,a⟩;refine tB (LQ (.inr rfl) a.keep.t) ?_;rintro g ⟨p,g2⟩;exact tR ⟨⟨ak,.inr ⟨rfl,rfl,_,rfl,b⟩,.inl p,ak,ak,ak,ak,ak,⟨λ_=>rfl,λ_=>rfl⟩,bP⟩,g2.keep.t,g2.keep.h.trans a.keep.h⟩
theorem p6(b:QT T R158 R86 depth k H){m:AP}(a:MK H m):B5 (A3 R158 R86 m depth) (Good T k m):=by unfold A3;refine tB (HU a.t ah) ?_;rintro v ⟨c,d⟩;exact tI (λh=>tI (λ_=>qY b (λ_=>aS) a c.1 d) λ_=>qY b ak a c.1 d) λ_=>qY b ak a c.1 d
end
section
variable{T:kp}
theorem fZ{R:lg}(s:∀m,MK n m->B5 (R m o) λr=>Iz T k r.1/\Jj m r.2)(a:MK n m)(hn:0<=u/\u<=3):
 B5 (Cr R m o u) λr=>((r.1.length:Int)<=u/\∀x∈r.1,Iz T k x)/\Jj m r.2:=by
 have j:=BP;have key:∀H (i:Nat) (d:AP) (l:ju),10<H+i->(i:Int)<=u->l.length<=i->(∀x∈l,Iz T k x)->Jj m d->B5 (Cr.AW R o u H d l i) λr=>((r.1.length:Int)<=u/\∀x∈r.1,Iz T k x)/\Jj m r.2:=by
  intro H;induction H with
  |zero=>omega
  |succ H ih=>
   intro i d l v w y q f;have J:∀b,(b=true->(i:Int)<u)->B5 (Cr.J1 (Cr.AW R o u H) R o i l d b) λr=>((r.1.length:Int)<=u/\∀x∈r.1,Iz T k x)/\Jj m r.2:=by
    intro b j;unfold Cr.J1 Cr.J2;refine tI (λh=> ?_) λ_=>tR ⟨⟨aS,q⟩,f⟩;have h:=j h;refine tB (s _ (Jj.mk' a f)) ?_;rintro e ⟨c,p⟩;refine tC (Bs ah) ?_;rw[Af ah];refine ih (i+1) _ _ ah ah an ?_ (f.trans p);intro x g;rcases AAo.1 g with g|g
    . grind
    . simp_all
   unfold Cr.AW Cr.L1;grind
 exact key BT 0 m [] ah ah ak ak ⟨a.t,rfl⟩
theorem okS_mono:∀{s:AR},Iz T n s->Iz T (n+1) s:=by
 induction n with
 |zero=>exactλh=>h.elim
 |succ n ih=>exactλ⟨h1,h2,h3,h4,h5,h6,h7,h8,h9⟩=>⟨h1,h2,h3,h4,h5,h6,λx a=>ih (h7 x a),λx a=>ih (h8 x a),h9⟩
theorem okS_le(h:k<=n){s:AR}(c:Iz T k s):Iz T n s:=by
 induction h with
 |refl=>exact c
 |step _ ih=>exact okS_mono ih
theorem zG{R86:AP->Int->Int->ABu (List AR×AP)}(b:MK n m)(i:n<500)(s:ABv)(h:∀m H,MK (n+1) m->(H=1\/H=2)->B5 (R86 m o H) λr=>okL T k r.1/\Jj m r.2):B5 (IL R86 m s o) λr=>okL T k r.1/\Jj m r.2:=by
 have j:=b.h;unfold IL;refine tC (Bs ah) (tB (HU b.t ah) ?_);rintro v ⟨l,g⟩;refine tB (h (AP.mk v.2 m.Bt m.left m.IQ m.tx m.d5 m.ea (m.d6++[s])) _ ⟨g,an⟩ (by rw[CG (by omega) (by omega)];omega)) ?_;rintro e ⟨c,a⟩;have f:e.2.d6=m.d6++[s]:=a.h;simp only[f,AA8,ABU,ABc];rw[CG ah ah];refine tC ah (tR ⟨c,a.t,?_⟩);simp_all
theorem fH{H:Nat}(c:H<500)(d:3<=n):
 (∀m,MK H m->B5 (GY n m (0:Nat)) (Good T 0 m))/\∀m a,MK H m->0<=a/\a<=3->B5 (EK (n+1) m (0:Nat) a) λr=>((r.1.length:Int)<=a/\∀x∈r.1,Iz T 2 x)/\Jj m r.2:=by
 have key:∀m,MK H m->B5 (GY n m (0:Nat)) (Good T 0 m):=by intro m b;obtain⟨n,rfl⟩:∃k,n=k+1:=⟨n-1,ah⟩;exact p6 (R158:=Kt n) (R86:=EK n) (H:=H) ⟨ah,λh=>by simp at h,λh=>by simp at h⟩ b
 exact⟨key,λm a b hn=>fZ (R:=GY n) key b hn⟩
theorem made_tot(d:Nat):∀(H n:Nat),d<50->H+d<500->3*d+3<=n->
 (∀m,MK H m->B5 (GY n m d) (Good T d m))/\∀m a,MK H m->0<=a/\a<=3->B5 (EK (n+1) m d a) λr=>((r.1.length:Int)<=a/\∀x∈r.1,Iz T (d+2) x)/\Jj m r.2:=by
 induction d with
 |zero=>exactλH n _ g i=>fH ah ah
 |succ d ih=>
  intro H n o g i;have sub:∀(f c:Nat)(m:AP)(e a:Int),f<=H+1->3*d+4<=c->MK f m->(e=0\/e=((d+1:Nat):Int)-1)->(a=1\/a=2)->B5 (EK c m e a) λr=>okL T (d+2) r.1/\Jj m r.2:=by
   intro f c m e a l g2 b hd hn;obtain⟨c,rfl⟩:∃k,c=k+1:=⟨c-1,ah⟩;rcases hd with rfl|rfl
   . exact tM ((fH (n:=c) ah ah).2 m a b ah) λr h=>⟨⟨ah,λx j=>okS_le ah (h.1.2 x j)⟩,h.2⟩
   . rw[show((d+1:Nat):Int)-1=(d:Int)from by omega];exact tM ((ih f c ah ah ah).2 m a b ah) λr h=>⟨⟨ah,h.1.2⟩,h.2⟩
  have key:∀m,MK H m->B5 (GY n m (d+1:Nat)) (Good T (d+1) m):=by
   intro m b;obtain⟨n,rfl⟩:∃k,n=k+2:=⟨n-2,ah⟩;refine p6 (R158:=Kt (n+1)) (R86:=EK (n+1)) (H:=H) (k:=d+1) ⟨ah,λ_ m s b=> ?_,λ_ m e a b hd hn=> ?_⟩ b
   . exact zG (R86:=EK n) b ah s λm a b hn=>sub (H+1) n m _ a ah ah b (.inr rfl) hn
   . grind
  exact⟨key,λm a b hn=>fZ (R:=GY n) key b hn⟩
end
section
variable{T:kp}
abbrev TT{d:Type}(o:ABu d):Prop:=B5 o λ_=>True
theorem tD{p:Prop}[Decidable p]{a c:ABu b}{R:b->Prop}(d:p->B5 a R)(e:¬p->B5 c R):B5 (if decide p=true then a else c) R:=aS
def JQ{o:ABu a}{f:a->ABu b}{R:b->Prop}(h:TT o)(k:∀x,B5 (f x) R):B5 (o.bind f) R:=tB h λx _=>k x
theorem tE{o:ABu a}{y:a}{f:a->ABu b}{R:b->Prop}(h:o=some y)(k:B5 (f y) R):B5 (o.bind f) R:=am
theorem gC{l:List a}{i:Nat}{f:a->ABu b}{R:b->Prop}(h:i<l.length)(k:B5 (f l[i]) R):B5 ((gt l (i:Int)).bind f) R:=by rw[B4 h];exact k
theorem tL{Q:a->Prop}(N:Nat){F:Nat->Int->ABu a}(e:N<1000000000000)(h:∀n (i:Nat),i<=N->(i<N->B5 (F n (A6 (i+1))) Q)->B5 (F (n+1) i) Q):B5 (F BT 0) Q:=by
 have f:=BP;have key:∀n (i:Nat),N<n+i->i<=N->B5 (F n i) Q:=by
  intro n;induction n with
  |zero=>omega
  |succ n ih=>intro i c b;refine h n i b λd=> ?_;rw[Af ah];grind
 exact key BT 0 ah ah
theorem tLk{Q:b->Prop}(N j:Nat)(I:Nat->a->Prop){F:Nat->a->Int->ABu b}(l:N<1000000000000)(o:j<=N){s0:a}(e:I j s0)(h:∀n (i:Nat) s,i<=N->I i s->(∀G,i<N->I (i+1) G->B5 (F n G (A6 (i+1))) Q)->B5 (F (n+1) s i) Q):B5 (F BT s0 j) Q:=by
 have m:=BP;have key:∀n (i:Nat) s,N<n+i->i<=N->I i s->B5 (F n s i) Q:=by
  intro n;induction n with
  |zero=>omega
  |succ n ih=>intro i s f c d;refine h n i s c d λG g k=> ?_;rw[Af ah];grind
 grind
theorem RI{Q:b->Prop}(N:Nat)(I:Nat->a->Prop){F:Nat->a->Int->ABu b}(d:N<1000000000000){s0:a}(c:I 0 s0)(h:∀n (i:Nat) s,i<=N->I i s->(∀e,i<N->I (i+1) e->B5 (F n e (A6 (i+1))) Q)->B5 (F (n+1) s i) Q):B5 (F BT s0 0) Q:=tLk N 0 I d ah c h
def M8(s:ABv):TT (CO s):=⟨_,Pv s,trivial⟩
def dE:Nat->BO->Prop
 |0,_=>False
 |n+1,e=>e.L.length<=2/\∀x∈e.L,dE n x
theorem Up.d:∀{e:BO},Up n e->dE n e:=by
 induction n with
 |zero=>exactλh=>h.elim
 |succ n ih=>
  intro e h;rcases h with⟨_,h⟩|⟨_,h,_⟩|⟨_,_,a,h,c⟩|⟨_,a,b,h,c,f⟩<;>refine⟨by simp[h],?_⟩<;>rw[h]<;>simp
  all_goals simp_all
theorem Iz.e{s:AR}(h:Iz T n s):dE 2 s.dv:=by
 cases n with
 |zero=>exact h.elim
 |succ n=>
  rcases h.2.2.1 with h|⟨_,h⟩
  . exact h.d
  . rw[h];exact⟨by simp[noE],by simp[noE]⟩
theorem Iz.i{s:AR}(h:Iz T n s):s.dz=[]\/∃a,s.dz=[a]/\dE 2 a:=by
 cases n with
 |zero=>exact h.elim
 |succ n=>exact h.2.1.imp id λ⟨_,_,a,h,k⟩=>⟨a,h,k.d⟩
theorem aR(d:Ey):TT (C5 d):=by
 have a:∀b,TT (C5.J2 d b):=by
  intro b;unfold C5.J2 C5.J3
  repeat' first|exact tR trivial|refine tI (λ_=> ?_) λ_=> ?_
 have j1:∀b,TT (C5.J1 d b):=by
  intro b;unfold C5.J1
  repeat' first|exact tR trivial|exact a _|refine JQ (M8 _) λ_=> ?_|refine tI (λ_=> ?_) λ_=> ?_
 unfold C5
 repeat' first|exact j1 _|refine JQ (M8 _) λ_=> ?_|refine tI (λ_=> ?_) λ_=> ?_
theorem gS(o:Int):TT (ET o):=by
 unfold ET ET.J1 ET.J2 ET.J3
 repeat' first|exact tR trivial|refine tI (λ_=> ?_) λ_=> ?_
theorem YW(d:Nat):∀(n:Nat)(e:BO),d<=n->dE d e->TT (DU n e):=by
 induction d with
 |zero=>exactλn e _ h=>h.elim
 |succ d ih=>
  intro n e hn ⟨h1,h2⟩;obtain⟨n,rfl⟩:∃k,n=k+1:=⟨n-1,ah⟩;show TT (Ct (DU n) e);have c:∀b,TT (Ct.J2 (DU n) e b):=by intro b;unfold Ct.J2;refine tI (λ_=>tR trivial) λ_=>tL e.L.length ah λm i hi k=> ?_;unfold Ct.AW Ct.L1;refine tD (λ_=>tG ah λx a=>JQ (ih n x ah (h2 x a)) λ_=>tI (λ_=>tR trivial) λ_=>k ah) λ_=>tR trivial
  have j1:∀b,TT (Ct.J1 (DU n) e b):=by
   intro b;unfold Ct.J1;refine JQ (gS _) λ_=> ?_
   repeat' first|exact c _|refine JQ (M8 _) λ_=> ?_|refine tI (λ_=> ?_) λ_=> ?_
  unfold Ct;grind
theorem NT(h:n<=1000):n<=BT:=bh
theorem rA{e:BO}(h:dE 2 e):TT (DU BT e):=YW 2 _ e (NT ah) h
theorem YX{s:AR}{R:List AR->ABu Bool}(d:Iz T k s)(j:TT (R s.dx))(l:TT (R s.d7)):TT (BA R s):=by
 have r:∀b,TT (BA.J9 R s b):=by
  intro b;unfold BA.J9 BA.QP
  repeat' first|exact tR trivial|refine JQ j λ_=> ?_|refine JQ l λ_=> ?_|refine tI (λ_=> ?_) λ_=> ?_
 have q:∀b,TT (BA.J8 R s b):=by
  intro b;unfold BA.J8
  repeat' grind
 have c:∀b,TT (BA.J7 R s b):=by
  intro b;unfold BA.J7
  repeat' first|exact tR trivial|exact q _|refine tI (λ_=> ?_) λ_=> ?_
 have p:∀b,TT (BA.J6 R s b):=by
  intro b;unfold BA.J6;refine tI (λ_=>JQ (rA d.e) λ_=>tI (λ_=>c _) λ_=>c _) λ_=>JQ ?_ λ_=>c _;unfold Ib Ib.J1
  repeat' first|exact tR trivial|refine tI (λ_=> ?_) λ_=> ?_
 have f:∀b,TT (BA.J5 R s b):=by
  intro b;unfold BA.J5
  repeat' first|exact tR trivial|exact p _|refine tI (λ_=> ?_) λ_=> ?_
 have o:∀b,TT (BA.J4 R s b):=by
  intro b;unfold BA.J4;rcases d.i with h|⟨a,h,g⟩<;>rw[h]
  . repeat' first|exact tR trivial|exact f _|refine tI (λ_=> ?_) λ_=> ?_|grind
  . repeat' first|exact tR trivial|exact f _|refine tI (λ_=> ?_) λ_=> ?_|refine tE (y:=a) rfl ?_|refine JQ (rA g) λ_=> ?_
 have n:∀b,TT (BA.J3 R s b):=by
  intro b;unfold BA.J3
  repeat' first|exact tR trivial|exact o _|refine tI (λ_=> ?_) λ_=> ?_|refine JQ (M8 _) λ_=> ?_
 have m:∀b,TT (BA.J2 R s b):=by
  intro b;unfold BA.J2
  repeat' first|exact n _|refine tI (λ_=> ?_) λ_=> ?_|refine JQ (M8 _) λ_=> ?_
 have j1:∀b,TT (BA.J1 R s b):=by
  intro b;unfold BA.J1
  repeat' first|exact tR trivial|exact m _|refine tI (λ_=> ?_) λ_=> ?_
 unfold BA;grind
def Uq(T:kp)(k:Nat)(l:ju):Prop:=l.length<=10/\∀x∈l,Iz T k x
theorem Iz.body{s:AR}(h:Iz T (k+1) s):Uq T k s.dx:=⟨by have:=h.2.2.2.2.1;omega,h.2.2.2.2.2.2.1⟩
theorem Iz.els{s:AR}(h:Iz T (k+1) s):Uq T k s.d7:=⟨by have:=h.2.2.2.2.2.1;omega,h.2.2.2.2.2.2.2.1⟩
theorem XF(d:Nat):∀(n:Nat)(l:ju),2*d+1<=n->Uq T d l->TT (HX n l):=by
 induction d with
 |zero=>intro n l hn ⟨_,h⟩;obtain⟨n,rfl⟩:∃k,n=k+1:=⟨n-1,ah⟩;have:l=[]:=ABB.2 λx a=>(h x a).elim;subst this;show TT (C8 (K0 n) []);exact tR trivial
 |succ d ih=>intro n l hn ⟨h1,h2⟩;obtain⟨n,rfl⟩:∃k,n=k+2:=⟨n-2,ah⟩;show TT (C8 (K0 (n+1)) l);unfold C8;refine tL l.length ah λm i hi k=> ?_;unfold C8.AW C8.L1 C8.J1;refine tD (λ_=>tG ah λx a=> ?_) λ_=>tR trivial;refine JQ (YX (R:=HX n) (h2 x a) (ih n _ ah (h2 x a).body) (ih n _ ah (h2 x a).els)) λ_=>tI (λ_=>tR trivial) λ_=>k ah
def QM:List ABv:=[⟨#[109,97,105,110]⟩,⟨#[116,49]⟩,⟨#[116,50]⟩,⟨#[116,51]⟩]
def cL:List ABv:=[⟨#[97]⟩,⟨#[98]⟩]
structure MP (p:AU):Prop where
 d:E7=some p.d9
 t:p.AA.length<=4
 l:∀t∈p.AA,t.G0.length<=2
 b:∀t∈p.AA,Uq (λs=>s∈p.AA.map (·.di)) 4 t.dx
 nm:∃n,1<=n/\n<=4/\p.AA.map (·.di)=QM.take n
 lo:∀t∈p.AA,t.G0=cL
theorem MP.dl{p:AU}(h:MP p):p.d9.length=9:=by have h:=h.d;unfold E7 at h;rw[<- AAW h];rfl
theorem YY{p:AU}(h:MP p):TT (Cs p):=by
 have hd:=h.dl;have e:=h.t;have c:∀{F:ir}{i:Int}(b:Bool),TT (F (A6 (i+1)))->TT (Cs.J3 F i b):=by intro F i b k;unfold Cs.J3 Cs.J4;exact tI (λ_=>tR trivial) λ_=>k
 unfold Cs;refine tL 9 ah λm i hi k=> ?_;unfold Cs.AW Cs.L1 Cs.J1;refine tD (λ_=>tG ah λx a=>JQ (aR x) λ_=>tI (λ_=>tR trivial) λ_=>k ah) λ_=>tL p.AA.length ah λm i hi k=> ?_;unfold Cs.CC Cs.L2 Cs.J5;refine tD (λ_=>tG ah λx a=>tL x.G0.length (by have:=h.l x a;omega) λm i hi d=> ?_) λ_=>tR trivial;unfold Cs.Gc Cs.L3 Cs.J2;refine tD (λ_=>tG ah λx a=>JQ (M8 _) λ_=>tI (λ_=>tR trivial) λ_=>d ah) λ_=>JQ (M8 _) λ_=>tI (λ_=>c _ (k ah)) λ_=>JQ (XF 4 _ _ (NT ah) (h.b x a)) λ_=>c _ (k ah)
end
end Go.Abs
