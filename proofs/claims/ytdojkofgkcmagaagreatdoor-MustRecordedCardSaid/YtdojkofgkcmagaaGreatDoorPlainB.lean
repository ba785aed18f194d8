/- What the typed programs give, in plain Lean. -/
import Derived.Test.YtdojkofgkcmagaaGreatDoorWalkJ
import Derived.Test.YtdojkofgkcmagaaGreatDoorWalkO
import Derived.Test.YtdojkofgkcmagaaGreatDoorPlainA
import Derived.Shelf.Slices.SearchI
set_option linter.all false
namespace Go.Abs
set_option maxHeartbeats 4000000
def Wi(t t':AZ):Prop:=Dn t'/\t'.L=t.L/\t.At<=t'.At
def Wi.trans{a b c:AZ}(h:Wi a b)(k:Wi b c):Wi a c:=⟨k.1,k.2.1.trans h.2.1,Int.le_trans h.2.2 k.2.2⟩
def Fh{t:AZ}(b:Dn t){n:Int}(hn:0<n/\n<1000):Bp (Aq t n) λr=>(0<=r.1/\r.1<n)/\Wi t r.2/\(t.At<t.L.length->t.At<r.2.At):=by have e:=b.l;have f:=b.a;unfold Aq Aq.J1;rw[CD (n:=t.At+1) ah ah,CD (n:=t.At+1-1) ah ah];refine tI (λh=>?_) λh=>?_;(have h:=AAQ h;exact tI (λ_=>tR ⟨⟨ah,hn.1⟩,⟨b,rfl,ak⟩,λ_=>ah⟩) λh=>by cases h);have d:¬t.At>=(t.L.length:Int):=(by simpa using h);refine tI (λh=>absurd (AAQ h) ah) λ_=>?_;refine tG ah λx c=>tC ah (tR ⟨?_,⟨⟨b.l,aA,b.u⟩,rfl,aA⟩,λ_=>aA⟩);have c:=b.u x c;rw[CD ah ah];exact⟨Int.tmod_nonneg _ c.1,Int.tmod_lt_of_pos _ hn.1⟩
def GR:AG:=(G6).getD ⟨[],[],[],[],[],[]⟩
def kN:G6=some GR:=by decide +kernel
def sceneW_ok:C6 GR:=by decide +kernel
def WC:GR.di.length=5:=by decide +kernel
def cU:GR.AK.length=3:=by decide +kernel
def cR:GR.AL.length=1:=by decide +kernel
def WD:GR.AA.length=4:=by decide +kernel
variable{o u:Int}
theorem xZ{b:AZ}(f:Dn b)(k:0<=u/\u<4):Bp (DW b o u) λr=>(o=3\/o=4->0<=r.1/\r.1<5)/\Wi b r.2:=by
 have hn:Wi b b:=⟨f,rfl,Int.le_refl _⟩;have g:∀p,o≠3->o≠4->Bp (DW.J5 b u p) λr=>(o=3\/o=4->0<=r.1/\r.1<5)/\Wi b r.2:=by intro p c d;unfold DW.J5;refine tI (λ_=>tB (Fh f ah) ?_) λ_=>tR ⟨λh=>ah,hn⟩;rintro r ⟨_,h,_⟩;exact tR ⟨λh=>ah,h⟩
 have d:∀p,o≠3->o≠4->Bp (DW.J4 o b u p) λr=>(o=3\/o=4->0<=r.1/\r.1<5)/\Wi b r.2:=by intro p c d;unfold DW.J4;exact tI (λ_=>tR ⟨λh=>ah,hn⟩) λ_=>tI (λ_=>g _ c d) λ_=>g _ c d
 have c:∀p,o≠3->o≠4->Bp (DW.J3 o b u p) λr=>(o=3\/o=4->0<=r.1/\r.1<5)/\Wi b r.2:=by
  intro p c a;unfold DW.J3;refine tI (λ_=>tR ⟨λh=>ah,hn⟩) λ_=>?_;iterate 5 refine tI (λ_=>d _ c a) λ_=>?_
  exact d _ c a
 have m:∀p,o≠3->o≠4->Bp (DW.J2 o b u p) λr=>(o=3\/o=4->0<=r.1/\r.1<5)/\Wi b r.2:=by
  intro p e a;unfold DW.J2;refine tI (λ_=>tB (Fh f ah) ?_) λ_=>?_;rintro r ⟨_,h,_⟩;exact tR ⟨λh=>ah,h⟩;iterate 3 refine tI (λ_=>c _ e a) λ_=>?_
  exact c _ e a
 have l:∀p,(p=false->o≠3/\o≠4)->Bp (DW.J1 o b u p) λr=>(o=3\/o=4->0<=r.1/\r.1<5)/\Wi b r.2:=by intro p n;unfold DW.J1;refine tI (λ_=>tB (Fh f ah) ?_) λh=>?_;rintro r ⟨j,h,_⟩;refine tG ah λx i=>tR ⟨λ_=>?_,h⟩;simp only[AAg,ABV,AA6]at i;omega;grind
 unfold DW;grind
theorem X7(s:AD)(f:s.df.AA.length<=500):Bp (Er s) λr=>r.length<=s.df.AA.length:=by
 have e:=BK;have key:∀n (i:Nat) (c:i6),s.df.AA.length<n+i->i<=s.df.AA.length->c.length<=i->Bp (Er.AR s n c i) λr=>r.length<=s.df.AA.length:=by intro n;induction n with|zero=>omega|succ n ih=>intro i c a b d;unfold Er.AR Er.L1;refine tI (λh=>?_) λ_=>tR ah;have h:=AAQ h;unfold Er.J1;rw[AX ah];refine tG ah λx _=>tI (λ_=>tC (Bq ah) ?_) λ_=>ih (i+1) c ah ah ah;exact ih (i+1) _ ah ah an
 exact key BQ 0 [] ah ah ak
variable{s:AD}
theorem value_adv{b:AZ}(a:Dn b)(e:s.df.AA.length<=500)(g:u=3->0<=o/\o<(s.di.length:Int))(i:0<s.AL.length):Bp (Hi b s u o) λr=>Wi b r.2:=by
 have hn:Wi b b:=⟨a,rfl,Int.le_refl _⟩;have d:∀p,Bp (Hi.J1 u s b p) λr=>Wi b r.2:=by intro p;unfold Hi.J1;refine tI (λ_=>tB (Fh a ah) λr h=>tR h.2.1) λ_=>tI (λ_=>tB (Fh a ah) λr h=>tR h.2.1) λ_=>tI (λ_=>?_) λ_=>tI (λ_=>?_) λ_=>tR hn;refine tB (X7 s e) λl c=>tI (λh=>?_) λ_=>tR hn;have h:=AAQ h;refine tB (Fh a ah) ?_;rintro r ⟨f,h,_⟩;exact tG f λx _=>tR h;exact tB (X7 s e) λl c=>tR hn
 unfold Hi;refine tI (λh=>tG (g aA) λx _=>tR hn) λ_=>tI (λ_=>tG ah λx _=>tR hn) λ_=>tI (λ_=>d _) λ_=>d _
variable{c:i6}
theorem sR{b:AZ}(m:Dn b)(t:c.length<=1000):Bp (Fg b c) λr=>r.1.length<=c.length/\Wi b r.2:=by
 have u:=BK;have key:∀n (i:Nat) (d:AZ) (l:i6),c.length<n+i->i<=c.length->l.length<=i->Dn d->Wi b d->Bp (Fg.AR c n d l i) λr=>r.1.length<=c.length/\Wi b r.2:=by intro n;induction n with|zero=>omega|succ n ih=>intro i d l o q s hd e;unfold Fg.AR Fg.L1;refine tI (λh=>?_) λ_=>tR ⟨aA,e⟩;have h:=AAQ h;have j:∀a f p,Dn a->Wi b a->Bp (Fg.J1 (Fg.AR c n) l i f a p) λr=>r.1.length<=c.length/\Wi b r.2:=(by intro a f p g k;unfold Fg.J1 Fg.J2;rw[AX ah];exact tI (λ_=>tC (Bq ah) (ih (i+1) a _ ah ah an g k)) λ_=>ih (i+1) a l ah ah ah g k);refine tG ah λx _=>tI (λ_=>tB (Fh hd ah) ?_) λ_=>j _ _ _ hd e;rintro r ⟨_,h,_⟩;exact j _ _ _ h.1 (e.trans h)
 exact key BQ 0 b [] ah ah ak m ⟨m,rfl,Int.le_refl _⟩
structure EvM (q:AZ) (r:AH×AZ):Prop where
 t:0<=r.1.db/\r.1.db<4
 d:r.1.Dy.length<=1000
 f:r.1.DS.length<=1000
 a:Wi q r.2
 s:q.At<q.L.length->q.At<r.2.At
variable{wv:AG}{K:jl}
theorem event_adv{q:AZ}(P:Dn q)(O:s.df.AA.length<=500)(V:5<=s.di.length)(X:5<=wv.di.length)(N:0<s.AL.length)(U:K.length=4)(u:∀l∈K,l.length<=1000):Bp (Dv q s wv K) (EvM q):=by
 unfold Dv OK;refine tB (Fh P ah) ?_;rintro a ⟨a0,F,I⟩;rw[AAG];refine tB (Fh F.1 ak) ?_;rintro t ⟨T,E,_⟩;refine tG T λo W=>?_;refine tB (Fh E.1 ah) ?_;rintro i ⟨i0,iA,_⟩;have R:Wi q i.2:=(F.trans E).trans iA;have M:q.At<q.L.length->q.At<i.2.At:=λh=>by have:=I h;have:=E.2.2;have:=iA.2.2;omega
 have G:∀(p:AZ)(e:AH),Wi q p->(q.At<q.L.length->q.At<p.At)->e.db=a.1->e.Dy.length<=1000->e.DS.length<=1000->Bp (Dv.J6 p e) (EvM q):=λp e b d f k m=>tR ⟨am,k,m,b,d⟩;have m:∀(p:AZ)(e:AH) z,Wi q p->(q.At<q.L.length->q.At<p.At)->e.db=a.1->e.Dy.length<=1000->e.DS.length<=1000->Bp (Dv.J5 e K p a z) (EvM q):=by intro p e z b d f k m;unfold Dv.J5;refine tI (λ_=>tG ah λx r=>tB (sR b.1 (u x r)) ?_) λ_=>G _ _ b d f k m;rintro v ⟨n,g2⟩;exact G _ _ (b.trans g2) (λh=>by have:=d h;have:=g2.2.2;omega) f k (ABB n (u x r))
 have k:∀(p:AZ)(e:AH),Wi q p->(q.At<q.L.length->q.At<p.At)->e.db=a.1->e.Dy.length<=1000->e.DS.length<=1000->Bp (Dv.J4 K a p e) (EvM q):=by intro p e b d f k g;unfold Dv.J4;exact tI (λ_=>m _ _ _ b d f k g) λ_=>m _ _ _ b d f k g
 have f:∀(c:AH)(j l:j9) y,Wi q l.2->(q.At<q.L.length->q.At<l.2.At)->c.db=a.1->c.Dy.length<=1000->c.DS.length<=1000->Bp (Dv.J3 c K a j l y) (EvM q):=by intro c j l y b d f C g;unfold Dv.J3;refine tI (λ_=>tG ah λx r=>tB (sR b.1 (u x r)) ?_) λ_=>k _ _ b d f C g;rintro v ⟨n,g2⟩;exact k _ _ (b.trans g2) (λh=>by have:=d h;have:=g2.2.2;omega) f (ABB n (u x r)) g
 have d:∀(c:AH),c.db=a.1->c.Dy.length<=1000->c.DS.length<=1000->Bp (Dv.J2 K s a i wv c) (EvM q):=by
  intro c n g2 J;unfold Dv.J2;refine tB (xZ iA.1 a0) ?_;rintro j ⟨j0,D⟩;refine tB (value_adv D.1 O cm N) ?_;intro l H;have Q:Wi q l.2:=(R.trans D).trans H;have S:q.At<q.L.length->q.At<l.2.At:=λh=>by have:=M h;have:=D.2.2;have:=H.2.2;omega
  have B:=λy=>f c j l y Q S n g2 J;refine tI (λ_=>B _) λ_=>tI (λh=>?_) λ_=>tI (λh=>?_) λ_=>B _;have:=j0 (.inl aA);exact tG ah λx _=>B _;have:=j0 (.inr aA);exact tG ah λx _=>B _
 unfold Dv.J1;grind
theorem u6(wv:AG)(s:AQ)(t k o wake:Int):(Cr wv s t k o wake).1.AK.length=s.AK.length/\(Cr wv s t k o wake).1.Br.length=s.Br.length/\(Cr wv s t k o wake).1.AA.length=s.AA.length:=by
 have key:∀(p:Prop) [Decidable p] (a b:AQ×Int),(a.1.AK.length=s.AK.length/\a.1.Br.length=s.Br.length/\a.1.AA.length=s.AA.length)->(b.1.AK.length=s.AK.length/\b.1.Br.length=s.Br.length/\b.1.AA.length=s.AA.length)->((if p then a else b).1.AK.length=s.AK.length/\(if p then a else b).1.Br.length=s.Br.length/\(if p then a else b).1.AA.length=s.AA.length):=by intro p _ a b d e;split<;>assumption
 unfold Cr;repeat' refine key _ _ _ ?_ ?_
 all_goals first|exact⟨rfl,rfl,rfl⟩| (simp only[KI,HN,List.length_set,AAt,and_self];done)| (by_cases c:CJ o 0 s.AA=[]<;>simp only[c,AAl,AAY,KI,List.length_set,and_self])
theorem wU(h:JS wv s)(e:AH):JS wv (Ed wv s e):=by
 obtain⟨a,f,g,i⟩:=IW h;obtain⟨b,g2,d⟩:=Dl a;have j:wv.Al.all (λc=>CC c.dr wv.AK.length):=by unfold He at a;simp only[AAH]at a;exact a.1
 obtain⟨k,l,m⟩:=u6 wv s.df e.db e.de e.dq (if e.de=18 then e.dn else -1);simp only[JS,He,Ed,AAH,AAT];grind
def cV:Small GR:=Dw sceneW_ok
structure SC (N:Nat) (s:AD):Prop where
 f:JS GR s=true
 r:RB N s.df
variable{k:Nat}
theorem SC.len(h:SC k s):s.df.AA.length=4/\s.di.length=5/\s.AL.length=1/\s.dh.length=4/\s.df.AK.length=3/\s.df.Br.length=1:=by obtain⟨a,d,e,g⟩:=IW h.f;obtain⟨b,g2,c⟩:=Dl a;have:=WC;have:=cU;have:=cR;have:=WD;omega
variable{n:Nat}
def SC.mono(h:SC k s)(a:k<=n):SC n s:=⟨h.f,h.r.mono a⟩
theorem SC.step{N:Nat}{s:AD}(h:SC N s)(b:N<=1000){e:AH}(a:KW e):Bp (CH GR s e) λr=>r.2=true->SC (N+1) r.1:=by rw[RQ GR cV s (h.r.mono ah) e a];refine tR ?_;unfold QZ;split;exactλ_=>⟨wU h.f e,h.r.apply _ _ _ _ _⟩;simp_all
variable{b:Type}
def mem_set{l:List b}{a x:b}(h:x∈l.set n a):x∈l\/x=a:=AAw h
theorem play2_tot(T:o<=60):∀(n:Nat)(t:AZ)(s:AD)(c:js)(R:jl),Dn t->(t.L.length:Int)-t.At<n->SC (c.length+20) s->c.length<=60->(∀e∈c,KW e)->R.length=4->(∀l∈R,l.length<=c.length+1)->Bp (Cc.Bs o GR n t s c R) λr=>r.1.length<=60/\∀e∈r.1,KW e:=by
 intro n;induction n with
 |zero=>intro t s c R w h;have:=w.a;omega
 |succ n ih=>
  intro t s c R w hn q E D b M;have F:=q.len;have P:∀u,(u=true->(c.length:Int)<o/\t.At<(t.L.length:Int))->Bp (Cc.J4 (Cc.Bs o GR n) c R s t GR u) λr=>r.1.length<=60/\∀e∈r.1,KW e:=by(intro u N;unfold Cc.J4 Cc.J7;refine tI (λh=>?_) λ_=>tR ⟨E,D⟩;obtain⟨O,x⟩:=N h;refine tB (event_adv w ah ah (by have:=WC;omega) ah b λl p=>aA) λj g=>?_;have K:KW j.1:=⟨by have:=g.d;omega,by have:=g.f;omega⟩;refine tB (q.step ah K) λv G=>?_;have S:=g.t;have Q:=g.s x;have J:=g.a.2.1;have k:(j.2.L.length:Int)-j.2.At<n:=(by rw[J];omega);refine tI (λ_=>ih _ _ _ _ g.a.1 k q E D b M) λI=>?_;have G:=G am;have C:∀i,i.length=4->(∀l∈i,l.length<=c.length+2)->Bp (Cc.J6 (Cc.Bs o GR n) c j v i) λr=>r.1.length<=60/\∀e∈r.1,KW e:=by(intro i H I;unfold Cc.J6;refine tC (Bq ah) (ih _ _ _ _ g.a.1 k am an ?_ H am);intro e k;rcases AAX.1 k with h|h);grind;simp_all);(have B:∀z,Bp (Cc.J5 (Cc.Bs o GR n) c R s j v z) λr=>r.1.length<=60/\∀e∈r.1,KW e:=by(intro z;unfold Cc.J5;refine tI (λ_=>tG ah λy U=>tG ah λm _=>tC (Bq aA) (C _ am λl p=>?_)) λ_=>C R b λl p=>aA;rcases mem_set p with h|h);grind;simp_all);exact tI (λ_=>B _) λ_=>B _
  unfold Cc.Bs Cc.L2;grind
theorem play_tot{t:AZ}(C:Dn t)(B:SC 20 s)(w:o<=60)(p:Bool):Bp (Cc t s GR o p) λr=>r.1.length<=60/\∀e∈r.1,KW e:=by
 have G:=BK;have j:=B.len;have b:=WD;have key:∀(n i:Nat)(q:AZ)(R:jl),4<n+i->i<=4->Dn q->R.length=4->(∀l∈R,l.length<=1)->(∀k (g:k<R.length),i<=k->R[k]=[])->Bp (Cc.AR p o s GR n q R i) λr=>r.1.length<=60/\∀e∈r.1,KW e:=by intro n;induction n with|zero=>omega|succ n ih=>intro i q R D E d f y u;unfold Cc.AR Cc.L1;refine tI (λh=>?_) λ_=>?_;(have h:=AAQ h;simp only[ABT,b]at h;have c:∀(v:AZ) z,Dn v->Bp (Cc.J1 (Cc.AR p o s GR n) R i v z) λr=>r.1.length<=60/\∀e∈r.1,KW e:=by intro v z m;unfold Cc.J1 Cc.J2;rw[AX ah];refine tI (λ_=>?_) λ_=>ih (i+1) v R ah ah m f y λk g h=>u k g ah;have hi:i<R.length:=ah;rw[Bm hi,AAG,u i hi (AAj _)];refine tC (Bq ak) (ih (i+1) v _ ah ah m am ?_ ?_);grind;grind);refine tI (λ_=>tG ah λx _=>tI (λ_=>tB (Fh d ah) λr h=>c _ _ h.2.1.1) λ_=>c _ _ d) λ_=>c _ _ d;unfold Cc.J3;refine play2_tot w BQ q s [] R d (by have:=d.l;have:=d.a;omega) ah ak ak f (λl F=>am)
 unfold Cc;refine tC ⟨ah,ah,Bq ah⟩ (key BQ 0 t _ ah ah C (by simp[b]) ?_ ?_);all_goals grind
variable{j:Int}
theorem NI[Inhabited b]{l:List b}{a:b}(hi:CC o l.length)(c:CC j l.length):ix (l.set o.toNat a) j=if j=o then a else ix l j:=by have hi:=A0.1 hi;have c:=A0.1 c;unfold ix;grind
variable{a:Type}
theorem ix_map[Inhabited a][Inhabited b]{l:List a}{f:a->b}(c:CC j l.length):ix (l.map f) j=f (ix l j):=by have c:=A0.1 c;have:j.toNat<l.length:=ah;unfold ix;simp_all
structure TI (wv:AG) (B:Int->Prop) (L:List AW) (u:Int) (x:AM):Prop where
 s:0<=x.dm/\x.dm<=5
 b:B u↔2<=x.dm
 z:u=0->x.dm≠0
 c:x.dm=3\/x.dm=4->CC x.D7 wv.Al.length=true/\(ix L (ix wv.Al x.D7).dr).B6≠u
 n:x.dm≠3->x.dm≠4->x.D7=0
 a:x.d6=true->2<=x.dm
structure LI (wv:AG) (B:Int->Prop) (i:Int) (x:AW):Prop where
 o:x.B6≠ -1->B x.B6
 w:x.Am≠[]->(ix wv.AK i).RW=true/\x.B6= -1
 p:x.Am.Pairwise (· < ·)
 r:∀y∈x.Am,B y
structure YI (wv:AG) (B:Int->Prop) (s:AQ):Prop where
 t:∀u,CC u wv.AA.length=true->TI wv B s.AK u (ix s.AA u)
 l:∀i,CC i wv.AK.length=true->LI wv B i (ix s.AK i)
 x:s.Tx≠ -1->B s.Tx
 b:∀u,B u->CC u wv.AA.length=true
variable{P:Int->Prop}
section
variable{wv:AG}{B:Int->Prop}{s:AQ}
theorem YI.KI(h:YI wv B s)(hn:s.AA.length=wv.AA.length){f:AM->AM}(hd:CC o wv.AA.length)(c:TI wv B s.AK o (f (ix s.AA o))):YI wv B (KI s o f):=by refine⟨λu a=>?_,h.l,h.x,h.b⟩;show TI wv B s.AK u (ix (s.AA.set o.toNat (f (ix s.AA o))) u);rw[NI am am];by_cases e:u=o;simp_all;rw[AAL e];exact h.t u a
theorem YI.HN(h:YI wv B s)(p:∀i,CC i wv.Al.length->CC (ix wv.Al i).dr wv.AK.length)(hn:s.AK.length=wv.AK.length){f:AW->AW}(hi:CC o wv.AK.length)(r:LI wv B o (f (ix s.AK o)))(k:(f (ix s.AK o)).B6= -1\/(f (ix s.AK o)).B6=(ix s.AK o).B6\/CC (f (ix s.AK o)).B6 wv.AA.length=true/\(ix s.AA (f (ix s.AK o)).B6).dm=2):YI wv B (HN s o f):=by refine⟨λu m=>?_,λj q=>?_,h.x,h.b⟩;have g:=h.t u m;refine⟨g.s,g.b,g.z,λd=>⟨(g.c d).1,?_⟩,g.n,g.a⟩;have d:(ix s.AA u).dm=3\/(ix s.AA u).dm=4:=d;have v:=p _ (g.c d).1;show(ix (s.AK.set o.toNat (f (ix s.AK o))) (ix wv.Al (ix s.AA u).D7).dr).B6≠u;rw[NI am am];by_cases e:(ix wv.Al (ix s.AA u).D7).dr=o;(rw[AAM e];have m:=A0.1 m;rcases k with k|k|k);omega;rw[k,<- e];exact(g.c d).2;grind;rw[AAL e];exact(g.c d).2;show LI wv B j (ix (s.AK.set o.toNat (f (ix s.AK o))) j);rw[NI am am];by_cases e:j=o;simp_all;rw[AAL e];exact h.l j q
theorem YI.congr(h:YI wv B s)(b:∀u,P u↔B u):YI wv P s:=by have:P=B:=funext λu=>propext (b u);simp_all
end
theorem nL(l:i6):(PS l).Pairwise (· < ·):=by exact Mt l
theorem Zs{s:AQ}(h:He wv s)(t k o wake:Int):He wv (Cr wv s t k o wake).1:=by
  have d:wv.Al.all (λc=>CC c.dr wv.AK.length):=by unfold He at h;simp only[AAH]at h;exact h.1
  have key:∀(p:Prop) [Decidable p] (a b:AQ×Int),He wv a.1->He wv b.1->He wv (if p then a else b).1=true:=by intro p _ a b j l;split<;>assumption
  obtain⟨e,f,g⟩:=Dl h;unfold Cr;repeat' refine key _ _ _ ?_ ?_
  all_goals first
    |exact h
    | (simp[He,KI,HN,d,e,f,g];done)
    | (by_cases i:CJ o 0 s.AA=[]
       simp_all;simp[i,He,KI,d,e,f,g])
def mutex_of{s:AQ}(h:He wv s):∀o,CC o wv.Al.length->CC (ix wv.Al o).dr wv.AK.length:=λ_ a=>Gr h a
theorem waits_in{s:AQ}(hn:s.AA.length=wv.AA.length)(h:u∈CJ o 0 s.AA):CC u wv.AA.length/\(ix s.AA u).dm=3:=by
 have key:∀(T:kx)(i:Nat)(u:Int),u∈CJ o i T->∃x,T[(u-i).toNat]? =some x/\x.dm=3:=by intro T;induction T with|nil=>intro i u h;cases h|cons x r ih=>intro i u h;unfold CJ at h;have key:u∈CJ o (i+1) r->∃y,(x::r)[(u-i).toNat]? =some y/\y.dm=3:=(by intro h;have d:=(Jo o r (i+1) u h).1;obtain⟨y,y1,y2⟩:=ih (i+1) u h;refine⟨y,?_,y2⟩;rw[show(u-(i:Int)).toNat=(u-((i+1:Nat):Int)).toNat+1 from by omega,ABG];exact y1);split at h;(rename_i b;rcases AAg.1 h with rfl|h);refine⟨x,ak,?_⟩;unfold Ic at b;simp_all;simp_all;simp_all
 obtain⟨x,a,e⟩:=key _ _ _ h;have c:=Jo o s.AA 0 u h;have a:s.AA[u.toNat]? =some x:=by simpa using a
 refine⟨A0.2 ah,?_⟩;unfold ix;simp_all
variable{wake:Int}
theorem chosen_in(h:c≠[]):EU wake c∈c:=by unfold EU;rw[AAL h];split;simp_all;cases c with|nil=>simp_all|cons a r=>simp
theorem YI.apply{B:Int->Prop}{s:AQ}(hq:∀o,CC o wv.Al.length->(ix wv.AK (ix wv.Al o).dr).RW=false)(h:YI wv B s)(Z:B0 wv s u j o):YI wv (λt=>B t\/t=u) (Cr wv s u j o wake).1:=by
 unfold B0 at Z;simp only[AAH]at Z;obtain⟨hf,q,d,k⟩:=Z;obtain⟨R,l2,C⟩:=Dl hf;have F:=mutex_of hf;have T:=h.t u q;unfold Cr;by_cases M:j=1;rw[AAM M];have hs:(ix s.AA u).dm=1:=(by simpa[Eg,M]using k);have up:∀{t},B t->B t\/t=u:=.inl;refine⟨λt K=>?_,λi hi=>?_,λhx=>up (h.x hx),λt K=>K.elim (h.b t) λe=>e▸q⟩;show TI wv _ s.AK t (ix (s.AA.set u.toNat _) t);rw[NI am am];have U:=h.t t K;by_cases e:t=u;rw[AAM e];exact⟨ak,by simp[e],ak,ak,λ_ _=>T.n ah ah,ak⟩;rw[AAL e];exact⟨U.s,by simp[e,U.b],U.z,U.c,U.n,U.a⟩;have L:=h.l i hi;exact⟨λh=>up (L.o h),L.w,L.p,λy m=>up (L.r y m)⟩;rw[AAL M];have J:j≠17->(ix s.AA u).dm=2:=by intro v;unfold Eg at k;simp only[AAL M,AAL v,AAH]at k;exact eq_of_beq k.1
 have h4:j=17->(ix s.AA u).dm=4/\(ix s.AA u).D7=o:=by intro v;unfold Eg at k;simp only[AAL M,AAM v,AAH]at k;exact⟨eq_of_beq k.1,eq_of_beq k.2.1⟩
 have E:B u:=T.b.2 ah;refine YI.congr (B:=B) ?_ λt=>⟨λh=>h.elim id λe=>e▸E,.inl⟩;have own:∀{i},CC i wv.AK.length->(ix s.AK i).Am=[]->j≠17->YI wv B (Abs.HN s i λx=>⟨u,x.Am⟩):=λhi PN v=>h.HN F R hi ⟨λ_=>E,λh=>absurd PN h,(h.l _ hi).p,(h.l _ hi).r⟩ (.inr (.inr ⟨q,J v⟩));have off:∀{i},CC i wv.AK.length->YI wv B (Abs.HN s i λx=>⟨-1,x.Am⟩):=λhi=>h.HN F R hi ⟨λh=>absurd rfl h,λI=>⟨((h.l _ hi).w I).1,rfl⟩,(h.l _ hi).p,(h.l _ hi).r⟩ (.inl rfl);by_cases k2:j=2;rw[AAM k2];have J:=J ah;dsimp only;apply h.KI C q;exact⟨ak,by simp[E],ak,ak,λ_ _=>T.n ah ah,ak⟩;rw[AAL k2];by_cases S:j=6\/j=10;(rw[AAM S];have hi:CC o wv.AK.length:=(by rcases S with rfl|rfl<;>simp[BC]at d<;>exact d.1);refine own hi ?_ ah;rcases S with rfl|rfl);have H:(ix wv.AK o).RW=false:=(by simp[BC]at d;exact d.2);by_cases e:(ix s.AK o).Am=[];exact e;have:=(h.l o hi).w e;simp_all;simp[Eg]at k;grind;rw[AAL S];by_cases k7:j=7\/j=11;(rw[AAM k7];refine off ?_;rcases k7 with rfl|rfl<;>simp[BC]at d<;>exact d.1);rw[AAL k7];by_cases k8:j=8;(rw[AAM k8];subst k8;simp[BC]at d;simp[Eg]at k;have L:=h.l o d.1;dsimp only;applyλx=>h.HN F R d.1 x (.inr (.inl rfl));refine⟨L.o,λ_=>⟨d.2,k.2.1⟩,nL _,?_⟩;intro y m;have m:y∈(ix s.AK o).Am++[u]:=(Kp _ y).1 m;rcases AAX.1 m with m|m);exact L.r y m;simp_all;rw[AAL k8];by_cases k9:j=9;rw[AAM k9];subst k9;simp[BC]at d;have L:=h.l o d.1;dsimp only;applyλx=>h.HN F R d.1 x (.inr (.inl rfl));exact⟨L.o,λI=>L.w λe=>I (by simp[e]),L.p.sublist List.filter_sublist,λy m=>L.r y (List.mem_filter.1 m).1⟩;rw[AAL k9];by_cases uF:j=12;rw[AAM uF];exact⟨h.t,h.l,λ_=>E,h.b⟩;rw[AAL uF];by_cases N:j=13;rw[AAM N];exact⟨h.t,h.l,λh=>absurd rfl h,h.b⟩;rw[AAL N];by_cases P:j=14;rw[AAM P];have J:=J ah;dsimp only;apply h.KI C q;exact⟨T.s,T.b,T.z,T.c,T.n,λ_=>am⟩;rw[AAL P];by_cases Q:j=15;rw[AAM Q];dsimp only;apply h.KI C q;exact⟨T.s,T.b,T.z,T.c,T.n,λh=>by cases h⟩;rw[AAL Q];by_cases W:j=16;rw[AAM W];have G:CC o wv.Al.length:=(by simpa[BC,W]using d);have g:=F o G;dsimp only;apply(off g).KI C q;refine⟨ak,by simp[E],ak,λ_=>⟨G,?_⟩,ak,ak⟩;show(ix (s.AK.set _ _) _).B6≠u;rw[NI am am,AAM rfl];have:=A0.1 q;grind;rw[AAL W];by_cases v:j=17;rw[AAM v];have G:CC o wv.Al.length:=(by simpa[BC,v]using d);have g:=F o G;have m:=h.KI C q (f:=λx=>⟨2,0,x.d6⟩) ⟨ak,by simp[E],ak,ak,ak,ak⟩;refine m.HN F R (f:=λx=>⟨u,x.Am⟩) g ⟨λ_=>E,λI=>?_,(h.l _ g).p,(h.l _ g).r⟩ (.inr (.inr ⟨q,?_⟩));have H:=((h.l _ g).w I).1;simp_all;show(ix (s.AA.set u.toNat _) u).dm=2;rw[NI am am,AAM rfl];rw[AAL v];by_cases Yz:j=18;rw[AAM Yz];by_cases hW:CJ o 0 s.AA=[];simp_all;simp only[hW,AAY];obtain⟨d1,X⟩:=waits_in C (chosen_in (wake:=wake) hW);have D:=h.t _ d1;apply h.KI C d1;exact⟨by simp[Iu],by simp[Iu];exact D.b.2 ah,by simp[Iu],λ_=>D.c (.inl X),by simp[Iu],by simp[Iu]⟩;rw[AAL Yz];by_cases q7:j=19;rw[AAM q7];refine⟨λt K=>?_,h.l,h.x,h.b⟩;show TI wv B s.AK t (ix (s.AA.map (Hz o)) t);rw[ix_map am];have U:=h.t t K;unfold Hz;by_cases H:Ic (ix s.AA t) o=true;have X:(ix s.AA t).dm=3:=(by unfold Ic at H;simp only[AAH]at H;exact eq_of_beq H.1);rw[AAM H];exact⟨by simp[Iu],by simp[Iu];exact U.b.2 ah,by simp[Iu],λ_=>U.c (.inl X),by simp[Iu],by simp[Iu]⟩;simp_all;rw[AAL q7];by_cases V:j=20;rw[AAM V];have G:CC o wv.AA.length:=(by simpa[BC,V]using d);have O:=h.t o G;have hs:(ix s.AA o).dm=0:=(by simp[Eg,V]at k;exact k.2.2);have nb:¬B o:=λh=>(by have:=O.b.1 h;omega);dsimp only;apply h.KI C G;exact⟨ak,by simp[nb],ak,ak,λ_ _=>O.n ah ah,λh=>by have:=O.a h;omega⟩;rw[AAL V];by_cases Y0:j=22;rw[AAM Y0];exact⟨h.t,h.l,h.x,h.b⟩;simp_all
def begB(wv:AG)(c:i6)(u:Int):Prop:=CC u wv.AA.length=true/\1<=ix c u
structure WI (wv:AG) (pre:List AH) (s:AD):Prop where
 f:JS wv s=true
 c:∀u,CC u wv.AA.length=true->ix s.dh u=((JH pre u).length:Int)
 m:s.dh.sum=(pre.length:Int)
 y:YI wv (begB wv s.dh) s.df
 d:∀i,CC i wv.AL.length=true->ix s.df.Br i=false->ix s.AL i=0
theorem sum_set:∀{i:Nat}{x:Int},i<c.length->(c.set i x).sum=c.sum+(x-c.getD i 0):=by induction c with|nil=>simp_all|cons a r ih=>intro i x h;cases i with|zero=>simp;omega|succ i=>grind
theorem aD[Inhabited b]{a:b}(h:CC o n):ix (List.replicate n a) o=a:=by have:=A0.1 h;unfold ix;simp_all
theorem SA(h:C6 wv):wv.Al.all (SF wv)/\1<=wv.AA.length:=by unfold C6 at h;grind
theorem Ts(h:C6 wv):∀o,CC o wv.Al.length->(ix wv.AK (ix wv.Al o).dr).RW=false:=by intro o b;have a:=(SA h).1;have:=A0.1 b;have c:o.toNat<wv.Al.length:=ah;have:=AAP.1 a (ix wv.Al o) (by unfold ix;simp_all);unfold SF at this;simp_all
theorem WI.start(h:C6 wv):WI wv [] (IG wv):=by
 have l:=Dw h;have b:=Ts h;have j:=(SA h).2;have d:∀u,¬begB wv (IG wv).dh u:=λu ⟨a,k⟩=>by have:ix (IG wv).dh u=0:=aD a;omega
 have f:wv.Al.all (λc=>CC c.dr wv.AK.length):=by have b:=(SA h).1;refine AAP.2 λx g=>?_;have:=AAP.1 b x g;unfold SF at this;simp only[AAH]at this;exact this.1
 refine⟨?_,λu a=>aD a,?_,⟨λu a=>?_,λi hi=>?_,λh=>absurd rfl h,λu a=>a.1⟩,λi hi _=>aD hi⟩;unfold JS He IG Kd;simp[f];show(List.replicate wv.AA.length (0:Int)).sum=0;simp_all;show TI wv _ _ u (ix ((List.replicate wv.AA.length (⟨0,0,false⟩:AM)).set (0:Int).toNat ⟨1,0,false⟩) u);rw[NI (A0.2 an) am];by_cases e:u=0;rw[AAM e];exact⟨ak,by simp[d],ak,ak,ak,ak⟩;rw[AAL e,aD a];exact⟨ak,by simp[d],λh=>absurd h e,ak,ak,ak⟩;show LI wv _ i (ix (List.replicate wv.AK.length (⟨-1,[]⟩:AW)) i);rw[aD hi];exact⟨ak,ak,ak,ak⟩
variable{pre:js}{x:AH}
theorem WI.next(D:∀o,CC o wv.Al.length->(ix wv.AK (ix wv.Al o).dr).RW=false)(h:WI wv pre s)(G:pre.length<=100000)(C:FV wv s x):WI wv (pre++[x]) (Ed wv s x):=by
 have q:=C;unfold FV at q;simp only[AAH]at q;obtain⟨B,n,l,_,_,_⟩:=q;obtain⟨f1,f2,f3,f4⟩:=IW B;obtain⟨I,J,K⟩:=Dl f1;have E:=Kb pre x.db;have v:=h.c x.db n;have w:A8 (ix s.dh x.db+1)=((JH pre x.db).length:Int)+1:=by rw[v,CD ah ah]
 have r:∀u,CC u wv.AA.length->ix (Ed wv s x).dh u=if u=x.db then((JH pre x.db).length:Int)+1 else ix s.dh u:=by intro u f;show ix (s.dh.set x.db.toNat _) u=_;rw[NI am am,w]
 refine⟨?_,λu f=>?_,?_,?_,λi hi hd=>?_⟩;have:=Zs f1 x.db x.de x.dq (if x.de=18 then x.dn else -1);unfold JS Ed;grind;rw[r u f,NR];by_cases j:u=x.db;simp_all;rw[AAL j,AAL (λh=>j h.symm),h.c u f];show(s.dh.set x.db.toNat _).sum=_;have hi:=A0.1 n;have:ix s.dh x.db=s.dh.getD x.db.toNat 0:=(by unfold ix;rw[List.getD_eq_getElem?_getD];rfl);rw[sum_set ah,h.m,w,<- this,v];simp;omega;refine(h.y.apply D l (wake:=if x.de=18 then x.dn else -1)).congr λu=>?_;constructor;rintro⟨f,k⟩;rw[r u f]at k;by_cases j:u=x.db;omega;rw[AAL j]at k;exact .inl ⟨f,k⟩;rintro(⟨f,k⟩|rfl);refine⟨f,?_⟩;grind;refine⟨n,?_⟩;grind;(. (unfold B0 at l;simp only[AAH]at l;obtain⟨_,_,t,E⟩:=l;have e:(Cr wv s.df x.db x.de x.dq (if x.de=18 then x.dn else -1)).1.Br=if x.de=22 then s.df.Br.set x.dq.toNat true else s.df.Br:=by unfold Cr;by_cases g:x.de=22;simp[g];(. (rw[AAL g,AAL g];have key:∀(p:Prop) [Decidable p] (a b:AQ×Int),a.1.Br=s.df.Br->b.1.Br=s.df.Br->(if p then a else b).1.Br=s.df.Br:=by intro p _ a b t F;split<;>assumption);(repeat' refine key _ _ _ ?_ ?_);all_goals first|rfl| (by_cases z:CJ x.dq 0 s.df.AA=[]<;>simp only[z,AAl,AAY]<;>rfl)));(have hd:ix (if x.de=22 then s.df.Br.set x.dq.toNat true else s.df.Br) i=false:=by rw[<- e];exact hd);show ix (if x.de=22 then s.AL.set x.dq.toNat x.dn else s.AL) i=0;by_cases g:x.de=22;rw[AAM g]at hd |-;have H:CC x.dq wv.AL.length:=(by simpa[BC,g]using t);rw[NI am am]at hd;rw[NI am am];by_cases j:i=x.dq;simp_all;rw[AAL j]at hd |-;exact h.d i hi hd;rw[AAL g]at hd |-;exact h.d i hi hd)
def HG(f:ke):Nat->Nat->Bool|_,0=>true|i,k+1=>f i&&HG f (i+1) k
variable{p:ke}
theorem Ii:∀{k i:Nat},HG p i k=true↔∀j,i<=j->j<i+k->p j=true|0,i=>by simp[HG];omega|k+1,i=>by unfold HG;rw[AAH,Ii];grind
theorem ZW(f g:ke):∀k i:Nat,HG (λj=>f j&&g j) i k=(HG f i k&&HG g i k)|0,i=>rfl|k+1,i=>by unfold HG;rw[ZW f g k (i+1)];grind
def I4(c:i6)(t:Int):Bool:=CC t c.length&&decide (1<=ix c t)
def Lp(w:AE):Bool:=HG (λi=>decide (0<=ix w.dg.dh i)&&decide (ix w.dg.dh i<=400)) 0 w.dg.dh.length&&(w.eO==w.dg.dh.sum&&decide (w.dg.dh.sum+w.AB.length<=400))
def UZ(x:AM):Bool:=x.dm==3||x.dm==4
def PL(w:AE)(i:Nat)(x:AM):Bool:=(decide (0<=x.dm)&&decide (x.dm<=5))&&((decide (x.dm<=1)==(ix w.dg.dh i==0))&&(!(i==0&&x.dm==0)&&(if UZ x=true then CC x.D7 w.dc.Al.length else x.D7==0)))
def YW(w:AE)(i:Nat)(x:AM):Bool:= !UZ x||(ix w.dg.df.AK (ix w.dc.Al x.D7).dr).B6 != (i:Int)
def Nu(w:AE)(i:Nat)(x:AM):Bool:= !x.d6||I4 w.dg.dh i
def JD(c:i6):Int->List Int->Bool|_,[]=>true|last,t::r=>decide (last<t)&&(I4 c t&&JD c t r)
def Np(w:AE)(i:Nat)(x:AW):Bool:=(x.B6== -1||I4 w.dg.dh x.B6)&&((x.Am.isEmpty||((ix w.dc.AK i).RW&&x.B6== -1))&&JD w.dg.dh (-1) x.Am)
def txW(w:AE):Bool:=w.dg.df.Tx== -1||I4 w.dg.dh w.dg.df.Tx
def eZ(w:AE)(i:Nat):Bool:=ix w.dg.df.Br i||ix w.dg.AL i==0
def JX(c:Int)(reads:ko)(k:Int):Bool:=decide (k<c)||Ka reads (k-c)
def bE(c:i6)(pre:js)(x:AH):Bool:=x.Dy.all (JX (ix c x.db) (JH pre x.db))&&x.DS.all (JX (ix c x.db) (JH pre x.db))
def XB(wv:AG)(c:i6):List AH->AD->List AH->Bool|_,_,[]=>true|pre,s,x::r=>FV wv s x&&(bE c pre x&&XB wv c (pre++[x]) (Ed wv s x) r)
abbrev JR(w:AE)(i:Nat):AM:=ix w.dg.df.AA i
def Tc(w:AE):Bool:=Lp w&&(HG (λi=>PL w i (JR w i)) 0 w.dg.df.AA.length&&(HG (λi=>YW w i (JR w i)) 0 w.dg.df.AA.length&&(HG (λi=>Np w i (ix w.dg.df.AK i)) 0 w.dg.df.AK.length&&(txW w&&(HG (λi=>Nu w i (JR w i)) 0 w.dg.df.AA.length&&HG (eZ w) 0 w.dg.AL.length)))))
def KP(w:AE):Bool:=C6 w.dc&&(JS w.dc w.dg&&(decide (w.AB.length<=16)&&(Tc w&&XB w.dc w.dg.dh [] w.dg w.AB)))
theorem yD:∀(l:i6)(a:Int),(∀t∈l,I4 c t)->(∀t∈l,a<t)->l.Pairwise (· < ·)->JD c a l:=by intro l;induction l with|nil=>exactλ_ _ _ _=>rfl|cons x r ih=>intro a d e b;obtain⟨f,g⟩:=ABg.1 b;unfold JD;simp_all
theorem begun_iff(h:s.dh.length=wv.AA.length):I4 s.dh u=true↔begB wv s.dh u:=by unfold I4 begB;simp_all
theorem rdB_app(a b:js)(t:Int):JH (a++b) t=JH a t++JH b t:=by unfold JH;simp_all
variable{B F:ko}
theorem isIn_new(h:Ka (B++F) o):JX B.length F o:=by unfold JX;by_cases f:o<(B.length:Int);simp[f];unfold Ka at h |-;simp only[AAH]at h;have d:=A0.1 h.1;simp only[AAx]at d;have e:CC (o-B.length) F.length:=A0.2 ah;have c:=h.2;unfold ix at c;rw[AAp ah,show o.toNat-B.length=(o-(B.length:Int)).toNat from by omega]at c;rw[e];unfold ix;grind
variable{pre0:js}
theorem posW_ok(e:∀u,CC u wv.AA.length->ix c u=((JH pre0 u).length:Int)):∀(l pre:js)(s:AD),(F8 wv (pre0++pre) s l).2=0->XB wv c pre s l:=by intro l;induction l with|nil=>exactλ_ _ _=>rfl|cons x r ih=>intro pre s h;rw[F8]at h;split at h;rename_i a;rw[AAH]at a;rw[ABO]at h;unfold XB;rw[a.1,ih _ _ h];have g:=K9 a.1;have b:=a.2;unfold P1 at b;unfold bE;rw[rdB_app,AAH]at b;rw[e _ g];have key:∀D:List Int,D.all (Ka (JH pre0 x.db++JH pre x.db))->D.all (JX ((JH pre0 x.db).length:Int) (JH pre x.db)):=λD d=>AAP.2 λk f=>isIn_new (AAP.1 d k f);grind;cases h
theorem valid_of(I:C6 wv)(h:WI wv pre s){l:js}(G:l.length<=16)(hn:pre.length+l.length<=400)(J:(F8 wv pre s l).2=0):KP ⟨wv,(pre.length:Int),s,l⟩:=by
 obtain⟨f1,f2,f3,f4⟩:=IW h.f;obtain⟨N,O,P⟩:=Dl f1;have g:∀j:Nat,j<wv.AA.length->CC (j:Int) wv.AA.length:=λj k=>A0.2 ah;have C:∀u,CC u wv.AA.length->0<=ix s.dh u/\ix s.dh u<=pre.length:=λu H=>by have:=Kb pre u;rw[h.c u H];omega
 have v:∀{u},begB wv s.dh u->I4 s.dh u:=λh=>(begun_iff f4).2 h;unfold KP Tc;simp only[I,h.f,AAf,AAH,AAa];refine⟨G,⟨?_,?_,?_,?_,?_,?_,?_⟩,posW_ok (pre0:=pre) h.c l [] s am⟩;unfold Lp;simp only[AAH,AAa,AAT];refine⟨Ii.2 λj _ k=>?_,h.m.symm,by rw[h.m];omega⟩;grind;refine Ii.2 λj _ k=>?_;have i:j<wv.AA.length:=ah;have T:=h.y.t j (g j i);have B:=T.b;unfold begB at B;rw[g j i]at B;have:=C j (g j i);have F:=T.s;unfold PL JR;simp only;generalize ix s.df.AA (j:Int)=x at T B F |-;generalize K:ix s.dh (j:Int)=q at B this |-;simp only[AAH,AAa];refine⟨F,?_,?_,?_⟩;grind;have M:=T.z;grind;unfold UZ;by_cases E:x.dm=3\/x.dm=4;rw[AAM am];exact(T.c E).1;rw[AAL am];simpa using T.n ah ah;refine Ii.2 λj _ k=>?_;have i:j<wv.AA.length:=ah;have T:=h.y.t j (g j i);unfold YW JR UZ;simp only;generalize ix s.df.AA (j:Int)=x at T |-;by_cases E:x.dm=3\/x.dm=4;have:=(T.c E).2;simp[this];simp_all;refine Ii.2 λj _ k=>?_;have i:j<wv.AK.length:=ah;have L:=h.y.l j (A0.2 ah);unfold Np;simp only;generalize ix s.df.AK (j:Int)=x at L |-;simp only[AAH,AAh,AAT];refine⟨?_,?_,yD _ _ (λt D=>v (L.r t D)) (λt D=>?_) L.p⟩;by_cases e:x.B6= -1;omega;exact .inr (v (L.o e));by_cases e:x.Am=[];simp_all;exact .inr (L.w e);have:=(A0.1 (L.r t D).1).1;omega;unfold txW;simp only[AAh,AAT];by_cases e:s.df.Tx= -1;omega;exact .inr (v (h.y.x e));(refine Ii.2 λj _ k=>?_;have i:j<wv.AA.length:=ah;have T:=h.y.t j (g j i);unfold Nu JR;simp only;generalize ix s.df.AA (j:Int)=x at T |-;cases ha:x.d6 with|false=>rfl|true=>exact v (T.b.2 (T.a ha)));refine Ii.2 λj _ k=>?_;have i:j<wv.AL.length:=ah;unfold eZ;simp only;cases hd:ix s.df.Br (j:Int)with|true=>rfl|false=>simpa using h.d j (A0.2 ah) hd
def I2(t:Ck)(n:Nat):AD:=(t.AB.take n).foldl (Ed t.dc) (IG t.dc)
variable{t:Ck}
theorem Qx(h:n<t.AB.length):I2 t (n+1)=Ed t.dc (I2 t n) t.AB[n]:=by unfold I2;rw[<- AAe h,List.foldl_append];rfl
theorem vG(d:C6 t.dc)(g:t.AB.length<=400)(e:F8 t.dc [] (IG t.dc) t.AB=(0,0)):∀n,n<=t.AB.length->WI t.dc (t.AB.take n) (I2 t n)/\F8 t.dc (t.AB.take n) (I2 t n) (t.AB.drop n)=(0,0):=by have f:=Ts d;intro n;induction n with|zero=>intro _;exact⟨WI.start d,e⟩|succ n ih=>intro hn;obtain⟨a,b⟩:=ih ah;rw[AA8 ah,F8]at b;split at b;rename_i c;rw[AAH]at c;rw[Qx ah,<- AAe ah];exact⟨a.next f an c.1,b⟩;simp_all
theorem vX:∀(a b:js) pre s,F8 wv pre s (a++b)=(0,0)->F8 wv pre s a=(0,0):=by intro a;induction a with|nil=>intro b pre s _;rfl|cons x r ih=>intro b pre s h;rw[AA3,F8]at h;rw[F8];grind
def winS(t:Ck)(size i:Nat):AE:=⟨t.dc,(i:Int),I2 t i,(t.AB.drop i).take size⟩
theorem yW(c:C6 t.dc)(f:t.AB.length<=400)(e:F8 t.dc [] (IG t.dc) t.AB=(0,0))(g:k<=16)(hi:n<=t.AB.length):KP (winS t k n):=by obtain⟨a,b⟩:=vG c f e n hi;have d:F8 t.dc (t.AB.take n) (I2 t n) ((t.AB.drop n).take k)=(0,0):=vX _ ((t.AB.drop n).drop k) _ _ (by rw[ABE];exact b);have:=valid_of c a (l:=(t.AB.drop n).take k) an an (by rw[d]);rw[ABe,Nat.min_eq_left hi]at this;exact this
theorem K3{L:Nat->Int->ABi Bool}{R:ABi Bool}(b:∀(n i:Nat),i<k->L (n+1) (i:Int)=if p i=true then L n ((i+1:Nat):Int)else some false)(a:∀n,L (n+1) (k:Int)=R):∀n i:Nat,i<=k->k<n+i->L n (i:Int)=if HG p i (k-i)=true then R else some false|0,i,h1,h2=>ah|n+1,i,h1,h2=>by by_cases hi:i<k;(rw[b n i hi,show k-i=(k-(i+1))+1 from by omega,HG];cases hp:p i with|false=>rfl|true=>rw[AAM rfl,AAf,K3 b a n (i+1) ah ah]);have:i=k:=ah;subst this;rw[a,Nat.sub_self];rfl
def cntB(w:AE)(i:Nat):Bool:=decide (0<=ix w.dg.dh i)&&decide (ix w.dg.dh i<=400)
theorem X8(w:AE)(b:w.dg.dh.length<=4):∀(n i:Nat)(c:Int),i<=w.dg.dh.length->w.dg.dh.length<n+i->0<=c->c<=400*i->Cd.AR w n c (i:Int)=if HG (cntB w) i (w.dg.dh.length-i)=true then Cd.J2 w (c+(w.dg.dh.drop i).sum)else some false|0,i,c,h1,h2,h3,h4=>ah|n+1,i,c,h1,h2,h3,h4=>by unfold Cd.AR Cd.L1;by_cases hi:i<w.dg.dh.length;rw[A6 ah,Bm hi,AAG,show w.dg.dh.length-i=(w.dg.dh.length-(i+1))+1 from by omega,HG,D1 hi,List.sum_cons];unfold cntB Cd.J1;rw[DC hi];generalize w.dg.dh[i]=d;by_cases a:d<0;grind;rw[Aa a];by_cases g2:d>400;grind;rw[show decide (d>400)=false from by simp_all,AAL ak,CD ah ah,AX ah,X8 w b n (i+1) _ ah ah ah ah,show decide (0<=d)=true from by simp;omega,show decide (d<=400)=true from by simp;omega,Int.add_assoc];rfl;rw[Aa ah,Et hi,List.sum_nil,Int.add_zero,show w.dg.dh.length-i=0 from by omega];rfl
theorem Xu(w:AE)(b:w.dg.dh.length<=4):∀(n i:Nat)(c:Int),i<=w.dg.dh.length->w.dg.dh.length<n+i->0<=c->c<=400*i->GP.AR w n c (i:Int)=Cd.AR w n c (i:Int)|0,i,c,h1,h2,h3,h4=>ah|n+1,i,c,h1,h2,h3,h4=>by unfold GP.AR GP.L1 Cd.AR Cd.L1;by_cases hi:i<w.dg.dh.length;rw[A6 ah,A6 ah,Bm hi,AAG,AAG];unfold GP.J1 Cd.J1;rw[Bm hi,AAG];generalize w.dg.dh[i]=d;by_cases a:d<0;simp_all;rw[Aa a,Aa a];by_cases g2:d>400;simp_all;rw[show decide (d>400)=false from by simp_all,AAL ak,AAL ak,CD ah ah,AX ah,Xu w b n (i+1) _ ah ah ah ah];rw[Aa ah,Aa ah];rfl
theorem Zp(w:AE)(e:w.dg.dh.length<=4)(k:w.AB.length<=16):Cd w=some (Lp w):=by
 have i:=BK;unfold Cd;have:=X8 w e BQ 0 0 ah ah ah ah;rw[Int.natCast_zero]at this;rw[this,Nat.sub_zero,AAn,Int.zero_add];unfold Lp;change (if HG (cntB w) 0 _=true then _ else _)=some (HG (cntB w) 0 _&&_);cases ha:HG (cntB w) 0 w.dg.dh.length with
 |false=>rfl
 |true=>
  rw[AAM rfl,AAf];unfold Cd.J2 Cd.J3;have m:0<=w.dg.dh.sum/\w.dg.dh.sum<=1600:=by(have c:=Ii.1 ha;have key:∀l:List Int,(∀x∈l,0<=x/\x<=400)->0<=l.sum/\l.sum<=400*l.length:=by intro l;induction l with|nil=>grind|cons x l ih=>intro h;have a:=h x ak;have b:=ih λy g=>h y (by simp[g]);grind);(have:=key w.dg.dh λx f=>by obtain⟨j,d,rfl⟩:=ABM f;have:=c j ah ah;unfold cntB at this;rw[DC d]at this;simp_all);omega
  rw[CD ah ah];grind
theorem yC(w:AE)(a:w.dg.dh.length<=4)(b:w.AB.length<=16):GP w=some (Lp w):=by rw[<- Zp w a b];exact Xu w a BQ 0 0 ah bh ah ah
theorem sU(f:∀x,x<0->P x)(g:∀x,5<x->P x)(a0:P 0)(a:P 1)(b:P 2)(c:P 3)(d:P 4)(e:P 5)(x:Int):P x:=aA
structure WinF (w:AE):Prop where
 v:C6 w.dc=true
 f:JS w.dc w.dg=true
 e:w.AB.length<=16
structure Nd (w:AE):Prop where
 s:Small w.dc
 l:w.dg.df.AK.length=w.dc.AK.length
 d:w.dg.df.Br.length=w.dc.AL.length
 t:w.dg.df.AA.length=w.dc.AA.length
 u:w.dg.AL.length=w.dc.AL.length
 c:w.dg.dh.length=w.dc.AA.length
 m:∀o,CC o w.dc.Al.length=true->CC (ix w.dc.Al o).dr w.dc.AK.length=true
variable{w:AE}
theorem WinF.l(h:WinF w):Nd w:=by obtain⟨f1,f2,f3,f4⟩:=IW h.f;obtain⟨b,c,d⟩:=Dl f1;exact⟨Dw h.v,b,c,d,f3,f4,λo a=>Gr f1 a⟩
theorem nZ(h:Nd w)(n i:Nat)(hi:i<w.dg.df.AA.length):BX.AR w (n+1) (i:Int)=if(PL w i (JR w i)&&YW w i (JR w i))=true then BX.AR w n ((i+1:Nat):Int)else some false:=by
 have f:=h.s.t;have g:=h.t;have j:=h.c;rw[BX.AR];unfold BX.L1 JR;rw[A6 ah,Bm hi,AAG,DC hi];generalize w.dg.df.AA[i]=x;unfold BX.J1 BX.J2 BX.J3 BX.J4 BX.J5;rw[AX ah];generalize BX.AR w n ((i+1:Nat):Int)=R;rw[Bz (l:=w.dg.dh) (A0.2 ah)];simp only[AAG,AAl,AAY,AAR];unfold PL YW UZ;have e:((i:Int)==0)=(i==0):=by rw[Bool.eq_iff_iff,AAT,AAT];omega
 rw[e];generalize (ix w.dg.dh (i:Int)==0)=c;have d:(if decide (x.D7<0)=true then some false else if decide (x.D7>=(w.dc.Al.length:Int))=true then some false else
  (gt w.dc.Al x.D7).bind λl=>(gt w.dg.df.AK l.dr).bind λo=>if(o.B6==(i:Int))=true then some false else R)=
  if(CC x.D7 w.dc.Al.length&&(ix w.dg.df.AK (ix w.dc.Al x.D7).dr).B6 != (i:Int))=true then R else some false:=by
  by_cases b:x.D7<0;rw[A6 b,show CC x.D7 w.dc.Al.length=false from by rw[Bool.eq_false_iff];intro h;have:=A0.1 h;omega];rfl;rw[Aa b];by_cases g2:x.D7>=(w.dc.Al.length:Int);rw[A6 g2,show CC x.D7 w.dc.Al.length=false from by rw[Bool.eq_false_iff];intro h;have:=A0.1 h;omega];rfl;have a:CC x.D7 w.dc.Al.length:=A0.2 ah;rw[Aa g2,Bz a,AAG,Bz (by rw[h.l];exact h.m _ a),AAG,a,AAf];simp_all
 generalize x.D7=co at d |-;generalize x.dm=st;revert st;refine sU ?_ ?_ ?_ ?_ ?_ ?_ ?_ ?_;all_goals grind
def Xy(i:Int)(n:Nat):MN i (n:Int)=some (CC i n):=PM i n
theorem yJ(h:Nd w)(n i:Nat)(hi:i<w.dg.df.AA.length):Cb.AR w (n+1) (i:Int)=if PL w i (JR w i)=true then Cb.AR w n ((i+1:Nat):Int)else some false:=by
 have d:=h.s.t;have e:=h.t;have f:=h.c;rw[Cb.AR];unfold Cb.L1 JR;unfold Cb.J1 Cb.J2 Cb.J3 Cb.J4;rw[A6 ah,Bm hi,DC hi];generalize w.dg.df.AA[i]=x;rw[AX ah];generalize Cb.AR w n ((i+1:Nat):Int)=R;rw[Bz (l:=w.dg.dh) (A0.2 ah)];simp only[AAG,AAl,AAY,AAR,Xy];unfold PL UZ;have a:((i:Int)==0)=(i==0):=by rw[Bool.eq_iff_iff,AAT,AAT];omega
 rw[a];generalize (ix w.dg.dh (i:Int)==0)=c;generalize CC x.D7 w.dc.Al.length=b;generalize x.D7=co;generalize x.dm=st;revert st;refine sU ?_ ?_ ?_ ?_ ?_ ?_ ?_ ?_;all_goals grind
theorem Sh(w:AE)(t:Int):CU t w=some (I4 w.dg.dh t):=by unfold CU CU.J1 I4;by_cases h:CC t w.dg.dh.length=true;have:=A0.1 h;rw[A6 ah,A6 ah,Bz h,h];rfl;rw[show CC t w.dg.dh.length=false from by grind];by_cases g:t>=0;rw[A6 g,Aa (λk=>h (A0.2 ⟨g,k⟩))];rfl;grind
theorem Sd(w:AE)(t:Int):Gc w t=some (I4 w.dg.dh t):=by unfold Gc Gc.J1 I4;rw[Xy,AAG];cases h:CC t w.dg.dh.length with|true=>rw[AAM rfl,Bz h];rfl|false=>rfl
theorem s6(w:AE)(x:AW)(c:x.Am.length<=4611686018427387904)(L1:ja)(b:Int):∀(n e:Nat)(f:Int),e<=x.Am.length->x.Am.length<n+e->Aj.Bs L1 b w x n f (e:Int)=if JD w.dg.dh f (x.Am.drop e)=true then L1 (A8 (b+1))else some false|0,e,f,h1,h2=>ah|n+1,e,f,h1,h2=>by unfold Aj.Bs Aj.L2;by_cases a:e<x.Am.length;(rw[A6 ah,Bm a,AAG,D1 a,JD,Sh,AAG];unfold Aj.J3;by_cases g:x.Am[e]<=f;grind;rw[Aa g,show decide (f<x.Am[e])=true from by grind,AAf,AX ah];cases I4 w.dg.dh x.Am[e]with|false=>rfl|true=>rw[AAL ak,AAf];exact s6 w x c L1 b n (e+1) _ ah ah);rw[Aa ah,Et a];rfl
theorem sB(w:AE)(x:AW)(c:x.Am.length<=4611686018427387904)(L1:ja)(b:Int):∀(n e:Nat)(f:Int),e<=x.Am.length->x.Am.length<n+e->(∀(h:0<e)(i:e-1<x.Am.length),f=x.Am[e-1])->(e=0->f= -1)->BI.Bs L1 b w x n (e:Int)=if JD w.dg.dh f (x.Am.drop e)=true then L1 (A8 (b+1))else some false|0,e,f,h1,h2,_,_=>ah|n+1,e,f,h1,h2,h3,h4=>by unfold BI.Bs BI.L2;by_cases a:e<x.Am.length;(rw[A6 ah,Bm a,AAG,D1 a,JD,Sd,AAG];unfold BI.J2;have j:=sB w x c L1 b n (e+1) x.Am[e] ah ah (λ_ _=>rfl) cm;cases hb:I4 w.dg.dh x.Am[e]with|false=>simp_all|true=>have d:=A0.1 (AAH _ _▸hb).1;rw[AAL ak,AX ah,AAf];by_cases g:0<e;rw[A6 ah,CD ah ah,show(e:Int)-1=((e-1:Nat):Int)from by omega,Bm ah,AAG,<- h3 g ah];grind;grind);rw[Aa ah,Et a];rfl
theorem Xl(l:List a):decide ((l.length:Int)>0)= !l.isEmpty:=by cases l<;>simp<;>omega
theorem yU(h:Nd w)(c:RB 4611686018427387904 w.dg.df)(n i:Nat)(hi:i<w.dg.df.AK.length):Aj.AR w (n+1) (i:Int)=if Np w i (ix w.dg.df.AK i)=true then Aj.AR w n ((i+1:Nat):Int)else some false:=by have d:=h.s.l;have e:=h.l;rw[Aj.AR];unfold Aj.L1;rw[A6 ah,Bm hi,AAG,DC hi,Sh,AAG];have b:=c _ (AAS hi);generalize w.dg.df.AK[i]=x at b |-;unfold Aj.J1 Aj.J2;have a:=s6 w x b (Aj.AR w n) i BQ 0 (-1) ah bh;rw[Int.natCast_zero,AAn,AX ah]at a;rw[a,Xl,Bz (A0.2 ah),AAG];generalize Aj.AR w n ((i+1:Nat):Int)=R;unfold Np;grind
theorem yI(h:Nd w)(c:RB 4611686018427387904 w.dg.df)(n i:Nat)(hi:i<w.dg.df.AK.length):BI.AR w (n+1) (i:Int)=if Np w i (ix w.dg.df.AK i)=true then BI.AR w n ((i+1:Nat):Int)else some false:=by have d:=h.s.l;have e:=h.l;rw[BI.AR];unfold BI.L1;rw[A6 ah,Bm hi,AAG,DC hi,Sd,AAG];have b:=c _ (AAS hi);generalize w.dg.df.AK[i]=x at b |-;unfold BI.J1;have a:=sB w x b (BI.AR w n) i BQ 0 (-1) ah bh cm (λ_=>rfl);rw[Int.natCast_zero,AAn,AX ah]at a;rw[a,Xl,Bz (A0.2 ah),AAG];generalize BI.AR w n ((i+1:Nat):Int)=R;unfold Np;grind
theorem yT(h:Nd w)(n i:Nat)(hi:i<w.dg.df.AA.length):Aj.E3 w (n+1) (i:Int)=if Nu w i (JR w i)=true then Aj.E3 w n ((i+1:Nat):Int)else some false:=by have a:=h.s.t;have b:=h.t;rw[Aj.E3];unfold Aj.L3 Aj.J7 JR Nu;rw[A6 ah,Bm hi,AAG,DC hi,Sh,AAG,AX ah];grind
theorem yB(h:Nd w)(n i:Nat)(hi:i<w.dg.df.AA.length)(c:PL w i (JR w i)):BI.E3 w (n+1) (i:Int)=if(Nu w i (JR w i)&&YW w i (JR w i))=true then BI.E3 w n ((i+1:Nat):Int)else some false:=by
 have e:=h.s.t;have f:=h.t;rw[BI.E3];unfold BI.L3 BI.J6 BI.J7;unfold PL at c;unfold JR at c |-;unfold Nu YW;rw[A6 ah,Bm hi,AAG,DC hi,Sd,AAG,AX ah];rw[DC hi]at c;generalize BI.E3 w n ((i+1:Nat):Int)=R;generalize w.dg.df.AA[i]=x at c |-;simp only[AAH]at c;obtain⟨_,_,_,b⟩:=c;unfold UZ at b |-;have d:∀(a:Bool),(if(!a)=true then some false else if(x.dm==3)=true then(gt w.dc.Al x.D7).bind λz=>(gt w.dg.df.AK z.dr).bind λq=>if(q.B6==(i:Int))=true then some false else R
  else if(x.dm==4)=true then(gt w.dc.Al x.D7).bind λz=>(gt w.dg.df.AK z.dr).bind λq=>if(q.B6==(i:Int))=true then some false else R else if false=true then some false else R)=
  if(a&&(!(x.dm==3||x.dm==4)||(ix w.dg.df.AK (ix w.dc.Al x.D7).dr).B6 != (i:Int)))=true then R else some false:=by
  intro a;cases a with|false=>rfl|true=>rw[AAL ak,AAf];cases g3:x.dm==3 with|true=>rw[g3]at b;have b:CC x.D7 w.dc.Al.length:=(by simpa using b);rw[AAM rfl,Bz b,AAG,Bz (by rw[h.l];exact h.m _ b),AAG];simp_all|false=>cases g4:x.dm==4 with|true=>rw[g3,g4]at b;have b:CC x.D7 w.dc.Al.length:=(by simpa using b);rw[AAL ak,AAM rfl,Bz b,AAG,Bz (by rw[h.l];exact h.m _ b),AAG];simp_all|false=>rfl
 grind
theorem vfut_step(h:Nd w)(n i:Nat)(hi:i<w.dg.AL.length):CA.AR w.dg (n+1) (i:Int)=if eZ w i=true then CA.AR w.dg n ((i+1:Nat):Int)else some false:=by have a:=h.s.f;have b:=h.d;have c:=h.u;rw[CA.AR];unfold CA.L1 CA.J1 eZ;rw[A6 ah,Bz (A0.2 ah),AAG,Bz (A0.2 ah),AAG,AX ah];grind
theorem rfut_step(h:Nd w)(n i:Nat)(hi:i<w.dg.AL.length):CQ.AR w (n+1) (i:Int)=if eZ w i=true then CQ.AR w n ((i+1:Nat):Int)else some false:=by have a:=h.s.f;have b:=h.d;have c:=h.u;rw[CQ.AR];unfold CQ.L1 CQ.J2 eZ;rw[A6 ah,Bz (A0.2 ah),AAG,Bz (A0.2 ah),AAG,AX ah];grind
theorem iteB(b:Bool):(if b=true then some true else some false)=some b:=aA
theorem s7(h:Nd w):BX w=some (HG (λi=>PL w i (JR w i)) 0 w.dg.df.AA.length&&HG (λi=>YW w i (JR w i)) 0 w.dg.df.AA.length):=by have a:=h.s.t;have b:=h.t;have c:=BK;rw[<- ZW,<- iteB];exact K3 (L:=BX.AR w) (R:=some true) (λn i hi=>nZ h n i hi) (λn=>by rw[BX.AR];unfold BX.L1;rw[Aa ah];rfl) BQ 0 ah ah
theorem nC(h:Nd w):Cb w=some (HG (λi=>PL w i (JR w i)) 0 w.dg.df.AA.length):=by have a:=h.s.t;have b:=h.t;have c:=BK;rw[<- iteB];exact K3 (L:=Cb.AR w) (R:=some true) (λn i hi=>yJ h n i hi) (λn=>by rw[Cb.AR];unfold Cb.L1;rw[Aa ah];rfl) BQ 0 ah ah
theorem sZ(h:Nd w)(b:RB 4611686018427387904 w.dg.df):Aj w=some (HG (λi=>Np w i (ix w.dg.df.AK i)) 0 w.dg.df.AK.length&&(txW w&&HG (λi=>Nu w i (JR w i)) 0 w.dg.df.AA.length)):=by
 have c:=h.s.l;have d:=h.l;have e:=h.s.t;have f:=h.t;have j:=BK;have a:Aj.E3 w BQ 0=some (HG (λi=>Nu w i (JR w i)) 0 w.dg.df.AA.length):=by rw[<- iteB];exact K3 (L:=Aj.E3 w) (R:=some true) (λn i hi=>yT h n i hi) (λn=>by rw[Aj.E3];unfold Aj.L3;rw[Aa ah];rfl) BQ 0 ah ah
 have g:Aj.J5 w=some (txW w&&HG (λi=>Nu w i (JR w i)) 0 w.dg.df.AA.length):=by unfold Aj.J5 Aj.J6 txW;rw[a,Sh,AAG];unfold bne;cases w.dg.df.Tx== -1<;>cases I4 w.dg.dh w.dg.df.Tx<;>rfl
 refine(K3 (L:=Aj.AR w) (R:=Aj.J5 w) (λn i hi=>yU h b n i hi) (λn=>by rw[Aj.AR];unfold Aj.L1;simp_all) BQ 0 ah ah).trans ?_;grind
variable{q:ke}
theorem loop_all'{L:Nat->Int->ABi Bool}{R:ABi Bool}(b:HG q 0 k)(c:∀(n i:Nat),i<k->q i->L (n+1) (i:Int)=if p i=true then L n ((i+1:Nat):Int)else some false)(a:∀n,L (n+1) (k:Int)=R):∀n i:Nat,i<=k->k<n+i->L n (i:Int)=if HG p i (k-i)=true then R else some false:=K3 (λn i hi=>c n i hi (Ii.1 b i ah ah)) a
theorem sA(h:Nd w)(c:RB 4611686018427387904 w.dg.df)(d:HG (λi=>PL w i (JR w i)) 0 w.dg.df.AA.length):BI w=some (HG (λi=>Np w i (ix w.dg.df.AK i)) 0 w.dg.df.AK.length&&(txW w&&(HG (λi=>Nu w i (JR w i)) 0 w.dg.df.AA.length&&HG (λi=>YW w i (JR w i)) 0 w.dg.df.AA.length))):=by
 have e:=h.s.l;have f:=h.l;have g:=h.s.t;have j:=h.t;have m:=BK;have a:BI.E3 w BQ 0=some (HG (λi=>Nu w i (JR w i)) 0 w.dg.df.AA.length&&HG (λi=>YW w i (JR w i)) 0 w.dg.df.AA.length):=by rw[<- ZW,<- iteB];exact loop_all' (L:=BI.E3 w) (R:=some true) d (λn i hi b=>yB h n i hi b) (λn=>by rw[BI.E3];unfold BI.L3;rw[Aa ah];rfl) BQ 0 ah ah
 have k:BI.J4 w=some (txW w&&(HG (λi=>Nu w i (JR w i)) 0 w.dg.df.AA.length&&HG (λi=>YW w i (JR w i)) 0 w.dg.df.AA.length)):=by unfold BI.J4 BI.J5 txW;rw[a,Sd,AAG];unfold bne;cases w.dg.df.Tx== -1<;>cases I4 w.dg.dh w.dg.df.Tx<;>rfl
 refine(K3 (L:=BI.AR w) (R:=BI.J4 w) (λn i hi=>yI h c n i hi) (λn=>by rw[BI.AR];unfold BI.L1;simp_all) BQ 0 ah ah).trans ?_;grind
theorem sY(h:Nd w):CA w.dg=some (HG (eZ w) 0 w.dg.AL.length):=by have a:=h.s.f;have b:=h.d;have c:=h.u;have e:=BK;rw[<- iteB];exact K3 (L:=CA.AR w.dg) (R:=some true) (λn i hi=>vfut_step h n i hi) (λn=>by rw[CA.AR];unfold CA.L1;rw[Aa ah];rfl) BQ 0 ah ah
theorem r9(h:Nd w):CQ.AR w BQ 0=if HG (eZ w) 0 w.dg.AL.length=true then CQ.J3 w else some false:=by have a:=h.s.f;have b:=h.d;have c:=h.u;have e:=BK;exact K3 (L:=CQ.AR w) (R:=CQ.J3 w) (λn i hi=>rfut_step h n i hi) (λn=>by rw[CQ.AR];unfold CQ.L1;simp_all) BQ 0 ah ah
theorem mN:∀(D:i6)(a:Int),Gk o a D->∀k∈D,a<k/\k<o:=by intro D;induction D with|nil=>simp_all|cons x r ih=>intro a h k b;unfold Gk at h;grind
theorem Ug(h:FV wv s x):(∀k∈x.Dy,1<=k/\k<ix s.dh x.db)/\∀k∈x.DS,1<=k/\k<ix s.dh x.db:=by unfold FV Ei at h;simp only[AAH]at h;obtain⟨_,_,_,_,⟨⟨_,b⟩,_,c⟩,_⟩:=h;exact⟨λk a=>by have:=mN _ _ b k a;omega,λk a=>by have:=mN _ _ c k a;omega⟩
theorem rQ:∀(l:i6)(a:Int),a<c.length->JD c a l->(l.length:Int)+a+1<=c.length:=by intro l;induction l with|nil=>grind|cons t r ih=>intro a h b;unfold JD I4 at b;simp only[AAH,AAa]at b;have d:=A0.1 b.2.1.1;grind
theorem RB_of(h:Nd w)(b:HG (λi=>Np w i (ix w.dg.df.AK i)) 0 w.dg.df.AK.length):RB 4 w.dg.df:=by intro x d;obtain⟨j,a,rfl⟩:=ABM d;have:=Ii.1 b j ah ah;unfold Np at this;rw[DC a]at this;simp only[AAH]at this;have:=rQ _ _ ah this.2.2;have e:=h.s.t;have f:=h.c;omega
def CI(c:i6)(nt:Nat)(pre:js)(s:AD):Prop:=s.dh.length=nt/\∀u,CC u nt->ix s.dh u=ix c u+((JH pre u).length:Int)
theorem CI.next(h:CI c k pre s)(a:CC x.db k)(d:∀u,CC u k->0<=ix c u/\ix c u<=400)(l:pre.length<=1000):CI c k (pre++[x]) (Ed wv s x):=by refine⟨by simpa[Ed]using h.1,λu b=>?_⟩;obtain⟨g,i⟩:=A0.1 a;obtain⟨j,nt⟩:=A0.1 b;rw[NR];show ix (s.dh.set x.db.toNat (A8 (ix s.dh x.db+1))) u=_;have m:=d _ a;have f:=h.2 _ a;have hn:=Kb pre x.db;by_cases e:x.db=u;subst e;rw[AAM rfl];unfold ix;rw[AAN (by have:=h.1;omega)];show A8 (ix s.dh x.db+1)=ix c x.db+_;rw[f,CD ah ah];grind;rw[AAL e,<- h.2 u b];unfold ix;grind
section
variable{w:AE}
theorem pos.L3(L2:ja)(l:i6)(R:jf)(t:Int)(x:AH)(g:l.length<4611686018427387904)(f:∀k∈l,1<=k/\k<1000000)(d:gt R x.db=some B)(e:gt w.dg.dh x.db=some (ix w.dg.dh x.db))(b:0<=ix w.dg.dh x.db/\ix w.dg.dh x.db<=400):∀(n i:Nat),i<=l.length->l.length<n+i->BA.E3 L2 l R t w x n (i:Int)=if(l.drop i).all (JX (ix w.dg.dh x.db) B)=true then L2 (A8 (t+1))else some false|0,i,h1,h2=>ah|n+1,i,h1,h2=>by rw[BA.E3];unfold BA.L3;by_cases hi:i<l.length;unfold BA.J2;have j:=f _ (AAS hi);rw[A6 ah,Bm hi,AAG,e,AAG,D1 hi,AX ah,pos.L3 L2 l R t x g f d e b n (i+1) ah ah,AA4,d,AAG];generalize l[i]=k at j |-;generalize (l.drop (i+1)).all (JX (ix w.dg.dh x.db) B)=q;generalize ix w.dg.dh x.db=c at b |-;rw[CD ah ah];unfold JX Ka;by_cases m:k<c;grind;rw[A6 ah,show decide (k<c)=false from by simp_all];by_cases a:k-c>=(B.length:Int);rw[A6 a,show CC (k-c) B.length=false from by simp[CC];omega];rfl;have h:CC (k-c) B.length:=br;rw[Aa a,Bz h,AAG,h];grind;rw[Aa ah,Et hi];rfl
theorem pos.L2(L1:AD->List (List Bool)->Int->ABi Bool)(R:jf)(t:Int)(v:mj)(x:AH)(b:KW x)(hd:∀k∈x.Dy,1<=k/\k<1000000)(f:∀k∈x.DS,1<=k/\k<1000000)(d:gt R x.db=some B)(e:gt w.dg.dh x.db=some (ix w.dg.dh x.db))(c:0<=ix w.dg.dh x.db/\ix w.dg.dh x.db<=400):BA.Bs L1 R t v w x BQ 0=if(x.Dy.all (JX (ix w.dg.dh x.db) B)&&x.DS.all (JX (ix w.dg.dh x.db) B))=true then BA.J4 L1 R t v x else some false:=by
 have n:=BK;have a:∀L1 t l,l.length<4611686018427387904->(∀k∈l,1<=k/\k<1000000)->BA.J1 L1 R t w x l=if l.all (JX (ix w.dg.dh x.db) B)=true then L1 (A8 (t+1))else some false:=by intro L1 t l h g;have:=pos.L3 L1 l R t x h g d e c BQ 0 ah ah;rw[AAn]at this;exact this
 rw[Zg];generalize BQ-3=m;have j:BA.Bs L1 R t v w x (m+1) 2=BA.J4 L1 R t v x:=by rw[BA.Bs];unfold BA.L2;rfl
 have i:BA.Bs L1 R t v w x (m+2) 1=if x.DS.all (JX (ix w.dg.dh x.db) B)=true then BA.J4 L1 R t v x else some false:=by rw[BA.Bs];unfold BA.L2;rw[A6 bg,AAL bg,AAM bg,a _ _ _ b.2 f,show A8 (1+1)=2 from rfl,j]
 rw[BA.Bs];unfold BA.L2;rw[A6 bg,AAM bg,a _ _ _ b.1 hd,show A8 (0+1)=1 from rfl,i];grind
theorem rM(h:Nd w)(r:w.AB.length<=16)(l:∀e∈w.AB,KW e)(f:∀u,CC u w.dc.AA.length->0<=ix w.dg.dh u/\ix w.dg.dh u<=400):∀(n i:Nat)(s:AD)(R:jf),i<=w.AB.length->w.AB.length<n+i->RB (4+i) s.df->R.length=w.dc.AA.length->(∀u:Nat,u<R.length->R[u]? =some (JH (w.AB.take i) (u:Int)))->CI w.dg.dh w.dc.AA.length (w.AB.take i) s->BA.AR w n s R (i:Int)=some (XB w.dc w.dg.dh (w.AB.take i) s (w.AB.drop i))|0,i,s,R,h1,h2,_,_,_,_=>ah|n+1,i,s,R,h1,h2,h3,h4,h5,h6=>by rw[BA.AR];unfold BA.L1;by_cases hi:i<w.AB.length;(have o:=l _ (AAS hi);rw[A6 ah,Bm hi,AAG,Y4 w.dc h.s s (h3.mono ah) _ o,AAG,D1 hi,XB];unfold QZ;cases hp:FV w.dc s w.AB[i]with|false=>rfl|true=>rw[AAM rfl,AAL (c:=(!true)=true) ak,AAf];have a:=K9 hp;obtain⟨q,z⟩:=A0.1 a;have v:w.AB[i].db.toNat<R.length:=ah;have m:gt R w.AB[i].db=some (JH (w.AB.take i) w.AB[i].db):=(by unfold gt;rw[AAM q,h5 _ v];congr 2;omega);have y:=Kb (w.AB.take i) w.AB[i].db;rw[ABd ah]at y;have g:=f _ a;have t:=h6.2 _ a;obtain⟨B,C⟩:=Ug hp;rw[pos.L2 _ _ _ _ _ o (λk d=>aA) (λk d=>aA) m (Bz (by rw[h.c];exact a)) g];change (if bE w.dg.dh (w.AB.take i) w.AB[i]=true then _ else _)=_;cases bE w.dg.dh (w.AB.take i) w.AB[i]with|false=>rfl|true=>(unfold BA.J4;rw[AAM rfl,m,AAG,Bb ah,Bb ah,AAf];unfold BA.J5 BA.J6;have d:∀b,b=fF w.AB[i]->BA.AR w n (Ed w.dc s w.AB[i]) (R.set w.AB[i].db.toNat (JH (w.AB.take i) w.AB[i].db++[b])) (A8 ((i:Int)+1))=some (XB w.dc w.dg.dh (w.AB.take i++[w.AB[i]]) (Ed w.dc s w.AB[i]) (w.AB.drop (i+1))):=by rintro b rfl;have j:=h6.next (wv:=w.dc) a f an;rw[AX ah];rw[AAe hi]at j |-;refine rM h r l f n (i+1) _ _ ah ah ?_ am ?_ j;exact(h3.apply _ _ _ _ _).mono ah;intro u x;rw[<- AAe hi,NR];grind);by_cases p:w.AB[i].de=3;rw[AAM (by simp[p])];exact d _ (by simp[fF,p]);rw[AAL am];exact d _ (by simp[fF,show(w.AB[i].de==3)=false by simp_all]));rw[Aa ah,Et hi];rfl
theorem wJ(h:Nd w)(d:Lp w):∀u,CC u w.dc.AA.length->0<=ix w.dg.dh u/\ix w.dg.dh u<=400:=by intro u e;unfold Lp at d;simp only[AAH]at d;obtain⟨a,b⟩:=A0.1 e;have f:=h.c;have:=Ii.1 d.1 u.toNat ah ah;grind
theorem rN(h:Nd w)(f:w.AB.length<=16)(b:∀e∈w.AB,KW e)(d:Lp w)(g:RB 4 w.dg.df):BA w=some (XB w.dc w.dg.dh [] w.dg w.AB):=by have i:=h.s.t;have j:=BK;unfold BA;rw[AAM ⟨ah,ah,Bq ah⟩];have:=rM h f b (wJ h d) BQ 0 w.dg (List.replicate w.dc.AA.length []) ah ah g ak (by intro u a;simp at a;simp[a,JH]) ⟨h.c,λu _=>by simp[JH]⟩;simp_all
end
variable{r y z C f g:Bool}
section
variable{w:AE}
theorem ZO(c:w.AB.length<=16)(t:Int):∀(n j d:Nat),j<=w.AB.length->w.AB.length<n+j->d<=1000000->∃r,E4.AR t w n (d:Int) (j:Int)=some r/\(match(JH (w.AB.drop j) t)[d]? with
 |some b=>∃(e:Nat)(h:e<w.AB.length),r=(e:Int)/\fF w.AB[e]=b
 |none=>r= -1)
 |0,j,d,h1,h2,_=>ah
 |n+1,j,d,h1,h2,h3=>by rw[E4.AR];unfold E4.L1 E4.J1;by_cases a:j<w.AB.length;rw[A6 ah,Bm a,AAG,D1 a,rP,AX ah];by_cases g:w.AB[j].db=t;(rw[AAM aA,AAM g];cases d with|zero=>grind|succ d=>rw[AAL an,CD ah ah,show((d+1:Nat):Int)-1=(d:Int)from by omega,ABG];exact ZO c t n (j+1) d ah ah ah);rw[AAL aA,AAL g];exact ZO c t n (j+1) d ah ah h3;rw[Aa ah,Et a];exact⟨_,rfl,rfl⟩
theorem X1(m:w.AB.length<=16)(l:i6)(t:Int)(hn:l.length<4611686018427387904)(j:∀k∈l,1<=k/\k<1000000)(h:gt w.dg.dh t=some (ix w.dg.dh t))(g:0<=ix w.dg.dh t/\ix w.dg.dh t<=400):∀(n i:Nat),i<=l.length->l.length<n+i->Fq.AR l t w n (i:Int)=some ((l.drop i).all (JX (ix w.dg.dh t) (JH w.AB t)))|0,i,h1,h2=>ah|n+1,i,h1,h2=>by rw[Fq.AR];unfold Fq.L1 Fq.J1 Fq.J2;by_cases hi:i<l.length;(have f:=j _ (AAS hi);rw[A6 ah,Bm hi,AAG,h,AAG,D1 hi,AX ah,X1 m l t hn j h g n (i+1) ah ah,AA4];generalize l[i]=k at f |-;generalize (l.drop (i+1)).all (JX (ix w.dg.dh t) (JH w.AB t))=q;generalize ix w.dg.dh t=c at g |-;rw[CD ah ah];unfold JX Ka;by_cases p:k<c;simp_all;rw[Aa p,show decide (k<c)=false from by simp_all];obtain⟨r,o,d⟩:=ZO m t BQ 0 (k-c).toNat ah bh ah;rw[show(((k-c).toNat:Nat):Int)=k-c from by omega,show((0:Nat):Int)=0 from rfl]at o;rw[AAn]at d;unfold E4;rw[o,AAG,Bool.false_or];cases hb:(JH w.AB t)[(k-c).toNat]? with|none=>rw[hb]at d;have a:=List.getElem?_eq_none_iff.1 hb;rw[show CC (k-c) (JH w.AB t).length=false from by simp[CC];omega];simp_all|some b=>rw[hb]at d;obtain⟨e,s,rfl,u⟩:=d;obtain⟨a,_⟩:=AAJ.1 hb;rw[show CC (k-c) (JH w.AB t).length=true from by simp[CC];omega,Aa ah,Bm s,AAG];have f:ix (JH w.AB t) (k-c)=b:=(by unfold ix;rw[hb];rfl);rw[f,<- u];unfold fF;grind);rw[Aa ah,Et hi];rfl
theorem kJ(d:w.AB.length<=16)(l:i6)(t:Int)(hn:l.length<4611686018427387904)(c:∀k∈l,1<=k/\k<1000000)(b:gt w.dg.dh t=some (ix w.dg.dh t))(a:0<=ix w.dg.dh t/\ix w.dg.dh t<=400):Fq w t l=some (l.all (JX (ix w.dg.dh t) (JH w.AB t))):=by have:=X1 d l t hn c b a BQ 0 ah bh;rw[AAn]at this;exact this
theorem jM(h:u<o+B.length):JX o (B++F) u=JX o B u:=by unfold JX Ka;by_cases g:u<o;simp[g];have d:CC (u-o) (B++F).length:=br;have e:CC (u-o) B.length:=br;rw[d,e];unfold ix;grind
theorem kK(h:Nd w)(l:w.AB.length<=16)(o:∀e∈w.AB,KW e)(g:∀u,CC u w.dc.AA.length->0<=ix w.dg.dh u/\ix w.dg.dh u<=400):∀(n i:Nat)(s:AD),i<=w.AB.length->w.AB.length<n+i->RB (4+i) s.df->CI w.dg.dh w.dc.AA.length (w.AB.take i) s->CQ.Bs w n s (i:Int)=some (XB w.dc w.dg.dh (w.AB.take i) s (w.AB.drop i))|0,i,s,h1,h2,_,_=>ah|n+1,i,s,h1,h2,h3,h6=>by rw[CQ.Bs];unfold CQ.L2 CQ.J4;by_cases hi:i<w.AB.length;(have j:=o _ (AAS hi);rw[A6 ah,Bm hi,AAG,RQ w.dc h.s s (h3.mono ah) _ j,AAG,D1 hi,XB];unfold QZ;cases hp:FV w.dc s w.AB[i]with|false=>rfl|true=>(rw[AAM rfl,AAL (c:=(!true)=true) ak,AAf];have f:=K9 hp;have a:=g _ f;have v:=h6.2 _ f;have z:=Kb (w.AB.take i) w.AB[i].db;rw[ABd ah]at z;obtain⟨x,y⟩:=Ug hp;have b:gt w.dg.dh w.AB[i].db=some (ix w.dg.dh w.AB[i].db):=Bz (by rw[h.c];exact f);have key:∀D:List Int,(∀k∈D,1<=k/\k<ix s.dh w.AB[i].db)->D.all (JX (ix w.dg.dh w.AB[i].db) (JH w.AB w.AB[i].db))=D.all (JX (ix w.dg.dh w.AB[i].db) (JH (w.AB.take i) w.AB[i].db)):=by intro D q;have p:JH w.AB w.AB[i].db=JH (w.AB.take i) w.AB[i].db++JH (w.AB.drop i) w.AB[i].db:=(by rw[<- rdB_app,ABE]);rw[p,Bool.eq_iff_iff,AAP,AAP];constructor<;>intro r k d<;>have:=r k d<;>have t:=q k d;rwa [jM ah]at this;rwa [jM ah]);rw[kJ l _ _ j.1 (λk d=>aA) b a,AAG,kJ l _ _ j.2 (λk d=>aA) b a,AAG,key _ x,key _ y];unfold bE;cases w.AB[i].Dy.all (JX (ix w.dg.dh w.AB[i].db) (JH (w.AB.take i) w.AB[i].db))with|false=>rfl|true=>cases w.AB[i].DS.all (JX (ix w.dg.dh w.AB[i].db) (JH (w.AB.take i) w.AB[i].db))with|false=>rfl|true=>rw[AAL (c:=(!true)=true) ak,AAL (c:=(!true)=true) ak,AAf,AAf,AX ah];have m:=h6.next (wv:=w.dc) f g an;rw[AAe hi]at m |-;exact kK h l o g n (i+1) _ ah ah ((h3.apply _ _ _ _ _).mono ah) m);rw[Aa ah,Et hi];rfl
theorem yQ{e:Bool}:(r&&(y&&(z&&(C&&(e&&(f&&g))))))=(r&&((y&&z)&&((C&&(e&&f))&&g))):=aA
theorem Valid_eq(f:∀e∈w.AB,KW e)(g:RB 4611686018427387904 w.dg.df):GU w=some (KP w):=by unfold GU KP;rw[TK,AAG];cases hv:C6 w.dc with|false=>rfl|true=>have d:=Dw hv;rw[AAM rfl,AAf];have a:Jj w.dc w.dg=some (JS w.dc w.dg):=NY _ d _;rw[a,AAG];cases hf:JS w.dc w.dg with|false=>rfl|true=>rw[AAM rfl,AAf];by_cases b:w.AB.length<=16;(have h:Nd w:=WinF.l ⟨hv,hf,b⟩;rw[A6 ah,show decide (w.AB.length<=16)=true from by simp_all,AAf,Zp w (by have:=d.t;have:=h.c;omega) b,AAG];unfold Tc;rw[yQ,s7 h,AAG,sZ h g,AAG,sY h,AAG];cases hc:Lp w with|false=>rfl|true=>rw[AAM rfl,AAf];cases(HG (λi=>PL w i (JR w i)) 0 w.dg.df.AA.length&&HG (λi=>YW w i (JR w i)) 0 w.dg.df.AA.length)with|false=>rfl|true=>rw[AAM rfl,AAf];cases hL:(HG (λi=>Np w i (ix w.dg.df.AK i)) 0 w.dg.df.AK.length&&(txW w&&HG (λi=>Nu w i (JR w i)) 0 w.dg.df.AA.length))with|false=>rfl|true=>rw[AAH]at hL;rw[AAM rfl,AAf,rN h b f hc (RB_of h hL.1)];cases HG (eZ w) 0 w.dg.AL.length<;>rfl);rw[Aa ah,show decide (w.AB.length<=16)=false from by simp_all];rfl
theorem rValid_eq(d:∀e∈w.AB,KW e)(g:RB 4611686018427387904 w.dg.df):CQ w=some (KP w):=by unfold CQ KP;rw[LA,AAG];cases hv:C6 w.dc with|false=>rfl|true=>have b:=Dw hv;rw[AAL (c:=(!true)=true) ak,AAf,TW _ b,AAG];cases hf:JS w.dc w.dg with|false=>rfl|true=>rw[AAL (c:=(!true)=true) ak,AAf];by_cases a:w.AB.length<=16;(have h:Nd w:=WinF.l ⟨hv,hf,a⟩;rw[Aa ah,show decide (w.AB.length<=16)=true from by simp_all,AAf,yC w (by have:=b.t;have:=h.c;omega) a,AAG,nC h,AAG];unfold Tc;cases hc:Lp w with|false=>rfl|true=>rw[AAL (c:=(!true)=true) ak,AAf];cases hs:HG (λi=>PL w i (JR w i)) 0 w.dg.df.AA.length with|false=>rfl|true=>rw[AAL (c:=(!true)=true) ak,AAf,sA h g hs,AAG];unfold CQ.J1;rw[r9 h];cases hL:HG (λi=>Np w i (ix w.dg.df.AK i)) 0 w.dg.df.AK.length with|false=>simp_all|true=>have f:CQ.J3 w=some (XB w.dc w.dg.dh [] w.dg w.AB):=(by have:=kK h a d (wJ h hc) BQ 0 w.dg ah bh (RB_of h hL) ⟨h.c,λu _=>by simp[JH]⟩;rw[List.take_zero,AAn]at this;exact this);rw[f];cases HG (λi=>YW w i (JR w i)) 0 w.dg.df.AA.length<;>cases txW w<;>cases HG (λi=>Nu w i (JR w i)) 0 w.dg.df.AA.length<;>cases HG (eZ w) 0 w.dg.AL.length<;>rfl);rw[A6 ah,show decide (w.AB.length<=16)=false from by simp_all];rfl
end
theorem checkL_in(wv:AG)(l:js):∀pre s,F8 wv pre s l=(0,0)\/(F8 wv pre s l).2=12/\(pre.length:Int)<=(F8 wv pre s l).1:=by induction l with|nil=>exactλ_ _=>.inl rfl|cons x r ih=>intro pre s;unfold F8;split;refine(ih (pre++[x]) _).imp id λh=>⟨h.1,?_⟩;have:=h.2;simp at this |-;omega;exact .inr ⟨rfl,ak⟩
structure AT (t:Ck):Prop where
 w:C6 t.dc=true
 l:t.AB.length<=400
 c:F8 t.dc [] (IG t.dc) t.AB=(0,0)
 e:∀e∈t.AB,KW e
theorem AT.of(a:∀e∈t.AB,KW e)(h:(KC t).2=0):AT t:=by unfold KC at h;split at h;cases h;split at h;(rename_i c b;rcases checkL_in t.dc t.AB [] (IG t.dc)with hc|⟨hc,_⟩);exact⟨b,ah,hc,a⟩;rw[hc]at h;cases h;cases h
theorem AT.check(h:AT t):KC t=(0,0):=by unfold KC;rw[AAL (by have:=h.l;omega),AAM h.w,h.c]
theorem AT.poss(h:AT t)(hi:k<t.AB.length):FV t.dc (I2 t k) t.AB[k]:=by obtain⟨_,b⟩:=vG h.w h.l h.c k ah;rw[AA8 hi,F8]at b;split at b;rename_i a;rw[AAH]at a;exact a.1;exact absurd (congrArg Prod.snd b) (λh:(12:Int)=0=>by cases h)
theorem AT.rb:∀i,i<=t.AB.length->RB i (I2 t i).df|0,_=>RB.start _|i+1,hi=>by rw[Qx ah];exact(AT.rb i ah).apply _ _ _ _ _
theorem AT.step{t:Ck}(h:AT t){i:Nat}(hi:i<t.AB.length):QZ t.dc (I2 t i) t.AB[i]=(I2 t (i+1),true):=by unfold QZ;rw[AAM (h.poss hi),Qx hi]
theorem AT.vstep(h:AT t)(hi:k<t.AB.length):CN t.dc (I2 t k) t.AB[k]=some (I2 t (k+1),true):=by rw[Y4 _ (Dw h.w) _ ((AT.rb k ah).mono (by have:=h.l;omega)) _ (h.e _ (AAS hi)),h.step hi]
theorem AT.rstep(h:AT t)(hi:k<t.AB.length):CH t.dc (I2 t k) t.AB[k]=some (I2 t (k+1),true):=by rw[RQ _ (Dw h.w) _ ((AT.rb k ah).mono (by have:=h.l;omega)) _ (h.e _ (AAS hi)),h.step hi]
theorem ZV(h:AT t)(a:k<=t.AB.length):∀(n i:Nat),i<=k->k<n+i->G5.AR (k:Int) t n (I2 t i) (i:Int)=some (I2 t k)|0,i,h1,h2=>ah|n+1,i,h1,h2=>by have c:=h.l;rw[G5.AR];unfold G5.L1;by_cases hi:i<k;rw[A6 ah,Bm ah,AAG,h.rstep ah,AAG,AX ah];exact ZV h a n (i+1) ah ah;have:i=k:=ah;subst this;rw[Aa ah];rfl
theorem after_eq(h:AT t)(a:k<=t.AB.length):G5 t (k:Int)=some (I2 t k):=by unfold G5;rw[LG _ (Dw h.w),AAG];exact ZV h a BQ 0 ah (by have:=BK;have:=h.l;omega)
def Ev400(e:AH):Prop:=e.Dy.length<=1000/\e.DS.length<=1000
theorem rI:∀(D:i6)(a:Int),a<o->Gk o a D->(D.length:Int)+a+1<=o:=by intro D;induction D with|nil=>intro a h _;simp;omega|cons x r ih=>intro a h hn;unfold Gk at hn;simp only[AAH,AAa]at hn;have:=ih x hn.2.1 hn.2.2;simp only[ABL];omega
theorem AT.ev(h:AT t)(m:x∈t.AB):Ev400 x:=by
 obtain⟨i,hi,rfl⟩:=ABM m;obtain⟨a,_⟩:=vG h.w h.l h.c i ah;have b:=h.poss hi;have k:=a.c _ (K9 b);have n:=Kb (t.AB.take i) t.AB[i].db;have o:=h.l;rw[ABd ah]at n;unfold FV Ei at b;simp only[AAH]at b;obtain⟨_,_,_,_,⟨⟨_,d⟩,_,f⟩,_⟩:=b;rw[k]at d f;have key:∀D:List Int,Gk ((JH (t.AB.take i) t.AB[i].db).length:Int) 0 D->D.length<=1000:=by intro D g;cases D with|nil=>simp|cons e r=>(have j:0<((JH (t.AB.take i) t.AB[i].db).length:Int):=by have:=mN _ _ g e ak;omega);have:=rI _ _ j g;omega
 exact⟨key _ d,key _ f⟩
def oA(k i:Nat):Nat:=(i+k-1)/k
theorem winN_in(a:0<k)(q r:Nat)(b:0<r)(c:r<=k):oA k (q*k+r)=q+1:=by unfold oA;rw[show q*k+r+k-1=k*q+(r-1+k)from by rw[ABN];omega,Nat.mul_add_div a,Nat.add_div_right _ a,Nat.div_eq_of_lt ah]
theorem winN_le(a:0<k)(i:Nat):oA k i<=i+k:=by unfold oA;exact ABB (Nat.div_le_self _ _) ah
def QE(t:Ck)(k i:Nat):List AE:=(List.range (oA k i)).map λj=>winS t k (j*k)
theorem gJ(t:Ck)(k i:Nat):(QE t k i).length=oA k i:=by simp[QE]
def yA(n:Nat):List.range (n+1)=List.range n++[n]:=List.range_succ
theorem slice_eq(hi:n<=pre.length):(pre.drop n).take (((if(pre.length:Int)<(n:Int)+(k:Int)then(pre.length:Int)else(n:Int)+(k:Int)).toNat)-n)=(pre.drop n).take k:=by split;rw[AAo ak,AAo an];rw[show((n:Int)+(k:Int)).toNat-n=k from by omega]
def nN(t:Ck)(size:Int):List AE×Int:=if(KC t).2≠0 then([],12)else if size<1\/size>16 then([],1)else(QE t size.toNat t.AB.length,0)
theorem X3(h:AT t)(a:0<k)(f:k<=16):∀(n j:Nat),j*k<t.AB.length+k->t.AB.length+k<n+j*k->Fp.AR (k:Int) t n ((List.range j).map λj=>winS t k (j*k)) ((j*k:Nat):Int)=some (QE t k t.AB.length,0)
 |0,j,h1,h2=>ah
 |n+1,j,h1,h2=>by
  have o:=h.l;rw[Fp.AR];unfold Fp.L1;have m:j<=j*k:=Nat.le_mul_of_pos_right j a;have b:(j+1)*k=j*k+k:=ABh j k;have c:t.AB.length<=j*k->oA k t.AB.length=j:=by intro hi;cases j with|zero=>have g:t.AB.length=0:=ah;rw[g];unfold oA;exact Nat.div_eq_of_lt ah|succ j=>have p:(j+1)*k=j*k+k:=ABh j k;have:=winN_in a j (t.AB.length-j*k) ah ah;rw[show j*k+(t.AB.length-j*k)=t.AB.length from by omega]at this;exact this
  generalize d:j*k=i at*;by_cases hi:i<t.AB.length;rw[A6 ah,after_eq h ah,AAG,CD (n:=(i:Int)+(k:Int)) ah ah,AAi,slice_eq ah,AAM (by split<;>omega),Bb an];have e:((List.range j).map λj=>winS t k (j*k))++[AE.mk t.dc (i:Int) (I2 t i) ((t.AB.drop i).take k)]=(List.range (j+1)).map λj=>winS t k (j*k):=(by rw[yA,AAu,List.map_singleton,d];rfl);rw[e];have:=X3 h a f n (j+1) ah ah;rw[b]at this;exact this;rw[Aa ah];unfold Fp.J2 QE;rw[c ah]
theorem rSplit_eq(t:Ck)(d:∀e∈t.AB,KW e)(n:Int):Fp t n=some (nN t n):=by unfold Fp nN;rw[rCheck_eq t d,AAG];by_cases a:(KC t).2=0;have h:=AT.of d a;rw[AAL (c:=((KC t).2 != 0)=true) (by simp[a]),AAL (c:=(KC t).2≠0) (by simp[a])];unfold Fp.J1;by_cases b:n<1;rw[A6 b,AAM rfl,AAM (.inl b)];rw[Aa b];by_cases g2:n>16;rw[AAM (by simpa using g2),AAM (.inr g2)];rw[AAL (by simpa using g2),AAL ah];have:=X3 h (k:=n.toNat) ah ah BQ 0 ah (by have:=BK;have:=h.l;omega);rw[show((n.toNat:Nat):Int)=n from by omega,Nat.zero_mul]at this;exact this;rw[AAM (c:=((KC t).2 != 0)=true) (by simp[a]),AAM (c:=(KC t).2≠0) a]
def cN:ABj:=⟨#[99]⟩
def noE:Ba:=⟨0,0,⟨#[]⟩,[]⟩
def tY(T:lp)(o:Int)(s a:ABj)(i:List Ba):Prop:=(o=1->i=[]->s∈vN)/\(o=4->s=⟨#[109]⟩\/s=⟨#[110]⟩)/\(o=5\/o=6->s=⟨#[114]⟩)/\(o=12\/o=13->T s)/\(o=14->s=⟨#[102]⟩)/\(o=15->s=⟨#[97]⟩/\a=⟨#[102]⟩)
def cn{p:Prop}(h:p:=by simp[tY]):p:=h
def bdF(o:Int)(b e:kf):Prop:=(o∉[(2:Int),3,4,5,6,7,8]->b=[])/\(o≠2->e=[])
def JJ(T:lp):Nat->AU->Prop|0,_=>False|n+1,s=>(1<=s.Op/\s.Op<=15)/\(s.d8=[]\/s.Op=1/\s.dv=qS/\∃a,s.d8=[a]/\VZ 2 a)/\(VZ 2 s.dX\/s.Op∉[(1:Int),2,3,14]/\s.dX=noE)/\(s.Op∈[(9:Int),10,11]->s.dv=cN)/\s.dz.length<=4/\s.ed.length<=4/\(∀x∈s.dz,JJ T n x)/\(∀x∈s.ed,JJ T n x)/\bdF s.Op s.dz s.ed/\tY T s.Op s.dv s.eT s.d8
structure MK (H:Nat) (m:AP):Prop where
 t:Dn m.t
 h:m.eb.length<=H/\H<=500
structure Jt (m m':AP):Prop where
 t:Dn m'.t
 h:m'.eb=m.eb
variable{m D:AP}
theorem X4.keep(h:X4 m D):Jt m D:=⟨h.1,by rw[h.2]⟩
theorem Jt.mk'(b:MK k m)(h:Jt m D):MK k D:=⟨h.t,by rw[h.h];exact b.h⟩
variable{E:AP}
def Jt.trans(h:Jt m D)(g:Jt D E):Jt m E:=⟨g.t,g.h.trans h.h⟩
def okL(T:lp)(k:Nat)(l:kf):Prop:=l.length<=2/\∀x∈l,JJ T k x
variable{T:lp}
theorem Mx{s:ABj}{e:Ba}(h:VZ 2 e)(a:s∈vN)(k:Nat):JJ T (k+1) ⟨1,0,s,⟨#[]⟩,[],e,[],[]⟩:=⟨⟨ak,ak⟩,.inl rfl,.inl h,ak,ak,ak,ak,ak,⟨λ_=>rfl,λ_=>rfl⟩,λ_ _=>a,ak,ak,ak,ak,ak⟩
theorem RO{s a:ABj}(h:1<=o/\o<=15)(b:o∉[(1:Int),2,3,14])(c:o∈[(9:Int),10,11]->s=cN)(d:tY T o s a []):JJ T (k+1) ⟨o,u,s,a,[],noE,[],[]⟩:=⟨h,.inl rfl,.inr ⟨b,rfl⟩,c,ak,ak,ak,ak,⟨λ_=>rfl,λ_=>rfl⟩,d⟩
theorem Sb{s a:ABj}(i:o∈[(2:Int),3,4,5,6,7,8])(h:1<=o/\o<=15)(d:o∉[(1:Int),2,3,14])(e:o∉[(9:Int),10,11])(f:tY T o s a []){b:kf}(g:b.length<=4)(c:∀x∈b,JJ T k x):JJ T (k+1) ⟨o,u,s,a,[],noE,b,[]⟩:=⟨h,.inl rfl,.inr ⟨d,rfl⟩,λh=>absurd h e,g,ak,c,ak,⟨λh=>absurd i h,λ_=>rfl⟩,f⟩
variable{v:j9}
section
variable{T:lp}{R158:AP->ABj->Int->ABi (List AU×AP)}{R86:AP->Int->Int->ABi (List AU×AP)}{depth:Int}{nested:Bool}{k H:Nat}
structure Qv (T:ABj->Prop) (R158:AP->ABj->Int->ABi (List AU×AP)) (R86:AP->Int->Int->ABi (List AU×AP)) (depth:Int) (k H:Nat):Prop where
 d:0<=depth/\depth<100
 b:0<depth->∀m s,MK H m->Bp (R158 m s (depth-1)) λr=>okL T (k+1) r.1/\Jt m r.2
 s:0<depth->∀m d n,MK H m->(d=0\/d=depth-1)->(n=1\/n=2)->Bp (R86 m d n) λr=>okL T (k+1) r.1/\Jt m r.2
abbrev Good(T:lp)(k:Nat)(m:AP)(r:AU×AP):Prop:=JJ T (k+2) r.1/\Jt m r.2
theorem lE{m:AP}(a:MK H m)(b:Bool):Bp (BD.gN m b) (Good T k m):=by unfold BD.gN Fl;refine tI (λ_=>tR ⟨RO bg bg bg cn,a.t,rfl⟩) λ_=>?_;refine tB (La (.inr rfl) a.t) ?_;rintro e ⟨c,d⟩;exact tR ⟨Mx c (aU bg) _,d.keep⟩
theorem Y3{m:AP}(a:MK H m)(v:j9)(b:Bool):Bp (BD.Qu m v b) (Good T k m):=by unfold BD.Qu;refine tI (λ_=>?_) λ_=>tI (λ_=>tI (λ_=>?_) λ_=>lE a _) λ_=>lE a _;refine tB (La (.inr rfl) a.t) ?_;rintro e ⟨d,c⟩;exact tR ⟨⟨⟨ak,ak⟩,.inl rfl,.inl d,ak,ak,ak,ak,ak,⟨λ_=>rfl,λ_=>rfl⟩,cn⟩,c.1,by rw[c.2]⟩;refine tB (Ho a.t ah) ?_;rintro e ⟨_,c⟩;exact tM (lE (k:=k) (m:={m with t:=e.2}) ⟨c,a.h⟩ _) λr h=>⟨h.1,h.2.t,h.2.h⟩
theorem lD{m:AP}(a:MK H m)(v:j9)(b:Bool):Bp (BD.OS v m b) (Good T k m):=by unfold BD.OS;refine tI (λ_=>?_) λ_=>tI (λ_=>tI (λ_=>tI (λ_=>Y3 a _ _) λ_=>Y3 a _ _) λ_=>Y3 a _ _) λ_=>Y3 a _ _;refine tB (Ho a.t ah) ?_;rintro e ⟨f,d⟩;refine tR ⟨Sb bg bg bg bg cn ak ?_,d,rfl⟩;intro x c;simp only[AAc]at c;subst c;rw[CD ah ah];refine RO ah ?_ (λ_=>rfl) ⟨ah,ah,ah,ah,ah,ah⟩;simp;omega
theorem lH{m:AP}(a:MK H m)(v:j9)(b:Bool):Bp (BD.J9 nested v m b) (Good T k m):=by unfold BD.J9 Jn Fl;refine tI (λ_=>?_) λ_=>tI (λ_=>tI (λ_=>?_) λ_=>lD a _ _) λ_=>lD a _ _;(simp only[AAG];refine tR ⟨Sb bg bg bg bg cn ak ?_,a.t,rfl⟩;intro x c;simp only[AAg,ABV,AA6]at c;rcases c with rfl|rfl);exact RO bg bg (λ_=>rfl) cn;exact Mx (.inr (.inl ⟨rfl,rfl,aU bg⟩)) (aU bg) _;refine tB (SW (by have:=a.h;omega) _) ?_;rintro e rfl;exact lD a _ _
theorem uO(b:Qv T R158 R86 depth k H)(hn:nested=true->0<depth){m:AP}(a:MK H m)(v:j9)(i:g=true->0<depth):Bp (BD.J8 R86 depth m nested v g) (Good T k m):=by have hd:=b.d;unfold BD.J8;refine tI (λh=>?_) λ_=>tI (λ_=>tI (λ_=>tI (λ_=>?_) λ_=>lH a _ _) λ_=>lH a _ _) λ_=>lH a _ _;refine tB (b.s (i h) _ _ _ ⟨a.t,a.h⟩ (.inr (CD ah ah)) (.inr rfl)) ?_;rintro e ⟨c,f⟩;exact tR ⟨Sb bg bg bg bg cn (by have:=c.1;omega) c.2,f.t,f.h⟩;refine tB (SW (by have:=a.h;omega) _) ?_;rintro e rfl;exact lH a _ _
theorem J7_tot(d:Qv T R158 R86 depth k H)(hn:nested=true->0<depth){m:AP}(a:MK H m)(v:j9)(i:g=true->0<depth):Bp (BD.J7 R86 depth m nested v g) (Good T k m):=by unfold BD.J7;refine tI (λh=>?_) λ_=>tI (λ_=>tI (λh=>uO d hn a _ λ_=>hn h) λ_=>uO d hn a _ ak) λ_=>uO d hn a _ ak;refine tB (Ho a.t ah) ?_;rintro b ⟨j,c⟩;refine tB (d.s (i h) {m with t:=b.2,tx:=true} _ _ ⟨c,a.h⟩ (.inl rfl) (by rw[CD (by omega) (by omega)];omega)) ?_;rintro e ⟨c,f⟩;exact tR ⟨Sb bg bg bg bg cn (by have:=c.1;omega) c.2,f.t,f.h⟩
theorem lG(c:Qv T R158 R86 depth k H)(hn:nested=true->0<depth){m:AP}(f:MK H m)(v:j9)(j:g=true->0<depth/\(v.1=10\/v.1=11)):Bp (BD.J6 R158 R86 depth nested v m g) (Good T k m):=by have hd:=c.d;unfold BD.J6;refine tI (λh=>?_) λ_=>tI (λ_=>J7_tot c hn f _ hn) λ_=>J7_tot c hn f _ ak;obtain⟨i,a⟩:=j h;rw[CD (n:=depth-1) ah ah];refine tB (c.b i m _ f) ?_;rintro e ⟨b,g2⟩;refine tR ⟨?_,g2⟩;rcases a with a|a<;>rw[a]<;>exact Sb bg bg bg bg (by first| (rw[show A8 (A8 ((10:Int)-10)+5)=5 from rfl];simp[tY])| (rw[show A8 (A8 ((11:Int)-10)+5)=6 from rfl];simp[tY])) (by have:=b.1;omega) b.2
theorem lF(f:Qv T R158 R86 depth k H)(hn:nested=true->0<depth){m:AP}(a:MK H m)(v:j9)(s:g=true->0<depth/\(v.1=8\/v.1=9)):Bp (BD.J5 R158 R86 depth nested v m g) (Good T k m):=by
 have hd:=f.d;have t:=a.h;have o:∀{c:Bool}{i:Int},(v.1==i)->(i=10\/i=11)->nested=true->c=true->0<depth/\(v.1=10\/v.1=11):=λp q r _=>⟨hn r,am⟩;unfold BD.J5;refine tI (λh=>?_) λ_=>tI (λb=>tI (λj=>?_) λ_=>lG f hn a _ ak) λ_=>tI (λb=>tI (λj=>?_) λ_=>lG f hn a _ ak) λ_=>lG f hn a _ ak;obtain⟨p,q⟩:=s h;rw[CD (n:=depth-1) ah ah,CD ah ah];refine tG an λx u=>tB (f.b p m _ a) ?_;rintro e ⟨l,g2⟩;exact tR ⟨Sb bg bg bg bg ⟨ak,λ_=>am,ak,ak,ak,ak⟩ (by have:=l.1;omega) l.2,g2⟩;all_goals
  refine tB (SW ah _) ?_;rintro e rfl;exact lG f hn a _ (o b ah j)
theorem J4_tot(a:Qv T R158 R86 depth k H)(hn:nested=true->0<depth){m:AP}(l:MK H m)(q:Dn v.2)(z:g=true->0<depth):Bp (BD.J4 R158 R86 depth m nested v g) (Good T k m):=by
 have hd:=a.d;have E:=l.h;have o:∀{c:Bool}{i:Int},(v.1==i)->(i=8\/i=9)->nested=true->c=true->0<depth/\(v.1=8\/v.1=9):=λC D u _=>⟨hn u,am⟩;have b:MK H (AP.mk v.2 m.B7 (A8 (m.left-1)) m.Ir m.tx m.ea m.eu m.eb):=⟨q,l.h⟩;have w:∀{r:AU×AP},Good T k (AP.mk v.2 m.B7 (A8 (m.left-1)) m.Ir m.tx m.ea m.eu m.eb) r->Good T k m r:=λh=>⟨h.1,h.2.t,h.2.h⟩;unfold BD.J4;refine tI (λh=>?_) λ_=>tI (λj=>tI (λn=>?_) λ_=>tM (lF a hn b _ ak) λ_=>w) λ_=>tI (λj=>tI (λn=>?_) λ_=>tM (lF a hn b _ ak) λ_=>w) λ_=>tM (lF a hn b _ ak) λ_=>w;unfold Jn K5 JZ Fl;simp only[AAG];refine tB (a.s (z h) _ _ _ ⟨q,l.h⟩ (.inr (CD ah ah)) (.inl rfl)) ?_;rintro e ⟨p,g2⟩;have:=p.1;refine tC (Bq ah) (tR ⟨⟨ak,.inl rfl,.inl ?_,ak,an,ak,?_,ak,⟨λh=>absurd ak h,λ_=>rfl⟩,cn⟩,g2.t,g2.h⟩);exact .inr (.inr (.inr ⟨ak,_,_,rfl,.inr (.inl ⟨rfl,rfl,aU bg⟩),.inl ⟨rfl,rfl⟩⟩));(intro x f;rcases AAX.1 f with f|f);exact p.2 x f;simp only[AAc]at f;subst f;exact Mx (.inr (.inr (.inr ⟨bg,_,_,rfl,.inr (.inl ⟨rfl,rfl,aU bg⟩),.inl ⟨rfl,rfl⟩⟩))) (aU bg) _;all_goals
  have y:=eq_of_beq j;rw[y];refine tG bg λx _=>tB (SW aA _) ?_;rintro e B;rw[B];exact tM (lF a hn b _ (o j ah n)) λ_=>w
theorem J2_tot(a:Qv T R158 R86 depth k H)(hn:nested=true->0<depth){m:AP}(f:MK H m)(b:Dn v.2)(z:g=true->0<depth):Bp (BD.J2 R158 R86 depth m nested v g) (Good T k m):=by have hd:=a.d;unfold BD.J2 BD.J3;refine tI (λh=>?_) λ_=>tI (λ_=>J4_tot a hn f b λh=>aA) λ_=>J4_tot a hn f b ak;have h:=z h;refine tB (La (.inr rfl) (m:=AP.mk v.2 m.B7 (A8 (m.left-1)) m.Ir m.tx m.ea m.eu m.eb) b) ?_;rintro e ⟨o,y⟩;have p:=y.keep;have u:MK H (AP.mk v.2 m.B7 (A8 (m.left-1)) m.Ir m.tx m.ea m.eu m.eb):=⟨b,f.h⟩;rw[CD (n:=depth-1) ah ah];refine tB (a.s h _ _ _ (Jt.mk' u p) (.inr rfl) (.inl rfl)) ?_;rintro w ⟨⟨w,j⟩,q⟩;refine tB (Ho q.t ah) ?_;rintro c ⟨_,l⟩;have i:=q.h.trans p.h;refine tI (λ_=>?_) λ_=>tR ⟨⟨ak,.inl rfl,.inl o,ak,an,ak,j,ak,⟨λh=>absurd ak h,λ_=>rfl⟩,cn⟩,l,i⟩;refine tB (a.s h _ _ _ ⟨l,by rw[show _=m.eb from i];exact f.h⟩ (.inr rfl) (.inl rfl)) ?_;rintro d ⟨⟨d1,x⟩,r⟩;exact tR ⟨⟨ak,.inl rfl,.inl o,ak,an,an,j,x,⟨λh=>absurd ak h,λh=>absurd rfl h⟩,cn⟩,r.t,r.h.trans i⟩
theorem uN(l:Qv T R158 R86 depth k H)(hn:nested=true->0<depth){m:AP}(f:MK H m)(q:0<=v.1)(d:Dn v.2):Bp (BD.J1 R158 R86 depth m v nested) (Good T k m):=by have j:MK H (AP.mk v.2 m.B7 (A8 (m.left-1)) m.Ir m.tx m.ea m.eu m.eb):=⟨d,f.h⟩;unfold BD.J1 Fl;refine tI (λh=>?_) λ_=>tI (λ_=>?_) λ_=>tI (λ_=>?_) λ_=>tI (λ_=>J2_tot l hn f d λh=>aA) λ_=>J2_tot l hn f d ak;have h:=AAQ h;refine tG an λx i=>tB (La (.inr rfl) j.t) ?_;rintro e ⟨b,a⟩;exact tR ⟨Mx b (ZB bg i) _,a.keep.t,a.keep.h⟩;refine tB (Ho d ah) ?_;rintro c ⟨n,o⟩;refine tG n λx i=>tB (La (.inr rfl) o) ?_;rintro e ⟨b,a⟩;exact tR ⟨Mx b (ZB bg i) _,a.keep.t,a.keep.h⟩;refine tB (La (.inl rfl) j.t) ?_;rintro e ⟨b,a⟩;refine tB (La (.inr rfl) a.keep.t) ?_;rintro g ⟨p,g2⟩;exact tR ⟨⟨ak,.inr ⟨rfl,rfl,_,rfl,b⟩,.inl p,ak,ak,ak,ak,ak,⟨λ_=>rfl,λ_=>rfl⟩,cn⟩,g2.keep.t,g2.keep.h.trans a.keep.h⟩
theorem sV(b:Qv T R158 R86 depth k H){m:AP}(a:MK H m):Bp (BD R158 R86 m depth) (Good T k m):=by unfold BD;refine tB (Ho a.t ah) ?_;rintro v ⟨c,d⟩;exact tI (λh=>tI (λ_=>uN b (λ_=>aA) a c.1 d) λ_=>uN b ak a c.1 d) λ_=>uN b ak a c.1 d
end
section
variable{T:lp}
theorem kT{R:lB}(s:∀m,MK n m->Bp (R m o) λr=>JJ T k r.1/\Jt m r.2)(a:MK n m)(hn:0<=u/\u<=3):Bp (Cz R m o u) λr=>((r.1.length:Int)<=u/\∀x∈r.1,JJ T k x)/\Jt m r.2:=by
 have j:=BK;have key:∀H (i:Nat) (d:AP) (l:kf),10<H+i->(i:Int)<=u->l.length<=i->(∀x∈l,JJ T k x)->Jt m d->Bp (Cz.AR R o u H d l i) λr=>((r.1.length:Int)<=u/\∀x∈r.1,JJ T k x)/\Jt m r.2:=by intro H;induction H with|zero=>omega|succ H ih=>(intro i d l v w y q f;have J:∀b,(b=true->(i:Int)<u)->Bp (Cz.J1 (Cz.AR R o u H) R o i l d b) λr=>((r.1.length:Int)<=u/\∀x∈r.1,JJ T k x)/\Jt m r.2:=by(intro b j;unfold Cz.J1 Cz.J2;refine tI (λh=>?_) λ_=>tR ⟨⟨aA,q⟩,f⟩;have h:=j h;refine tB (s _ (Jt.mk' a f)) ?_;rintro e ⟨c,p⟩;refine tC (Bq ah) ?_;rw[AX ah];refine ih (i+1) _ _ ah ah an ?_ (f.trans p);intro x g;rcases AAX.1 g with g|g);grind;simp_all);unfold Cz.AR Cz.L1;grind
 exact key BQ 0 m [] ah ah ak ak ⟨a.t,rfl⟩
theorem okS_mono:∀{s:AU},JJ T n s->JJ T (n+1) s:=by induction n with|zero=>exactλh=>h.elim|succ n ih=>exactλ⟨h1,h2,h3,h4,h5,h6,h7,h8,h9⟩=>⟨h1,h2,h3,h4,h5,h6,λx a=>ih (h7 x a),λx a=>ih (h8 x a),h9⟩
theorem okS_le(h:k<=n){s:AU}(c:JJ T k s):JJ T n s:=by induction h with|refl=>exact c|step _ ih=>exact okS_mono ih
theorem block_tot{R86:AP->Int->Int->ABi (List AU×AP)}(b:MK n m)(i:n<500)(s:ABj)(h:∀m H,MK (n+1) m->(H=1\/H=2)->Bp (R86 m o H) λr=>okL T k r.1/\Jt m r.2):Bp (Io R86 m s o) λr=>okL T k r.1/\Jt m r.2:=by have j:=b.h;unfold Io;refine tC (Bq ah) (tB (Ho b.t ah) ?_);rintro v ⟨l,g⟩;refine tB (h (AP.mk v.2 m.B7 m.left m.Ir m.tx m.ea m.eu (m.eb++[s])) _ ⟨g,an⟩ (by rw[CD (by omega) (by omega)];omega)) ?_;rintro e ⟨c,a⟩;have f:e.2.eb=m.eb++[s]:=a.h;simp only[f,AAx,ABL,ABS];rw[CD ah ah];refine tC ah (tR ⟨c,a.t,?_⟩);simp_all
theorem jW{H:Nat}(c:H<500)(d:3<=n):(∀m,MK H m->Bp (Gn n m (0:Nat)) (Good T 0 m))/\∀m a,MK H m->0<=a/\a<=3->Bp (Ec (n+1) m (0:Nat) a) λr=>((r.1.length:Int)<=a/\∀x∈r.1,JJ T 2 x)/\Jt m r.2:=by
 have key:∀m,MK H m->Bp (Gn n m (0:Nat)) (Good T 0 m):=by intro m b;obtain⟨n,rfl⟩:∃k,n=k+1:=⟨n-1,ah⟩;exact sV (R158:=K4 n) (R86:=Ec n) (H:=H) ⟨ah,λh=>by simp at h,λh=>by simp at h⟩ b
 exact⟨key,λm a b hn=>kT (R:=Gn n) key b hn⟩
theorem made_tot(d:Nat):∀(H n:Nat),d<50->H+d<500->3*d+3<=n->(∀m,MK H m->Bp (Gn n m d) (Good T d m))/\∀m a,MK H m->0<=a/\a<=3->Bp (Ec (n+1) m d a) λr=>((r.1.length:Int)<=a/\∀x∈r.1,JJ T (d+2) x)/\Jt m r.2:=by
 induction d with
 |zero=>exactλH n _ g i=>jW ah ah
 |succ d ih=>
  intro H n o g i;have sub:∀(f c:Nat)(m:AP)(e a:Int),f<=H+1->3*d+4<=c->MK f m->(e=0\/e=((d+1:Nat):Int)-1)->(a=1\/a=2)->Bp (Ec c m e a) λr=>okL T (d+2) r.1/\Jt m r.2:=by(intro f c m e a l g2 b hd hn;obtain⟨c,rfl⟩:∃k,c=k+1:=⟨c-1,ah⟩;rcases hd with rfl|rfl);exact tM ((jW (n:=c) ah ah).2 m a b ah) λr h=>⟨⟨ah,λx j=>okS_le ah (h.1.2 x j)⟩,h.2⟩;rw[show((d+1:Nat):Int)-1=(d:Int)from by omega];exact tM ((ih f c ah ah ah).2 m a b ah) λr h=>⟨⟨ah,h.1.2⟩,h.2⟩
  have key:∀m,MK H m->Bp (Gn n m (d+1:Nat)) (Good T (d+1) m):=by intro m b;obtain⟨n,rfl⟩:∃k,n=k+2:=⟨n-2,ah⟩;refine sV (R158:=K4 (n+1)) (R86:=Ec (n+1)) (H:=H) (k:=d+1) ⟨ah,λ_ m s b=>?_,λ_ m e a b hd hn=>?_⟩ b;exact block_tot (R86:=Ec n) b ah s λm a b hn=>sub (H+1) n m _ a ah ah b (.inr rfl) hn;grind
  exact⟨key,λm a b hn=>kT (R:=Gn n) key b hn⟩
end
section
variable{T:lp}
abbrev TT{d:Type}(o:ABi d):Prop:=Bp o λ_=>True
theorem tD{p:Prop}[Decidable p]{a c:ABi b}{R:b->Prop}(d:p->Bp a R)(e:¬p->Bp c R):Bp (if decide p=true then a else c) R:=aA
def Ji{o:ABi a}{f:a->ABi b}{R:b->Prop}(h:TT o)(k:∀x,Bp (f x) R):Bp (o.bind f) R:=tB h λx _=>k x
theorem tE{o:ABi a}{y:a}{f:a->ABi b}{R:b->Prop}(h:o=some y)(k:Bp (f y) R):Bp (o.bind f) R:=am
theorem kV{l:List a}{i:Nat}{f:a->ABi b}{R:b->Prop}(h:i<l.length)(k:Bp (f l[i]) R):Bp ((gt l (i:Int)).bind f) R:=by rw[Bm h];exact k
theorem tL{Q:a->Prop}(N:Nat){F:Nat->Int->ABi a}(e:N<1000000000000)(h:∀n (i:Nat),i<=N->(i<N->Bp (F n (A8 (i+1))) Q)->Bp (F (n+1) i) Q):Bp (F BQ 0) Q:=by
 have f:=BK;have key:∀n (i:Nat),N<n+i->i<=N->Bp (F n i) Q:=by intro n;induction n with|zero=>omega|succ n ih=>intro i c b;refine h n i b λd=>?_;rw[AX ah];grind
 exact key BQ 0 ah ah
theorem tLk{Q:b->Prop}(N j:Nat)(I:Nat->a->Prop){F:Nat->a->Int->ABi b}(l:N<1000000000000)(o:j<=N){s0:a}(e:I j s0)(h:∀n (i:Nat) s,i<=N->I i s->(∀G,i<N->I (i+1) G->Bp (F n G (A8 (i+1))) Q)->Bp (F (n+1) s i) Q):Bp (F BQ s0 j) Q:=by
 have m:=BK;have key:∀n (i:Nat) s,N<n+i->i<=N->I i s->Bp (F n s i) Q:=by intro n;induction n with|zero=>omega|succ n ih=>intro i s f c d;refine h n i s c d λG g k=>?_;rw[AX ah];grind
 grind
theorem Ru{Q:b->Prop}(N:Nat)(I:Nat->a->Prop){F:Nat->a->Int->ABi b}(d:N<1000000000000){s0:a}(c:I 0 s0)(h:∀n (i:Nat) s,i<=N->I i s->(∀e,i<N->I (i+1) e->Bp (F n e (A8 (i+1))) Q)->Bp (F (n+1) s i) Q):Bp (F BQ s0 0) Q:=tLk N 0 I d ah c h
def NN(s:ABj):TT (CZ s):=⟨_,QO s,trivial⟩
def dE:Nat->Ba->Prop|0,_=>False|n+1,e=>e.L.length<=2/\∀x∈e.L,dE n x
theorem VZ.d:∀{e:Ba},VZ n e->dE n e:=by
 induction n with
 |zero=>exactλh=>h.elim
 |succ n ih=>
  intro e h;rcases h with⟨_,h⟩|⟨_,h,_⟩|⟨_,_,a,h,c⟩|⟨_,a,b,h,c,f⟩<;>refine⟨by simp[h],?_⟩<;>rw[h]<;>simp
  all_goals simp_all
theorem JJ.e{s:AU}(h:JJ T n s):dE 2 s.dX:=by
 cases n with
 |zero=>exact h.elim
 |succ n=>
  rcases h.2.2.1 with h|⟨_,h⟩
  exact h.d;rw[h];exact⟨by simp[noE],by simp[noE]⟩
theorem JJ.i{s:AU}(h:JJ T n s):s.d8=[]\/∃a,s.d8=[a]/\dE 2 a:=by cases n with|zero=>exact h.elim|succ n=>exact h.2.1.imp id λ⟨_,_,a,h,k⟩=>⟨a,h,k.d⟩
theorem dF(d:FF):TT (DK d):=by
 have a:∀b,TT (DK.J2 d b):=by intro b;unfold DK.J2 DK.J3;repeat' first|exact tR trivial|refine tI (λ_=>?_) λ_=>?_
 have j1:∀b,TT (DK.J1 d b):=by intro b;unfold DK.J1;repeat' first|exact tR trivial|exact a _|refine Ji (NN _) λ_=>?_|refine tI (λ_=>?_) λ_=>?_
 unfold DK;repeat' first|exact j1 _|refine Ji (NN _) λ_=>?_|refine tI (λ_=>?_) λ_=>?_
theorem lI(o:Int):TT (Ek o):=by unfold Ek Ek.J1 Ek.J2 Ek.J3;repeat' first|exact tR trivial|refine tI (λ_=>?_) λ_=>?_
theorem ZQ(d:Nat):∀(n:Nat)(e:Ba),d<=n->dE d e->TT (Dk n e):=by
 induction d with
 |zero=>exactλn e _ h=>h.elim
 |succ d ih=>
  intro n e hn ⟨h1,h2⟩;obtain⟨n,rfl⟩:∃k,n=k+1:=⟨n-1,ah⟩;show TT (C1 (Dk n) e);have c:∀b,TT (C1.J2 (Dk n) e b):=by intro b;unfold C1.J2;refine tI (λ_=>tR trivial) λ_=>tL e.L.length ah λm i hi k=>?_;unfold C1.AR C1.L1;refine tD (λ_=>tG ah λx a=>Ji (ih n x ah (h2 x a)) λ_=>tI (λ_=>tR trivial) λ_=>k ah) λ_=>tR trivial
  have j1:∀b,TT (C1.J1 (Dk n) e b):=by intro b;unfold C1.J1;refine Ji (lI _) λ_=>?_;repeat' first|exact c _|refine Ji (NN _) λ_=>?_|refine tI (λ_=>?_) λ_=>?_
  unfold C1;grind
theorem Nv(h:n<=1000):n<=BQ:=bh
theorem uT{e:Ba}(h:dE 2 e):TT (Dk BQ e):=ZQ 2 _ e (Nv ah) h
theorem ZR{s:AU}{R:List AU->ABi Bool}(d:JJ T k s)(j:TT (R s.dz))(l:TT (R s.ed)):TT (BL R s):=by
 have r:∀b,TT (BL.J9 R s b):=by intro b;unfold BL.J9 BL.OS;repeat' first|exact tR trivial|refine Ji j λ_=>?_|refine Ji l λ_=>?_|refine tI (λ_=>?_) λ_=>?_
 have q:∀b,TT (BL.J8 R s b):=by intro b;unfold BL.J8;repeat' grind
 have c:∀b,TT (BL.J7 R s b):=by intro b;unfold BL.J7;repeat' first|exact tR trivial|exact q _|refine tI (λ_=>?_) λ_=>?_
 have p:∀b,TT (BL.J6 R s b):=by intro b;unfold BL.J6;refine tI (λ_=>Ji (uT d.e) λ_=>tI (λ_=>c _) λ_=>c _) λ_=>Ji ?_ λ_=>c _;unfold Iz Iz.J1;repeat' first|exact tR trivial|refine tI (λ_=>?_) λ_=>?_
 have f:∀b,TT (BL.J5 R s b):=by intro b;unfold BL.J5;repeat' first|exact tR trivial|exact p _|refine tI (λ_=>?_) λ_=>?_
 have o:∀b,TT (BL.J4 R s b):=by
  intro b;unfold BL.J4;rcases d.i with h|⟨a,h,g⟩<;>rw[h]
  . repeat' first|exact tR trivial|exact f _|refine tI (λ_=>?_) λ_=>?_|grind
  . repeat' first|exact tR trivial|exact f _|refine tI (λ_=>?_) λ_=>?_|refine tE (y:=a) rfl ?_|refine Ji (uT g) λ_=>?_
 have n:∀b,TT (BL.J3 R s b):=by intro b;unfold BL.J3;repeat' first|exact tR trivial|exact o _|refine tI (λ_=>?_) λ_=>?_|refine Ji (NN _) λ_=>?_
 have m:∀b,TT (BL.J2 R s b):=by intro b;unfold BL.J2;repeat' first|exact n _|refine tI (λ_=>?_) λ_=>?_|refine Ji (NN _) λ_=>?_
 have j1:∀b,TT (BL.J1 R s b):=by intro b;unfold BL.J1;repeat' first|exact tR trivial|exact m _|refine tI (λ_=>?_) λ_=>?_
 unfold BL;grind
def Va(T:lp)(k:Nat)(l:kf):Prop:=l.length<=10/\∀x∈l,JJ T k x
theorem JJ.body{s:AU}(h:JJ T (k+1) s):Va T k s.dz:=⟨by have:=h.2.2.2.2.1;omega,h.2.2.2.2.2.2.1⟩
theorem JJ.els{s:AU}(h:JJ T (k+1) s):Va T k s.ed:=⟨by have:=h.2.2.2.2.2.1;omega,h.2.2.2.2.2.2.2.1⟩
theorem YA(d:Nat):∀(n:Nat)(l:kf),2*d+1<=n->Va T d l->TT (Hr n l):=by induction d with|zero=>intro n l hn ⟨_,h⟩;obtain⟨n,rfl⟩:∃k,n=k+1:=⟨n-1,ah⟩;have:l=[]:=AA0.2 λx a=>(h x a).elim;subst this;show TT (DN (LC n) []);exact tR trivial|succ d ih=>intro n l hn ⟨h1,h2⟩;obtain⟨n,rfl⟩:∃k,n=k+2:=⟨n-2,ah⟩;show TT (DN (LC (n+1)) l);unfold DN;refine tL l.length ah λm i hi k=>?_;unfold DN.AR DN.L1 DN.J1;refine tD (λ_=>tG ah λx a=>?_) λ_=>tR trivial;refine Ji (ZR (R:=Hr n) (h2 x a) (ih n _ ah (h2 x a).body) (ih n _ ah (h2 x a).els)) λ_=>tI (λ_=>tR trivial) λ_=>k ah
def Qr:List ABj:=[⟨#[109,97,105,110]⟩,⟨#[116,49]⟩,⟨#[116,50]⟩,⟨#[116,51]⟩]
def fI:List ABj:=[⟨#[97]⟩,⟨#[98]⟩]
structure MP (p:AY):Prop where
 d:FW=some p.ep
 t:p.AA.length<=4
 l:∀t∈p.AA,t.HE.length<=2
 b:∀t∈p.AA,Va (λs=>s∈p.AA.map (·.dv)) 4 t.dz
 nm:∃n,1<=n/\n<=4/\p.AA.map (·.dv)=Qr.take n
 lo:∀t∈p.AA,t.HE=fI
theorem MP.dl{p:AY}(h:MP p):p.ep.length=9:=by have h:=h.d;unfold FW at h;rw[<- AAK h];rfl
theorem ZS{p:AY}(h:MP p):TT (C0 p):=by
 have hd:=h.dl;have e:=h.t;have c:∀{F:ja}{i:Int}(b:Bool),TT (F (A8 (i+1)))->TT (C0.J3 F i b):=by intro F i b k;unfold C0.J3 C0.J4;exact tI (λ_=>tR trivial) λ_=>k
 unfold C0;refine tL 9 ah λm i hi k=>?_;unfold C0.AR C0.L1 C0.J1;refine tD (λ_=>tG ah λx a=>Ji (dF x) λ_=>tI (λ_=>tR trivial) λ_=>k ah) λ_=>tL p.AA.length ah λm i hi k=>?_;unfold C0.Bs C0.L2 C0.J5;refine tD (λ_=>tG ah λx a=>tL x.HE.length (by have:=h.l x a;omega) λm i hi d=>?_) λ_=>tR trivial;unfold C0.E3 C0.L3 C0.J2;refine tD (λ_=>tG ah λx a=>Ji (NN _) λ_=>tI (λ_=>tR trivial) λ_=>d ah) λ_=>Ji (NN _) λ_=>tI (λ_=>c _ (k ah)) λ_=>Ji (YA 4 _ _ (Nv ah) (h.b x a)) λ_=>c _ (k ah)
end
end Go.Abs
