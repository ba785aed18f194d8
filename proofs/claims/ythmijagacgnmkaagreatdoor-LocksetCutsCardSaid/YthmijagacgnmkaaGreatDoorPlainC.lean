/- What the typed programs give, in plain Lean. -/
import Derived.Test.YthmijagacgnmkaaGreatDoorWalkQ
import Derived.Test.YthmijagacgnmkaaGreatDoorPlainB
set_option linter.unusedSimpArgs false
set_option linter.unusedVariables false
namespace Go.Abs
set_option maxHeartbeats 4000000
section
variable{T:AB9->Prop}
structure GS (g:A9) (n:Nat) (r:A9):Prop where
 w:r.w=g.w
 l:r.locals=g.locals
 a:g.out.length<=r.out.length
 b:r.out.length<=g.out.length+n
structure GB (g:A9) (n:Nat):Prop where
 w:MW g.w
 l:g.locals.length<=2
 n:g.out.length+n<=8000000
theorem GS.refl(g:A9)(n:Nat):GS g n g:=⟨rfl,rfl,by omega,by omega⟩
theorem GS.trans{g h r:A9}{m n k:Nat}(a:GS g m h)(b:GS h n r)(c:m+n<=k):GS g k r:=⟨b.w.trans a.w,b.l.trans a.l,by have:=a.a;have:=b.a;omega,by have:=a.b;have:=b.b;omega⟩
theorem GB.next{g h:A9}{m n k:Nat}(a:GB g k)(s:GS g m h)(c:m+n<=k):GB h n:=⟨by rw[s.w];exact a.w,by rw[s.l];exact a.l,by have:=s.b;have:=a.n;omega⟩
theorem GB.less{g:A9}{n k:Nat}(a:GB g k)(b:n<=k):GB g n:=a.next (GS.refl g 0) (by omega)
theorem Qo{g:A9}(h:GB g 1)(i:Ac):B7 (A6 g i) λr=>GS g 1 r/\r.out.length=g.out.length+1:=by have:=h.n;unfold A6;exact tC (Bh (by omega)) (tR ⟨⟨rfl,rfl,by simp,by simp⟩,by simp⟩)
theorem Ij{g:A9}(h:GB g 1)(i:Ac):B7 ((A6 g i).bind λv=>some v) (GS g 1):=tB (Qo h i) λ_ h=>tR h.1
theorem XF{w:AD}(h:MW w)(s:AB9):TT (Bj w s):=by have a:=h.c;unfold Bj;refine tL w.Cells.length (by omega) λn i hi k=> ?_;unfold Bj.AZ Bj.L1 Bj.J1;exact tD (λ_=>tG (by omega) λx _=>tI (λ_=>tR trivial) λ_=>k (by omega)) λ_=>tR trivial
theorem oZ{w:AD}(h:MW w)(s:AB9):TT (Dy w.AE s):=by have a:=h.l;unfold Dy;refine tL w.AE.length (by omega) λn i hi k=> ?_;unfold Dy.AZ Dy.L1 Dy.J1;exact tD (λ_=>tG (by omega) λx _=>tI (λ_=>tR trivial) λ_=>k (by omega)) λ_=>tR trivial
theorem cond_tot{g:A9}(h:MW g.w)(s:AB9):B7 (CQ g s) λr=>r.2=g:=by have a:=h.d;unfold CQ;refine tL g.w.Af.length (by omega) λn i hi k=> ?_;unfold CQ.AZ CQ.L1 CQ.J1;exact tD (λ_=>tG (by omega) λx _=>tI (λ_=>tR rfl) λ_=>k (by omega)) λ_=>tR rfl
theorem gZ{w:AD}(h:MW w){s:AB9}(b:s=qS){a:Type}{f:Int->DL->AB8 a}{Q:a->Prop}(k:∀i c,B7 (f i c) Q):B7 ((Bj w s).bind λi=>(gt w.Cells i).bind (f i)) Q:=by rw[b];exact tB h.q λi hi=>tG hi λc _=>k i c
theorem x8(d:Nat):∀(n:Nat)(g:A9)(e:BB)(r:Int),d<=n->Tp d e->GB g (3^d)->B7 (Cm n g e r) (GS g (3^d)):=by
 induction d with
 |zero=>exactλn g e r _ h=>h.elim
 |succ d ih=>
  intro n g e r hn z f;obtain⟨n,rfl⟩:∃k,n=k+1:=⟨n-1,by omega⟩;have C:3^(d+1)=3*3^d:=by rw[Nat.pow_succ];omega
  have B:0<3^d:=Nat.pow_pos (by omega);show B7 (Gf (Cm n) g e r) _;have up:∀{r},GS g 1 r->GS g (3^(d+1)) r:=λh=>h.trans (GS.refl _ 0) (by omega);unfold Gf;rcases z with⟨j,_⟩|⟨j,_⟩|⟨j,t,a,p,q⟩|⟨j,a,b,p,q,x⟩
  . simp only[j];exact tI (λ_=>tM (Ij (f.less (by omega)) _) λ_=>up) λh=>by cases h
  . simp only[j];refine tI (λh=>by cases h) λ_=>tI (λ_=>tB (N6 _ _ (by have:=f.l;omega)) λ_ _=>tI (λ_=>tM (Ij (f.less (by omega)) _) λ_=>up) λ_=> ?_) λh=>(by cases h);exact Iq (XF f.w _) λ_=>tM (Ij (f.less (by omega)) _) λ_=>up
  . simp only[j,p];refine tI (λh=>by cases h) λ_=>tI (λh=>by cases h) λ_=>tI (λ_=>tE (y:=a) rfl ?_) λh=>(by cases h);refine tB (ih n g a r (by omega) q (f.less (by omega))) λv m=> ?_;have o:GB v 1:=f.next m (by omega);exact gZ o.w t λi c=>tM (Ij o _) λ_ h=>m.trans h (by omega)
  . have D:e.Op≠1:=λh=>(by simp_all);have E:e.Op≠2:=λh=>(by simp_all);have F:e.Op≠3:=λh=>(by simp_all);rw[AAp (by simp_all),AAp (by simp_all),AAp (by simp_all),p];refine tI (λh=>by cases h) λ_=>tE (y:=a) rfl (tB (ih n g a r (by omega) q (f.less (by omega))) λv m=>tE (y:=b) rfl (tB (ih n v b _ (by omega) x (f.next m (by omega))) λu s=> ?_));exact tM (Ij (f.next (m.trans s (AA8 _)) (by omega)) _) λ_ h=>(m.trans s (AA8 _)).trans h (by omega)
theorem UX{g:A9}{e:BB}(a:Tp 2 e)(b:GB g 9)(r:Int):B7 (Cm BP g e r) (GS g 9):=x8 2 _ g e r (Mf (by omega)) a b
theorem mR{g:A9}(e:GB g 30){k:Nat}{s:AQ}(j:IY T (k+1) s)(o:s.Op=1):B7 (Fv g s) (GS g 30):=by
 have f:Tp 2 s.Expr:=j.2.2.1.resolve_right λh=>h.1 (by simp[o]);unfold Fv;rcases j.2.1 with h|⟨_,p,a,h,n⟩
 . rw[h];refine tI (λh=>by cases h) λ_=>tB (UX f (e.less (by omega)) _) λv d=> ?_;have b:GB v 1:=e.next d (by omega);refine tB (N6 _ _ (by have:=b.l;omega)) λ_ _=>tI (λ_=>tM (Ij b _) λ_ h=>d.trans h (by omega)) λ_=>Iq (XF b.w _) λ_=>tM (Ij b _) λ_ h=>d.trans h (by omega)
 . rw[h];refine tI (λ_=>tE (y:=a) rfl ?_) λh=>(by cases h);refine tB (UX n (e.less (by omega)) _) λv d=>tB (UX f (e.next d (by omega)) _) λu m=> ?_;have b:GB u 1:=e.next (d.trans m (AA8 _)) (by omega);exact gZ b.w p λi c=>tM (Ij b _) λ_ h=>(d.trans m (AA8 _)).trans h (by omega)
def cg:Nat->Nat
 |0=>0
 |d+1=>40+20*cg d
theorem GS.site{g r:A9}{n:Nat}(h:GS g n r)(a b:Int):GS g n ⟨r.w,r.locals,r.out,a,b⟩:=⟨h.w,h.l,h.a,h.b⟩
theorem GS.set{g r:A9}{n:Nat}(h:GS g n r)(i:Nat)(x:Ac)(a b:Int):GS g n ⟨r.w,r.locals,r.out.set i x,a,b⟩:=⟨h.w,h.l,by simpa using h.a,by simpa using h.b⟩
section
variable{R:A9->List AQ->AB8 A9}{g:A9}{s:AQ}{n:Nat}
theorem mO(d:GB g (n+2))(i:∀g,GB g n->B7 (R g s.Body) (GS g n))(a b c:Int):B7 (DD R g s a b c) (GS g (n+2)):=by unfold DD;refine tB (Qo (d.less (by omega)) _) λv f=>tB (i v (d.next f.1 (by omega))) λu j=> ?_;have e:GS g (n+1) ⟨u.w,u.locals,u.out,g.site,u.next⟩:=(f.1.trans j (by omega)).site _ _;exact tM (Ij (d.next e (by omega)) _) λ_ h=>e.trans h (by omega)
theorem dH(b:GB g (2*n+11))(p:Tp 2 s.Expr)(o:∀g,GB g n->B7 (R g s.Body) (GS g n))(m:∀g,GB g n->B7 (R g s.Else) (GS g n)):B7 (Cv R g s) (GS g (2*n+11)):=by
 unfold Cv;refine tB (UX p (b.less (by omega)) _) λv j=>tB (Qo (b.next j (by omega)) _) λu i=> ?_;have e:GS g 10 u:=j.trans i.1 (by omega);refine tB (o u (b.next e (by omega))) λx k=> ?_;have f:GS g (n+10) x:=e.trans k (by omega);have q:=i.2;have r:=k.a;have c:=f.site g.site x.next;refine tI (λ_=>tB (Qo (b.next c (by omega)) _) λy d=>tG ?_ λ_ _=>tR ?_) λ_=>tI (λ_=>tG ?_ λ_ _=>tR ?_) λ_=>tB (Qo (b.next c (by omega)) _) λy d=>tG ?_ λ_ _=> ?_
 . grind
 . exact((c.trans d.1 (AA8 _)).set _ _ _ _).trans (GS.refl _ 0) (by omega)
 . omega
 . exact(f.set _ _ _ _).trans (GS.refl _ 0) (by omega)
 . grind
 . have h:=(c.trans d.1 (AA8 _)).set v.out.length (Ac.mk (‹Ac›).Op (‹Ac›).A (y.out.length:Int) (‹Ac›).C (‹Ac›).N (‹Ac›).Site) y.site y.next;refine tB (m _ (b.next h (by omega))) λz l=>tG ?_ λ_ _=>tR (((h.trans l (AA8 _)).set _ _ _ _).trans (GS.refl _ 0) (by omega));have t:=d.2;have w:=l.a;grind
variable{R1:A9->AQ->AB8 A9}{R2:A9->AQ->Int->Int->Int->AB8 A9}
theorem vJ(hn:30<=n)(j:GB g n){k:Nat}(o:IY T (k+1) s)(u:Tp 2 s.Expr->∀g,GB g n->B7 (R1 g s) (GS g n))(x:∀g a b c,GB g n->B7 (R2 g s a b c) (GS g n)):B7 (Ca R1 R2 g s) (GS g n):=by
  have D:=j.l;have C:=j.w.f;have E:=j.w.t;have d:GB (A9.mk g.w g.locals g.out g.next (A1 (g.next+1))) n:=j.next ((GS.refl g 0).site _ _) (by omega);have up:∀{r},GS (A9.mk g.w g.locals g.out g.next (A1 (g.next+1))) n r->GS g n r:=λh=>⟨h.w,h.l,h.a,h.b⟩;have e:∀{m r},m<=n->GS (A9.mk g.w g.locals g.out g.next (A1 (g.next+1))) m r->GS g n r:=λy h=>up (h.trans (GS.refl _ 0) y);have A:∀a b c,B7 ((R2 (A9.mk g.w g.locals g.out g.next (A1 (g.next+1))) s a b c).bind λv=>some v) (GS g n):=λa b c=>tB (x _ a b c d) λ_ h=>tR (up h);have P:∀i,B7 ((A6 (A9.mk g.w g.locals g.out g.next (A1 (g.next+1))) i).bind λv=>some v) (GS g n):=λi=>tM (Ij (d.less (by omega)) i) λ_ h=>e (by omega) h;have j1:∀b,(b=true->s.Op∈[(2:Int),3])->B7 (Ca.J1 R1 R2 g s b) (GS g n):=by
    intro b B;unfold Ca.J1;refine tI (λh=>tB (u (o.2.2.1.resolve_right λq=>q.1 ?_) _ d) λ_ h=>tR (up h)) λ_=> ?_
    . simp_all
    repeat' first
      |exact A _ _ _
      |exact P _
      |exact tR (up (GS.refl _ _))
      |refine tI (λz=>tB (UX (o.2.2.1.resolve_right λq=>q.1 (by have:=eq_of_beq z;simp[this])) (d.less (by omega)) _) λv p=>tB (N6 _ _ (by rw[p.w];grind)) λ_ _=>tM (Ij (d.next p (by omega)) _) λ_ h=>e (by omega) (p.trans h (AA8 _))) λ_=> ?_
      |refine tI (λ_=> ?_) λ_=> ?_
      |refine Iq (oZ j.w _) λ_=> ?_
      | (refine tB (cond_tot d.w _) ?_
         rintro⟨i,w⟩ rfl)
      |refine tB (N6 _ _ (by omega)) λ_ _=> ?_
  unfold Ca;refine tI (λh=>tB (mR (d.less (by omega)) o (eq_of_beq h)) λ_ h=>tR (e (by omega) h)) λ_=>tI (λh=>j1 _ λ_=> ?_) λ_=>j1 _ λh=> ?_
  all_goals simp_all
end
theorem Xt(d:Nat):∀(n:Nat)(g:A9)(l:List AQ),3*d+1<=n->GB g (10*cg d)->Tq T d l->B7 (DU n g l) (GS g (10*cg d)):=by
 induction d with
 |zero=>intro n g l hn e ⟨_,h⟩;obtain⟨n,rfl⟩:∃k,n=k+1:=⟨n-1,by omega⟩;have:l=[]:=ABP.2 λx f=>(h x f).elim;subst this;show B7 (B8 (Oz n) g []) _;exact tR (GS.refl _ _)
 |succ d ih=>
  intro n g l hn e ⟨h1,h2⟩;obtain⟨n,rfl⟩:∃k,n=k+3:=⟨n-3,by omega⟩;show B7 (B8 (Ca (Cv (DU n)) (DD (DU n))) g l) _;have w:cg (d+1)=40+20*cg d:=rfl;unfold B8;refine QO l.length (λi s=>GS g (i*cg (d+1)) s) (F:=λm s i=>B8.AZ _ l m s i) (by omega) (GS.refl _ _) λm i s hi j k=> ?_;have y:i*cg (d+1)<=10*cg (d+1):=ABQ _ (by omega);unfold B8.AZ B8.L1;refine tD (λt=>tG (by omega) λx f=> ?_) λ_=>tR (j.trans (GS.refl _ 0) (by omega));have u:(i+1)*cg (d+1)<=10*cg (d+1):=ABQ _ (by omega);have p:(i+1)*cg (d+1)=i*cg (d+1)+cg (d+1):=ABl _ _;have o:∀g,GB g (10*cg d)->B7 (DU n g x.Body) (GS g (10*cg d)):=λg e=>ih n g _ (by omega) e (h2 x f).body;have q:∀g,GB g (10*cg d)->B7 (DU n g x.Else) (GS g (10*cg d)):=λg e=>ih n g _ (by omega) e (h2 x f).els;refine tB (vJ (n:=cg (d+1)) (by omega) (e.next j (by omega)) (h2 x f) (λp g e=> ?_) λg a b c e=> ?_) λv r=>k _ (by omega) (j.trans r (by omega))
  . exact tM (dH (n:=10*cg d) (e.less (by omega)) p o q) λ_ h=>h.trans (GS.refl _ 0) (by omega)
  . exact tM (mO (n:=10*cg d) (e.less (by omega)) o a b c) λ_ h=>h.trans (GS.refl _ 0) (by omega)
def rg(i:Ac):List Int:=(Aa i).getD []
theorem Gr(i:Ac):Aa i=some (rg i)/\(rg i).length<=3:=by
 have key:B7 (Aa i) λr=>r.length<=3:=by
  unfold Aa Aa.J1 Aa.J2 Aa.J3
  repeat' first|exact tR (by simp)|refine tI (λ_=> ?_) λ_=> ?_
 obtain⟨r,a,b⟩:=key;unfold rg;simp_all
structure CK (c:BT):Prop where
 n:c.AA.length<=4
 i:∀t∈c.AA,t.Bq.length<=8000000
theorem iJ{p:AR}(h:MP p):B7 (Ax p) λr=>CK r.1:=by
 have a:=h.t;have I:cg 4=336840:=rfl;unfold Ax;obtain⟨v,c,_⟩:=aQ h;refine tE c (tI (λ_=>tR ⟨by simp,by simp⟩) λB=>tB (aH h ⟨v.2,?_⟩) λw J=> ?_)
 . grind
 refine QO p.AA.length (λi (s:BT×Int)=>s.1.World=w/\s.1.AA.length=i/\∀t∈s.1.AA,t.Bq.length<=8000000) (F:=λn s i=>Ax.AZ p n s.1 s.2 i) (s0:=(_,_)) (by omega) ⟨rfl,rfl,by simp⟩ λn i s hi o k=> ?_;obtain⟨G,L,H⟩:=o;unfold Ax.AZ Ax.L1 Ax.J4;refine tD (λ_=>tG (by omega) λx e=> ?_) λ_=>tR ⟨by grind,H⟩;have g:=h.l x e;have g0:GB (A9.mk s.1.World x.GZ [] 0 s.2) 4000000:=⟨by simp_all,g,by simp⟩;refine tB (Xt 4 _ _ _ (Mf (by omega)) (g0.less (by omega)) (h.b x e)) λv c=> ?_;refine tB (Qo (g0.next (c.site (-1) v.next) (by omega)) _) λu z=> ?_;have d:=z.2;have f:=c.b;simp only[ABo]at d f;refine QO u.out.length (λ_ (t:Az)=>t.Bq=u.out) (F:=λn t k=>Ax.Cr _ _ _ _ _ n t k) (by omega) rfl λm q t j a C=> ?_;unfold Ax.Cr Ax.L2 Ax.J2 Ax.J3;refine tD (λ_=>tG (by omega) λy _=> ?_) λ_=>tC (Bh (by omega)) (k (_,_) (by omega) ⟨G,by simp;omega,?_⟩)
 . obtain⟨E,K⟩:=Gr y;refine tE E (QO (rg y).length (λ_ (t:Az)=>t.Bq=u.out) (F:=λn t k=>Ax.Gq _ _ _ n t k) (by omega) a λm q t j a D=> ?_);unfold Ax.Gq Ax.L3 Ax.J1;exact tD (λ_=>tG (by omega) λ_ _=>D _ (by omega) a) λ_=>C _ (by omega) a
 grind
end
theorem take_one{a:Type}{l:List a}{i:Nat}(h:i<l.length){P:a->Prop}(c:∀x∈l.take i,P x)(d:P l[i]):∀x∈l.take (i+1),P x:=by intro x b;rw[<- AA2 h]at b;grind
theorem ZJ{a:Type}{l:List a}{i:Nat}(h:l.length<=i){P:a->Prop}(b:∀x∈l.take i,P x):∀x∈l,P x:=by rwa [ABM h]at b
theorem IG{a:Type}{l:List a}{i:Int}(h:0<=i/\i<l.length):∃x,gt l i=some x/\l[i.toNat]? =some x/\x∈l:=by
 have:i.toNat<l.length:=by omega
 exact⟨l[i.toNat],by simp[gt,h.1,this],by simp[this],AA0 this⟩
theorem NM(i n:Int):B7 (Db i n) λb=>b=true->0<=i/\i<n:=by unfold Db Db.J1;exact tD (λh=>tR λa=>⟨h,AAq a⟩) λ_=>tR λh=>by cases h
def Rn(w:AD)(b n:Int):Prop:=∃x,gt w.Cells b=some x/\x.Index=0/\x.Bw≠0/\x.Bw=n
theorem aL(w:AD)(b n:Int):B7 (E3 w b n) λr=>r=true->Rn w b n:=by
 have N:∀{f:Prop},B7 (some false) λb:Bool=>b=true->f:=tR λh=>by cases h
 unfold E3 E3.J1;refine tB (NM _ _) λv e=>tI (λh=> ?_) λ_=>N;obtain⟨x,a,_⟩:=IG (e h);exact tE a (tI (λc=>tI (λg=>tR λd=>⟨x,a,eq_of_beq c,by simp_all,eq_of_beq d⟩) λ_=>N) λ_=>N)
theorem kA(w:AD)(i:Ac):B7 (AM w i) λb=>b=true->(i.Op=7->Rn w i.B i.N)/\(i.Op=9->Rn w i.A i.N):=by
 have g:∀b,TT (AM.J8 i w b):=by
  intro b;unfold AM.J8 AM.J9 AM.QZ
  repeat' first|exact tR trivial|refine tB (NM _ _) λ_ _=> ?_|refine tI (λ_=> ?_) λ_=> ?_
 have l:∀b,TT (AM.J7 i w b):=by
  intro b;unfold AM.J7
  repeat' first|exact tR trivial|exact g _|refine tB (NM _ _) λ_ _=> ?_|refine tI (λ_=> ?_) λ_=> ?_
 have k:∀b,TT (AM.J5 i w b):=by
  intro b;unfold AM.J5 AM.J6;refine tI (λ_=>tB (NM _ _) λv a=>tI (λh=>tG (a h) λx _=>tR trivial) λ_=>tR trivial) λ_=> ?_
  repeat' grind
 have j:∀b,TT (AM.J3 i w b):=by
  intro b;unfold AM.J3 AM.J4;refine tI (λ_=>tB (NM _ _) λv a=>tI (λh=>tG (a h) λx _=>tR trivial) λ_=>tR trivial) λ_=> ?_
  repeat' grind
 unfold AM AM.J1 AM.J2;have M:∀{o:AB8 Bool},TT o->i.Op≠7->i.Op≠9->B7 o λb=>b=true->(i.Op=7->Rn w i.B i.N)/\(i.Op=9->Rn w i.A i.N):=λh e f=>tM h λ_ _ _=>⟨λh=>absurd h e,λh=>absurd h f⟩;refine tI (λh=>M (tB (NM _ _) λv a=>tI (λh=>tG (a h) λx _=>tR trivial) λ_=>tR trivial) ?_ ?_) λm=>tI (λh=>M (tB (NM _ _) λv a=>tI (λh=>tG (a h) λx _=>tR trivial) λ_=>tR trivial) ?_ ?_) λp=> ?_
 . simp_all
 . simp_all
 . simp_all
 . simp_all
 . refine tI (λh=>tB (aL _ _ _) λv a=>tR λc=>⟨λ_=>a c,λd=> ?_⟩) λn=>tI (λh=>tB (aL _ _ _) λv a=>tR λc=>⟨λd=> ?_,λ_=>a c⟩) λq=> ?_
   all_goals grind
def lF(o:Int):Bool:=decide (1<=o)&&decide (o<=5)
theorem Qa(o:Int):GF o=some (lF o):=by unfold GF GF.J1 lF;grind
theorem wJ{l:List Ac}(b:l.length<=8000000)(a:Int):TT (B9 l a):=by unfold B9;refine QO (l.length+1) (λ_ _=>True) (F:=λn s i=>B9.AZ l n s i) (by omega) trivial λn i s hi _ k=> ?_;unfold B9.AZ B9.L1 B9.J1 B9.J2 B9.J3;refine tD (λ_=>tD (λ_=>tR trivial) λ_=>tD (λ_=>tR trivial) λ_=>tG (by omega) λx _=>tE (Qa _) ?_) λ_=>tR trivial;exact tI (λ_=>tR trivial) λ_=>tI (λ_=>k _ (by omega) trivial) λ_=>k _ (by omega) trivial
def ZE(w:AD)(t:Int)(x:Ac):Prop:=if x.Op=28 then x.Site= -1 else∃y,gt w.BL x.Site=some y/\y.Thread=t
structure VI (w:AD) (t R:Int) (x:Ac):Prop where
 o:1<=x.Op/\x.Op<=28
 g:∀y∈rg x,0<=y/\y<R
 s:ZE w t x
 a:(x.Op=7->Rn w x.B x.N)/\(x.Op=9->Rn w x.A x.N)
structure VT (w:AD) (t:Int) (c:Az):Prop where
 r:0<=c.Ch/\c.Ch<=32
 i:∀x∈c.Bq,VI w t c.Ch x
theorem Wl(w:AD)(t:Int){c:Az}(D:c.Bq.length<=8000000):B7 (AX w t c) λb=>b=true->VT w t c:=by
 have N:∀{J:Prop},B7 (some false) λb:Bool=>b=true->J:=tR λh=>by cases h
 have j1:∀b,(b=false->0<=c.Ch/\c.Ch<=32)->B7 (AX.J1 c t w b) λb=>b=true->VT w t c:=by
  intro b p;unfold AX.J1;refine tI (λ_=>N) λC=>QO c.Bq.length (λi (_:Unit)=>∀x∈c.Bq.take i,VI w t c.Ch x) (s0:=()) (F:=λn _ i=>AX.AZ c t w n i) (by omega) (by simp) λn i _ hi q k=> ?_;unfold AX.AZ AX.L1 AX.J6;refine tD (λg=>cL (by omega) ?_) λM=>tR λ_=>⟨p C,ZJ (by omega) q⟩;have g:i<c.Bq.length:=by omega
  generalize E:c.Bq[i]=x;have H:∀b,(b=false->(1<=x.Op/\x.Op<=28)/\ZE w t x/\(x.Op=7->Rn w x.B x.N)/\(x.Op=9->Rn w x.A x.N))->B7 (AX.J4 (AX.AZ c t w n) c i x b) λb=>b=true->VT w t c:=by intro b a;unfold AX.J4;refine tI (λ_=>N) λd=>tE (Gr x).1 (QO (rg x).length (λi (_:Unit)=>∀y∈(rg x).take i,0<=y/\y<c.Ch) (s0:=()) (F:=λn _ i=>AX.Cr _ c _ (rg x) n i) (by have:=(Gr x).2;omega) (by simp) λm j _ K z I=> ?_);unfold AX.Cr AX.L2 AX.J5;refine tD (λ_=>cL (by omega) (tB (NM _ _) λv e=>tI (λ_=>N) λh=>I () (by omega) (take_one (by omega) z (e (by grind))))) λ_=>k () g (take_one g q (by rw[E];exact⟨(a d).1,ZJ (by omega) z,(a d).2.1,(a d).2.2⟩))
  have o:∀b,(b=false->(1<=x.Op/\x.Op<=28)/\ZE w t x/\(x.Op=7->Rn w x.B x.N)/\(x.Op=9->Rn w x.A x.N))->B7 (AX.J3 (AX.AZ c t w n) c i x b) λb=>b=true->VT w t c:=by
   intro b a;unfold AX.J3;refine tI (λ_=>N) λd=> ?_
   repeat' first|exact H _ λ_=>a d|refine tB (NM _ _) λ_ _=> ?_|refine tI (λ_=> ?_) λ_=> ?_
  have f:∀b,(b=false->(1<=x.Op/\x.Op<=28)/\(x.Op=7->Rn w x.B x.N)/\(x.Op=9->Rn w x.A x.N))->B7 (AX.J2 (AX.AZ c t w n) c i t w x b) λb=>b=true->VT w t c:=by
   intro b a;unfold AX.J2;refine tI (λ_=>N) λd=> ?_;obtain⟨s,u⟩:=a d;have T:∀b,b=true->B7 (AX.J3 (AX.AZ c t w n) c i x b) λb=>b=true->VT w t c:=λb p=>o b λh=>(by simp_all);refine tI (λl=>tI (λ_=>T _ rfl) λr=>tI (λh=>by simp_all) λ_=>o _ λ_=>⟨s,?_,u⟩) λl=>tI (λ_=> ?_) λh=>by simp_all
   . unfold ZE;simp_all
   . refine tB (NM _ _) λv e=>tI (λ_=>T _ rfl) λh=> ?_;obtain⟨y,G,_⟩:=IG (e (by grind));refine tE G (o _ λL=>⟨s,?_,u⟩);unfold ZE;simp_all
  refine tD (λ_=>f _ λh=>by cases h) λ_=>tD (λ_=>f _ λh=>by cases h) λ_=> ?_;have a:1<=x.Op/\x.Op<=28:=by omega
  exact tI (λ_=>f _ λh=>by cases h) λ_=>tB (kA _ _) λv e=>tI (λ_=>f _ λh=>by cases h) λh=>Iq (wJ D _) λ_=>f _ λ_=>⟨a,e (by grind)⟩
 unfold AX;grind
structure VC (c:BT):Prop where
 w:Cs c.World=true
 n:c.AA.length=c.World.AA.length
 t:∀(i:Nat) t,c.AA[i]? =some t->VT c.World i t
theorem Qb{c:BT}(e:CK c):B7 (Bz c) λb=>b=true->VC c:=by
 have N:∀{l:Prop},B7 (some false) λb:Bool=>b=true->l:=tR λh=>by cases h
 have hn:=e.n;have j1:∀b,(b=false->Cs c.World=true/\c.AA.length=c.World.AA.length)->B7 (Bz.J1 c b) λb=>b=true->VC c:=by
  intro b d;unfold Bz.J1;refine tI (λ_=>N) λa=>QO c.AA.length (λi (_:Unit)=>∀(j:Nat) x,j<i->c.AA[j]? =some x->VT c.World j x) (s0:=()) (F:=λn _ i=>Bz.AZ c n i) (by omega) (λj _ h=>by omega) λn i _ hi f k=> ?_;unfold Bz.AZ Bz.L1 Bz.J2;refine tD (λm=>cL (by omega) (tB (Wl _ _ (e.i _ (AA0 (by omega)))) λv p=>tI (λ_=>N) λh=>k () (by omega) ?_)) λ_=>tR λ_=>⟨(d a).1,(d a).2,λj x g=>f j x ?_ g⟩
  . grind
  . grind
 unfold Bz;refine tE (LY _) (tI (λ_=>j1 _ λh=>by cases h) λh=>j1 _ λo=>⟨by grind,?_⟩);grind
def MS{e:Type}(o:AB8 e)(Q:e->Prop):Prop:=∀r,o=some r->Q r
theorem pR{a:Type}{r:a}{Q:a->Prop}(h:Q r):MS (some r) Q:=λ_ e=>by simp_all
theorem pN{a:Type}{Q:a->Prop}:MS (none:AB8 a) Q:=λ_ e=>by cases e
theorem pB{a b:Type}{o:AB8 a}{Q:a->Prop}{f:a->AB8 b}{R:b->Prop}(h:MS o Q)(k:∀x,Q x->MS (f x) R):MS (o.bind f) R:=by
 intro r e;cases o with
 |none=>cases e
 |some x=>exact k x (h x rfl) r e
theorem pB'{a b:Type}{o:AB8 a}{f:a->AB8 b}{R:b->Prop}(k:∀x,MS (f x) R):MS (o.bind f) R:=pB (Q:=λ_=>True) (λ_ _=>trivial) λx _=>k x
theorem pE{a b:Type}{o:AB8 a}{y:a}{f:a->AB8 b}{R:b->Prop}(h:o=some y)(k:MS (f y) R):MS (o.bind f) R:=by simp_all
theorem pC{b:Type}{p:Prop}[Decidable p]{a:AB8 b}{R:b->Prop}(k:p->MS a R):MS (if p then a else none) R:=by
 by_cases h:p
 . simp_all
 . rw[AAp h];exact pN
theorem pI{d:Type}{c:Bool}{a b:AB8 d}{R:d->Prop}(e:c=true->MS a R)(f:c=false->MS b R):MS (if c=true then a else b) R:=by grind
theorem pD{c:Type}{p:Prop}[Decidable p]{a b:AB8 c}{R:c->Prop}(d:p->MS a R)(e:¬p->MS b R):MS (if decide p=true then a else b) R:=by grind
theorem pM{a:Type}{o:AB8 a}{Q R:a->Prop}(h:MS o Q)(k:∀x,Q x->R x):MS o R:=λr e=>k r (h r e)
theorem pT{a:Type}{o:AB8 a}{Q:a->Prop}(h:B7 o Q):MS o Q:=by obtain⟨x,rfl,b⟩:=h;exact pR b
theorem pA{a:Type}{o:AB8 a}{P Q:a->Prop}(h:MS o P)(k:MS o Q):MS o λr=>P r/\Q r:=λr e=>⟨h r e,k r e⟩
theorem tP{a:Type}{o:AB8 a}{P Q:a->Prop}(h:B7 o P)(k:MS o Q):B7 o λr=>P r/\Q r:=by obtain⟨x,e,b⟩:=h;exact⟨x,e,b,k x e⟩
theorem pLs{m b:Type}{Q:b->Prop}(N:Nat)(I:Nat->m->Prop){F:Nat->m->Int->AB8 b}(f:∀s i,F 0 s i=none)(k:N<1000000000000){s0:m}(c:I 0 s0)(h:∀n (i:Nat) s,i<=N->I i s->(∀a,i<N->I (i+1) a->MS (F n a (A1 (i+1))) Q)->MS (F (n+1) s i) Q):MS (F BP s0 0) Q:=by
 have key:∀n (i:Nat) s,i<=N->I i s->MS (F n s i) Q:=by
  intro n;induction n with
  |zero=>intro i s _ _;rw[f];exact pN
  |succ n ih=>intro i s d e;refine h n i s d e λa g j=> ?_;rw[Ai (by omega)];grind
 exact key BP 0 s0 (by omega) c
def StI(l:List Ac)(k m:Nat):Prop:=∃x,l[k]? =some x/\lF x.Op=true/\(x.Op=5/\x.A=(m:Int)\/x.Op≠5/\m=k+1)
def Qt(l:List Ac)(a b:Nat):Nat->Nat->Nat->Prop
 |0,k,m=>k=m
 |n+1,k,m=>(a<=k/\k<b)/\∃j,StI l k j/\Qt l a b n j m
def Ev(l:List Ac)(m:Nat):Prop:=∃x,l[m]? =some x/\lF x.Op=false
theorem Qt.frame{l l':List Ac}{a b c d:Nat}(h:∀i,a<=i->i<b->l[i]? =l'[i]?)(f:c<=a)(g:b<=d):∀{n k m},Qt l a b n k m->Qt l' c d n k m
 |0,_,_,e=>e
 |n+1,k,m,⟨⟨h1,h2⟩,j,⟨x,x1,x2⟩,h4⟩=>⟨⟨by omega,by omega⟩,j,⟨x,by simp_all,x2⟩,h4.frame h f g⟩
theorem Qt.trans{l:List Ac}{a b:Nat}:∀{n k m p q},Qt l a b n k m->Qt l a b p m q->Qt l a b (n+p) k q
 |0,_,_,p,_,e,h=>by cases e;simp_all
 |n+1,_,_,p,_,⟨h1,j,h2,h3⟩,h=>by rw[Nat.succ_add];exact⟨h1,j,h2,h3.trans h⟩
theorem Qt.one{l:List Ac}{a b k m:Nat}(h:a<=k/\k<b)(s:StI l k m):Qt l a b 1 k m:=⟨h,m,s,rfl⟩
structure LV (w:AD) (lo hi:Int) (c:Nat) (x:Ac):Prop where
 o:1<=x.Op/\x.Op<=27
 ob:AM w x=some true
 g:∀y∈rg x,0<=y/\y<32
 s:lo<=x.Site/\x.Site<hi
 j:x.Op=5->0<=x.A/\x.A<=c
 b:x.Op=10->0<=x.B/\x.B<=c
structure SG (w:AD) (lo hi:Int) (l:List Ac) (a b c:Nat):Prop where
 h:a<=b/\b<=l.length
 i:∀k x,a<=k->k<b->l[k]? =some x->LV w lo hi c x
 f:∀k,a<=k->k<b->(∃n m,Qt l a b n k m/\(a<=m/\m<b)/\Ev l m/\n+a+1<=b)\/∃n,Qt l a b n k b/\n+k<=b
section
variable{w:AD}{lo hi lo' hi':Int}{l l':List Ac}{a b c d:Nat}
theorem LV.mono{x:Ac}(h:LV w lo hi c x)(a:lo'<=lo)(f:hi<=hi')(i:c<=d):LV w lo' hi' d x:=
 ⟨h.o,h.ob,h.g,⟨by have:=h.s;omega,by have:=h.s;omega⟩,λe=>by have:=h.j e;omega,λe=>by have:=h.b e;omega⟩
theorem SG.frame(h:SG w lo hi l a b c)(j:∀i,a<=i->i<b->l[i]? =l'[i]?)(s:b<=l'.length)(o:lo'<=lo)(p:hi<=hi')(q:c<=d):SG w lo' hi' l' a b d:=by
 refine⟨⟨h.h.1,s⟩,λk x e g v=>(h.i k x e g (by simp_all)).mono o p q,λk e g=> ?_⟩;rcases h.f k e g with⟨n,m,r,t,⟨x,y,u⟩,hn⟩|⟨n,r,hn⟩
 . exact .inl ⟨n,m,r.frame j (by omega) (by omega),t,⟨x,by simp_all,u⟩,hn⟩
 . exact .inr ⟨n,r.frame j (by omega) (by omega),hn⟩
theorem SG.mono(h:SG w lo hi l a b c)(e:lo'<=lo)(f:hi<=hi')(g:c<=d):SG w lo' hi' l a b d:=h.frame (λ_ _ _=>rfl) h.h.2 e f g
theorem SG.nil(h:a<=l.length):SG w lo hi l a a c:=⟨⟨by omega,h⟩,λk x _ _=>by omega,λk _ _=>by omega⟩
theorem SG.app{e:Nat}(h:SG w lo hi l a b c)(g:SG w lo hi l b e c):SG w lo hi l a e c:=by
 have B:=h.h;have y:=g.h;refine⟨⟨by omega,y.2⟩,λk x p q u=> ?_,λk p q=> ?_⟩
 . by_cases o:k<b
   . exact h.i k x p o u
   . exact g.i k x (by omega) q u
 . have up:∀{n k m},Qt l b e n k m->Qt l a e n k m:=λr=>r.frame (λ_ _ _=>rfl) (by omega) (by omega);have d:∀{n k m},Qt l a b n k m->Qt l a e n k m:=λr=>r.frame (λ_ _ _=>rfl) (by omega) (by omega);by_cases o:k<b
   . rcases h.f k p o with⟨n,m,r,v,ev,hn⟩|⟨n,r,hn⟩
     . grind
     . by_cases j:b<e
       . rcases g.f b (by omega) j with⟨s,m,t,v,ev,z⟩|⟨s,t,z⟩
         . exact .inl ⟨n+s,m,(d r).trans (up t),by omega,ev,by omega⟩
         . exact .inr ⟨n+s,(d r).trans (up t),by omega⟩
       grind
   . rcases g.f k (by omega) q with⟨n,m,r,v,ev,hn⟩|⟨n,r,hn⟩
     all_goals grind
theorem SG.one{x:Ac}(b:l[a]? =some x)(h:LV w lo hi c x)(d:x.Op≠5):SG w lo hi l a (a+1) c:=by
 have g:=(AAj.1 b).1;refine⟨⟨by omega,by omega⟩,λk y e f i=> ?_,λk e f=> ?_⟩
 . grind
 . obtain rfl:k=a:=(by omega);cases hs:lF x.Op with
   |false=>exact .inl ⟨0,k,rfl,by omega,⟨x,b,hs⟩,by omega⟩
   |true=>exact .inr ⟨1,Qt.one (by omega) ⟨x,b,hs,.inr ⟨d,rfl⟩⟩,by omega⟩
theorem SG.jump{j e:Nat}{x:Ac}(h:SG w lo hi l a j c)(B:l[j]? =some x)(E:LV w lo hi c x)(t:x.Op=5)(z:x.A=(e:Int))(g:SG w lo hi l (j+1) e c):SG w lo hi l a e c:=by
 have D:=h.h;have v:=g.h;have s:StI l j e:=⟨x,B,by rw[t];rfl,.inl ⟨t,z⟩⟩;have up:∀{n k m},Qt l (j+1) e n k m->Qt l a e n k m:=λr=>r.frame (λ_ _ _=>rfl) (by omega) (by omega);have p:∀{n k m},Qt l a j n k m->Qt l a e n k m:=λr=>r.frame (λ_ _ _=>rfl) (by omega) (by omega);refine⟨⟨by omega,v.2⟩,λk y d o u=> ?_,λk d o=> ?_⟩
 . by_cases b:k<j
   . exact h.i k y d b u
   . by_cases q:k=j
     . simp_all
     . exact g.i k y (by omega) o u
 . by_cases b:k<j
   . rcases h.f k d b with⟨n,m,r,C,ev,hn⟩|⟨n,r,hn⟩
     . grind
     . exact .inr ⟨n+1,(p r).trans (Qt.one (by omega) s),by omega⟩
   . by_cases q:k=j
     . subst q;exact .inr ⟨1,Qt.one (by omega) s,by omega⟩
     . rcases g.f k (by omega) o with⟨n,m,r,C,ev,hn⟩|⟨n,r,hn⟩
       all_goals grind
theorem SG.back{p j:Nat}{x y:Ac}(h:SG w lo hi l a p c)(L:l[p]? =some y)(M:LV w lo hi c y)(o:lF y.Op=false)(g:SG w lo hi l (p+1) j c)(D:l[j]? =some x)(S:LV w lo hi c x)(C:x.Op=5)(J:x.A=(a:Int)):SG w lo hi l a (j+1) c:=by
 have Q:=h.h;have P:=g.h;have R:=(AAj.1 D).1;have s:StI l j a:=⟨x,D,by rw[C];rfl,.inl ⟨C,J⟩⟩;have up:∀{n k m},Qt l (p+1) j n k m->Qt l a (j+1) n k m:=λr=>r.frame (λ_ _ _=>rfl) (by omega) (by omega);have O:∀{n k m},Qt l a p n k m->Qt l a (j+1) n k m:=λr=>r.frame (λ_ _ _=>rfl) (by omega) (by omega);have B:Ev l p:=⟨y,L,o⟩
 -- from the beginning on
 have d:∃n m,Qt l a (j+1) n a m/\(a<=m/\m<j+1)/\Ev l m/\n+a<=p:=by
  by_cases K:a<p
  . rcases h.f a (by omega) K with⟨n,m,r,G,ev,hn⟩|⟨n,r,hn⟩
    all_goals grind
  . have:a=p:=(by omega);exact⟨0,p,this,by omega,B,by omega⟩
 obtain⟨H,F,I,u,v,T⟩:=d;refine⟨⟨by omega,by omega⟩,λk z q N E=> ?_,λk q N=>.inl ?_⟩
 . by_cases e:k<p
   . exact h.i k z q e E
   . by_cases t:k=p
     . simp_all
     . by_cases b:k<j
       . exact g.i k z (by omega) b E
       grind
 . by_cases e:k<p
   . rcases h.f k q e with⟨n,m,r,G,ev,hn⟩|⟨n,r,hn⟩
     all_goals grind
   . by_cases t:k=p
     . subst t;exact⟨0,k,rfl,by omega,B,by omega⟩
     . by_cases b:k<j
       . rcases g.f k (by omega) b with⟨n,m,r,G,ev,hn⟩|⟨n,r,hn⟩
         . grind
         . exact⟨n+(1+H),F,(up r).trans ((Qt.one (by omega) s).trans I),u,v,by omega⟩
       . obtain rfl:k=j:=(by omega);exact⟨1+H,F,(Qt.one (by omega) s).trans I,u,v,by omega⟩
end
def TB(E:Int)(x:List Int):Prop:=x.Pairwise (· < ·)/\∀y∈x,0<=y/\y<E
theorem TB.len{E:Int}{x:List Int}(h:TB E x)(d:0<=E):(x.length:Int)<=E:=by
 have key:∀(x:List Int)(a:Int),x.Pairwise (· < ·)->(∀y∈x,a<=y/\y<E)->a<=E->(x.length:Int)<=E-a:=by
  intro x;induction x with
  |nil=>simp_all
  |cons y r ih=>
   intro a e b i;obtain⟨f,g⟩:=List.pairwise_cons.1 e;have j:=b y ABj
   have:=ih (y+1) g (λz c=>⟨f z c,(b z (List.mem_cons_of_mem _ c)).2⟩) (by omega);grind
 have:=key x 0 h.1 h.2 d;omega
theorem TB.mono{E F:Int}{x:List Int}(h:TB E x)(b:E<=F):TB F x:=⟨h.1,λy a=>⟨(h.2 y a).1,by have:=(h.2 y a).2;omega⟩⟩
structure TH (E:Nat) (s:AL):Prop where
 r:s.Ch.length<=100
 t:s.Cc.length<=100
 b:∀x∈s.Cc,TB s.AF x
 e:0<=s.AF/\s.AF<=E
theorem TH.zero(E:Nat):TH E ⟨0,[],[],0⟩:=⟨by simp,by simp,by simp,by simp,by simp⟩
theorem fU{E:Nat}{s:AL}(h:TH E s)(f:E<=100000):FO s=some s:=by
 have g:=h.r;have j:=h.t;have c:=h.e;have key:B7 (FO s) λr=>r=s:=by
  unfold FO;refine tC (Bh (by omega)) (QO s.Cc.length (λi o=>o=⟨s.PC,s.Ch,s.Cc.take i,s.AF⟩) (F:=λn o i=>FO.AZ s n o i) (by omega) rfl λn i o hi d k=> ?_);subst d;unfold FO.AZ FO.L1 FO.J1;refine tD (λ_=>cL (by omega) ?_) λ_=>tR (by rw[ABM (by omega)])
  have:=(h.b _ (AA0 (show i<s.Cc.length by omega))).len c.1;exact tC (Bh (by omega)) (tC (Bh (by simp;omega)) (k _ (by omega) (by simp_all)))
 obtain⟨r,a,rfl⟩:=key;exact a
theorem rg1{i:Ac}(h:i.Op=1):rg i=[i.A]:=by unfold rg Aa Aa.J1;simp[h]
theorem rg2{i:Ac}(h:i.Op=2):rg i=[i.A,i.B]:=by unfold rg Aa Aa.J1 Aa.J2;simp[h]
theorem rg3{i:Ac}(h:i.Op=3):rg i=[i.A,i.B]:=by unfold rg Aa Aa.J1 Aa.J2;simp[h]
theorem rg4{i:Ac}(h:i.Op=4):rg i=[i.A,i.B,i.C]:=by unfold rg Aa Aa.J1 Aa.J2;simp[h]
theorem rg6{i:Ac}(h:i.Op=6):rg i=[i.A]:=by unfold rg Aa Aa.J1;simp[h]
theorem rg7{i:Ac}(h:i.Op=7):rg i=[i.A,i.C]:=by unfold rg Aa Aa.J1 Aa.J2;simp[h]
theorem rg8{i:Ac}(h:i.Op=8):rg i=[i.B]:=by unfold rg Aa Aa.J1 Aa.J2 Aa.J3;simp[h]
theorem rg9{i:Ac}(h:i.Op=9):rg i=[i.B,i.C]:=by unfold rg Aa Aa.J1 Aa.J2 Aa.J3;simp[h]
theorem rg10{i:Ac}(h:i.Op=10):rg i=[i.A]:=by unfold rg Aa Aa.J1;simp[h]
theorem rg26{i:Ac}(h:i.Op=26):rg i=[i.B]:=by unfold rg Aa Aa.J1 Aa.J2 Aa.J3;simp[h]
theorem rg27{i:Ac}(h:i.Op=27):rg i=[i.A]:=by unfold rg Aa Aa.J1;simp[h]
theorem Tt(n:Int):TT (Ej n):=by
 unfold Ej Ej.J1
 repeat' first|exact tR trivial|refine tI (λ_=> ?_) λ_=> ?_
theorem cO(b:Bool):TT (EC b):=by unfold EC;exact tI (λ_=>tR trivial) λ_=>tR trivial
theorem sV(o a:Int):TT (LH o a):=by
 unfold LH
 repeat' first|exact tR trivial|refine Iq (cO _) λ_=> ?_|refine tI (λ_=> ?_) λ_=> ?_
theorem l5(o a b:Int):TT (GD o a b):=by
 unfold GD GD.J1 GD.J2
 repeat' first|exact tR trivial|refine Iq (cO _) λ_=> ?_|refine tD (λ_=>tR trivial) λc=>tC c ?_|refine tI (λ_=> ?_) λ_=> ?_
theorem step_tot{E:Nat}{i:Ac}{s:AL}{P:Int->Prop}(d:TH E s)(m:∀x∈s.Cc,∀k∈x,P k)(S:E<=100000)(G:s.Cc.length=s.Ch.length)(H:lF i.Op=true):B7 (EZ i s) λr=>r.2=true->(TH E r.1/\r.1.Cc.length=r.1.Ch.length)/\r.1.AF=s.AF/\∀x∈r.1.Cc,∀k∈x,P k:=by
 have N:∀{x} {P:AL×Bool->Prop},B7 (some (x,false)) λr:AL×Bool=>r.2=true->P r:=tR λh=>by cases h
 have g:=d.e;have I:=d.r;have J:=d.t;have l:∀v ok t,0<=i.A/\i.A<s.Ch.length->TB s.AF t->(∀k∈t,P k)->B7 (EZ.J3 i s v ok t) λr=>r.2=true->(TH E r.1/\r.1.Cc.length=r.1.Ch.length)/\r.1.AF=s.AF/\∀x∈r.1.Cc,∀k∈x,P k:=by
  intro v ok t D o K
  have:=o.len g.1;unfold EZ.J3;refine tC (Bh (by omega)) (tG D λ_ _=>tG (by omega) λ_ _=>tR λ_=>⟨⟨⟨by simp_all,by simp_all,?_,g⟩,by simp_all⟩,rfl,?_⟩)
  . intro x c;rcases ABB c with c|rfl
    . exact d.b x c
    omega
  . grind
 have L:(∀y∈rg i,0<=y/\y<s.Ch.length)->B7 (EZ.J2 i s) λr=>r.2=true->(TH E r.1/\r.1.Cc.length=r.1.Ch.length)/\r.1.AF=s.AF/\∀x∈r.1.Cc,∀k∈x,P k:=by
  intro a;unfold EZ.J2;refine tI (λ_=>tR λ_=>⟨⟨⟨I,J,d.b,g⟩,G⟩,rfl,m⟩) λR=>tI (λu=> ?_) λM=>tI (λw=> ?_) λO=>tI (λB=> ?_) λQ=> ?_
  . simp only[rg1 (eq_of_beq u),ABG,forall_eq]at a;exact l _ _ _ a ⟨List.Pairwise.nil,by simp⟩ (by simp)
  . simp only[rg2 (eq_of_beq w),ABH,ABa,ABU,forall_eq_or_imp,forall_eq]at a;exact tG a.2 λ_ _=>tG (by omega) λx c=>l _ _ _ a.1 (d.b x c) (m x c)
  . simp only[rg3 (eq_of_beq B),ABH,ABa,ABU,forall_eq_or_imp,forall_eq]at a;exact Iq (Tt _) λ_=>tG a.2 λ_ _=>Iq (sV _ _) λ_=>tG (by omega) λx c=>l _ _ _ a.1 (d.b x c) (m x c)
  . have C:i.Op=4:=(by simp[lF]at H R M O Q;omega);simp only[rg4 C,ABH,ABa,ABU,forall_eq_or_imp,forall_eq]at a;refine Iq (Tt _) λ_=>tG a.2.1 λ_ _=>tG a.2.2 λ_ _=>Iq (l5 _ _ _) λ_=>tG (by omega) λx c=>tG (by omega) λy p=> ?_;have U:=(d.b x c).len g.1;have V:=(d.b y p).len g.1;refine tE (gC x y (by omega)) (l _ _ _ a.1 ⟨Lo _,λz f=> ?_⟩ λz f=> ?_)
    . rcases AAz.1 ((Kt _ _).1 f)with f|f
      . exact(d.b x c).2 z f
      . exact(d.b y p).2 z f
    . rcases AAz.1 ((Kt _ _).1 f)with f|f
      all_goals grind
 unfold EZ;refine tE (Gr i).1 (QO (rg i).length (λj (_:Unit)=>∀y∈(rg i).take j,0<=y/\y<(s.Ch.length:Int)) (s0:=()) (F:=λn _ j=>EZ.AZ i s (rg i) n j) (by have:=(Gr i).2;omega) (by simp) λn j _ T q k=> ?_);unfold EZ.AZ EZ.L1 EZ.J1;refine tD (λ_=>cL (by omega) (tD (λ_=>tI (λ_=>N) λh=>by cases h) λ_=>tD (λ_=>N) λ_=>k () (by omega) (take_one (by omega) q (by omega)))) λ_=>L (ZJ (by omega) q)
def QY:AL:=⟨0,[],[],0⟩
theorem mG{E:Nat}{c:Az}{s:AL}{P:Int->Prop}(e:TH E s)(g:∀x∈s.Cc,∀k∈x,P k)(d:E<=100000)(m:c.Bq.length<=8000000):B7 (De c s) λr=>TH E r.1/\(r.1=QY\/r.1.AF=s.AF/\∀x∈r.1.Cc,∀k∈x,P k):=by
 have Z:TH E QY/\(QY=QY\/QY.AF=s.AF/\∀x∈QY.Cc,∀k∈x,P k):=⟨TH.zero E,.inl rfl⟩;have j1:∀b,(b=false->s.Cc.length=s.Ch.length)->B7 (De.J1 c s b) λr=>TH E r.1/\(r.1=QY\/r.1.AF=s.AF/\∀x∈r.1.Cc,∀k∈x,P k):=by intro b l;unfold De.J1;refine tI (λ_=>tR Z) λf=>tE (fU e d) (QO (c.Bq.length+1) (λ_ t=>(TH E t/\t.Cc.length=t.Ch.length)/\t.AF=s.AF/\∀x∈t.Cc,∀k∈x,P k) (F:=λn s j=>De.AZ c n s j) (by omega) ⟨⟨e,l f⟩,rfl,g⟩ λn i t hi a k=> ?_);unfold De.AZ De.L1 De.J2 De.J3;refine tD (λ_=>tD (λ_=>tI (λ_=>tR Z) λh=>by cases h) λ_=>tD (λ_=>tR Z) λ_=>tG (by omega) λx _=>tE (Qa _) (tI (λ_=>tR ⟨a.1.1,.inr a.2⟩) λh=>tI (λ_=>tR Z) λ_=> ?_)) λ_=>tR Z;exact tB (step_tot a.1.1 a.2.2 d a.1.2 (by grind)) λv o=>tI (λ_=>tR Z) λh=>k _ (by omega) (by grind)
 unfold De;grind
def YQ:List Ia:=[⟨⟨#[109]⟩,false⟩,⟨⟨#[110]⟩,false⟩,⟨⟨#[114]⟩,true⟩]
def W9:AD:=⟨LU,[],[],[],[],[]⟩
structure WF (T:AB9->Prop) (w:AD):Prop where
 c:w.Cells=LU
 l:w.AE=YQ
 d:w.Af=[⟨cN,0⟩]
 f:w.AK=[⟨#[102]⟩]
 t:∀s,T s->s∈w.AA
 n:w.AA.length<=4
structure GW (T:AB9->Prop) (g:A9):Prop where
 w:WF T g.w
 l:g.locals=Zs
theorem Me{w:AD}(h:w.Cells=LU)(s:AB9):Bj w s=Bj W9 s:=by
 unfold Bj;have key:∀n i,Bj.AZ s w n i=Bj.AZ s W9 n i:=by
  intro n;induction n with
  |zero=>exactλ_=>rfl
  |succ n ih=>intro i;unfold Bj.AZ Bj.L1;rw[h,show W9.Cells=LU from rfl];simp_all
 grind
theorem bE{a:Type}{l:List a}{i:Int}{x:a}(h:gt l i=some x):0<=i/\i<l.length:=by unfold gt at h;grind
theorem Ix{i n:Int}(h:0<=i/\i<n):Db i n=some true:=by unfold Db Db.J1;simp_all
theorem o7{w:AD}{x:Ac}(h:x.Op∈[(1:Int),2,5,10,17,18,19,20]):AM w x=some true:=by simp only[ABH,ABa,ABU]at h;rcases h with h|h|h|h|h|h|h|h<;>simp[AM,AM.J3,AM.J5,AM.J7,AM.J8,h]
theorem obj4{w:AD}{x:Ac}(h:x.Op=4)(hn:6<=x.N/\x.N<=18):AM w x=some true:=by simp[AM,AM.J3,AM.J5,AM.J7,AM.J8,AM.QZ,h,hn.1,hn.2]
theorem obj6{w:AD}{x:Ac}{y:DL}(h:x.Op=6)(a:gt w.Cells x.B=some y)(b:y.Bw=0):AM w x=some true:=by simp[AM,AM.J1,h,Ix (bE a),a,b]
theorem obj8{w:AD}{x:Ac}{y:DL}(h:x.Op=8)(a:gt w.Cells x.A=some y)(b:y.Bw=0):AM w x=some true:=by simp[AM,AM.J2,h,Ix (bE a),a,b]
theorem gQ{w:AD}{b n:Int}{y:DL}(a:gt w.Cells b=some y)(hi:y.Index=0)(c:y.Bw≠0)(hn:y.Bw=n):E3 w b n=some true:=by subst hn;simp[E3,E3.J1,Ix (bE a),a,hi,c]
theorem obj7{w:AD}{x:Ac}{y:DL}(h:x.Op=7)(b:gt w.Cells x.B=some y)(hi:y.Index=0)(a:y.Bw≠0)(hn:y.Bw=x.N):AM w x=some true:=by simp[AM,h,gQ b hi a hn]
theorem obj9{w:AD}{x:Ac}{y:DL}(h:x.Op=9)(b:gt w.Cells x.A=some y)(hi:y.Index=0)(a:y.Bw≠0)(hn:y.Bw=x.N):AM w x=some true:=by simp[AM,h,gQ b hi a hn]
theorem objM{w:AD}{x:Ac}{y:Ia}(h:x.Op=11\/x.Op=12)(a:gt w.AE x.A=some y)(b:y.RW=false):AM w x=some true:=by rcases h with h|h<;>simp[AM,AM.J3,AM.J4,h,Ix (bE a),a,b]
theorem objR{w:AD}{x:Ac}{y:Ia}(h:x.Op=13\/x.Op=14\/x.Op=15\/x.Op=16)(a:gt w.AE x.A=some y)(b:y.RW=true):AM w x=some true:=by rcases h with h|h|h|h<;>simp[AM,AM.J3,AM.J5,AM.J6,h,Ix (bE a),a,b]
theorem objC{w:AD}{x:Ac}(h:x.Op=21\/x.Op=22\/x.Op=23)(a:0<=x.A/\x.A<w.Af.length):AM w x=some true:=by rcases h with h|h|h<;>simp[AM,AM.J3,AM.J5,AM.J7,h,Ix a]
theorem objT{w:AD}{x:Ac}(h:x.Op=24\/x.Op=25)(a:0<=x.A/\x.A<w.AA.length):AM w x=some true:=by rcases h with h|h<;>simp[AM,AM.J3,AM.J5,AM.J7,AM.J8,h,Ix a]
theorem obj26{w:AD}{x:Ac}(h:x.Op=26)(a:0<=x.A/\x.A<w.AK.length):AM w x=some true:=by simp[AM,AM.J3,AM.J5,AM.J7,AM.J8,h,Ix a]
theorem obj27{w:AD}{x:Ac}(h:x.Op=27)(a:0<=x.B/\x.B<w.AK.length):AM w x=some true:=by simp[AM,AM.J3,AM.J5,AM.J7,AM.J8,h,Ix a]
theorem rg0{i:Ac}(h:i.Op=5\/11<=i.Op/\i.Op<=25\/i.Op=28):rg i=[]:=by have n:∀k:Int,i.Op≠k->(i.Op==k)=false:=λk h=>ABv.2 h;unfold rg Aa Aa.J1 Aa.J2 Aa.J3;simp[n 1 (by omega),n 2 (by omega),n 3 (by omega),n 4 (by omega),n 6 (by omega),n 7 (by omega),n 8 (by omega),n 9 (by omega),n 10 (by omega),n 26 (by omega),n 27 (by omega)]
def NameF(x:AB9):Prop:=(∃e,CP Zs x=some e/\0<=e/\e<2)\/(∃e,CP Zs x=some e/\e<0)/\∃c y,Bj W9 x=some c/\gt LU c=some y/\y.Bw=0
theorem name_f{x:AB9}(h:x∈vN):NameF x:=by
 unfold vN at h;simp only[ABH,ABa,ABU]at h;rcases h with rfl|rfl|rfl|rfl|rfl
 . exact .inl ⟨0,by decide +kernel,by omega,by omega⟩
 . exact .inl ⟨1,by decide +kernel,by omega,by omega⟩
 . exact .inr ⟨⟨-1,by decide +kernel,by omega⟩,0,_,by decide +kernel,rfl,rfl⟩
 . exact .inr ⟨⟨-1,by decide +kernel,by omega⟩,1,_,by decide +kernel,rfl,rfl⟩
 . exact .inr ⟨⟨-1,by decide +kernel,by omega⟩,2,_,by decide +kernel,rfl,rfl⟩
theorem q_at:Bj W9 qS=some 3:=by decide +kernel
structure GV (g r:A9) (lo hi:Int):Prop where
 w:r.w=g.w
 l:r.locals=g.locals
 n:g.out.length<=r.out.length
 p:∀i,i<g.out.length->r.out[i]? =g.out[i]?
 s:SG g.w lo hi r.out g.out.length r.out.length r.out.length
section
variable{T:AB9->Prop}{g h r:A9}{lo hi lo' hi':Int}
theorem GV.refl:GV g g lo hi:=⟨rfl,rfl,AA8 _,λ_ _=>rfl,SG.nil (AA8 _)⟩
theorem GV.trans(a:GV g h lo hi)(b:GV h r lo hi):GV g r lo hi:=by
 have c:=a.n;have e:=b.n;refine⟨b.w.trans a.w,b.l.trans a.l,by omega,λi hi=>(b.p i (by omega)).trans (a.p i hi),(a.s.frame (l':=r.out) (d:=r.out.length) (λi _ hi=>(b.p i hi).symm) (by omega) (by omega) (by omega) (by omega)).app ?_⟩
 have:=b.s;rw[a.w]at this;exact this
theorem GV.mono(a:GV g r lo hi)(b:lo'<=lo)(c:hi<=hi'):GV g r lo' hi':=⟨a.w,a.l,a.n,a.p,a.s.mono b c (AA8 _)⟩
theorem GV.site(a:GV g r lo hi)(s n:Int):GV g ⟨r.w,r.locals,r.out,s,n⟩ lo hi:=⟨a.w,a.l,a.n,a.p,a.s⟩
theorem GW.next(a:GW T g)(b:GV g r lo hi):GW T r:=⟨by rw[b.w];exact a.w,b.l.trans a.l⟩
theorem GW.site(a:GW T g)(s n:Int):GW T ⟨g.w,g.locals,g.out,s,n⟩:=⟨a.w,a.l⟩
theorem put_eq(i:Ac):MS (A6 g i) λr=>r=⟨g.w,g.locals,g.out++[⟨i.Op,i.A,i.B,i.C,i.N,g.site⟩],g.site,g.next⟩:=by unfold A6;exact pC λ_=>pR rfl
theorem GV.put{x:Ac}{s n:Int}(b:LV g.w lo hi (g.out.length+1) x)(a:x.Op≠5):GV g ⟨g.w,g.locals,g.out++[x],s,n⟩ lo hi:=by refine⟨rfl,rfl,by simp,λi hi=>by grind,?_⟩;simp only[ABK,ABe,ABo];exact SG.one (by simp) b a
abbrev GK(g r:A9)(lo hi:Int):Prop:=GV g r lo hi/\r.site=g.site/\r.next=g.next
theorem rU{i:Ac}(b:LV g.w lo hi (g.out.length+1) ⟨i.Op,i.A,i.B,i.C,i.N,g.site⟩)(a:i.Op≠5):MS (A6 g i) λr=>GK g r lo hi:=
 pM (put_eq i) λ_ e=>by subst e;exact⟨GV.put b a,rfl,rfl⟩
theorem Ii{i:Ac}(b:LV g.w lo hi (g.out.length+1) ⟨i.Op,i.A,i.B,i.C,i.N,g.site⟩)(a:i.Op≠5):MS ((A6 g i).bind λv=>some v) λr=>GK g r lo hi:=pB (rU b a) λ_ h=>pR h
theorem GK.trans(a:GK g h lo hi)(b:GK h r lo hi):GK g r lo hi:=⟨a.1.trans b.1,b.2.1.trans a.2.1,b.2.2.trans a.2.2⟩
theorem eL{x r:Int}(h:0<=r/\r<32):∀y∈[r],0<=y/\y<32:=λy a=>by simp_all
theorem x7(d:Nat):∀(n:Nat)(g:A9)(e:BB)(r:Int),Tp d e->GW T g->(lo<=g.site/\g.site<hi)->0<=r/\r+d<=32->MS (Cm n g e r) λv=>GK g v lo hi:=by
 induction d with
 |zero=>exactλn g e r h=>h.elim
 |succ d ih=>
  intro n g e r E i m K;cases n with
  |zero=>exact pN
  |succ n=>
  have F:0<=r/\r<32:=by omega
  show MS (Gf (Cm n) g e r) _;unfold Gf;rcases E with⟨f,_⟩|⟨f,_,hn⟩|⟨f,C,a,q,p⟩|⟨f,a,b,q,p,D⟩
  . simp only[f];exact pI (λ_=>Ii ⟨by simp,o7 (by simp),by rw[rg1 rfl];simp_all,m,by simp,by simp⟩ (by simp)) λh=>by cases h
  . simp only[f];refine pI (λh=>by cases h) λ_=>pI (λ_=> ?_) λh=>(by cases h);rw[i.l];rcases name_f hn with⟨k,t,I,L⟩|⟨⟨k,t,I⟩,c,y,x,z,B⟩
    . exact pE t (pD (λ_=>Ii ⟨by simp,o7 (by simp),by rw[rg2 rfl];grind,m,by simp,by simp⟩ (by simp)) λh=>by omega)
    . refine pE t (pD (λh=>by omega) λ_=>pE ((Me i.w.c _).trans x) (Ii ⟨by simp,obj6 rfl (y:=y) (by rw[i.w.c];exact z) B,by rw[rg6 rfl];simp_all,m,by simp,by simp⟩ (by simp)))
  . simp only[f,q];refine pI (λh=>by cases h) λ_=>pI (λh=>by cases h) λ_=>pI (λ_=>pE (y:=a) rfl ?_) λh=>(by cases h);refine pB (ih n g a r p i m (by omega)) λv o=> ?_;have j:=i.next o.1;rw[C];refine pE ((Me j.w.c _).trans q_at) (pE (y:=⟨⟨#[113]⟩,0,2,false,0⟩) (by rw[j.w.c];rfl) ?_);exact pM (Ii ⟨by simp,obj7 rfl (y:=⟨⟨#[113]⟩,0,2,false,0⟩) (by rw[j.w.c];rfl) rfl (by simp) rfl,by rw[rg7 rfl];simp_all,by simp_all,by simp,by simp⟩ (by simp)) λ_ h=>o.trans h
  . have M:e.Op≠1:=λh=>(by simp_all);have N:e.Op≠2:=λh=>(by simp_all);have O:e.Op≠3:=λh=>(by simp_all);have J:6<=e.Op/\e.Op<=18:=(by simp only[ABH,ABa,ABU]at f;omega);rw[AAp (by simp_all),AAp (by simp_all),AAp (by simp_all),q];have H:A1 (r+1)=r+1:=CH (by omega) (by omega);refine pI (λh=>by cases h) λ_=>pE (y:=a) rfl (pB (ih n g a r p i m (by omega)) λv o=>pE (y:=b) rfl (pB (ih n v b _ D (i.next o.1) (by omega) (by omega)) λu G=> ?_));rw[H];have s:=o.trans G;by_cases hd:d=0
    . subst hd;exact p.elim
    exact pM (Ii ⟨by simp,obj4 rfl J,by rw[rg4 rfl];grind,by simp_all,by simp,by simp⟩ (by simp)) λ_ h=>s.trans h
theorem UW{e:BB}(a:Tp 2 e)(b:GW T g)(c:lo<=g.site/\g.site<hi){r:Int}(d:0<=r/\r<=30):MS (Cm BP g e r) λv=>GK g v lo hi:=x7 2 _ g e r a b c (by omega)
theorem mQ(f:GW T g)(i:lo<=g.site/\g.site<hi){k:Nat}{s:AQ}(m:IY T (k+1) s)(n:s.Op=1):MS (Fv g s) λr=>GK g r lo hi:=by
 have o:Tp 2 s.Expr:=m.2.2.1.resolve_right λh=>h.1 (by simp[n]);have q:(g.locals.length:Int)=2:=by rw[f.l];rfl
 unfold Fv;rw[q];rcases m.2.1 with h|⟨_,t,a,h,p⟩
 . rw[h];refine pI (λh=>by cases h) λ_=>pB (UW o f i (by omega)) λv b=> ?_;have d:=f.next b.1;have j:lo<=v.site/\v.site<hi:=(by rw[b.2.1];exact i);rw[d.l];rcases name_f (m.2.2.2.2.2.2.2.2.2.1 n h)with⟨c,k1,k2,k3⟩|⟨⟨c,k1,k2⟩,c,y,c1,c2,c3⟩
   . exact pE k1 (pD (λ_=>pM (Ii ⟨by simp,o7 (by simp),by rw[rg2 rfl];grind,j,by simp,by simp⟩ (by simp)) λ_ h=>b.trans h) λh=>by omega)
   . refine pE k1 (pD (λh=>by omega) λ_=>pE ((Me d.w.c _).trans c1) (pM (Ii ⟨by simp,obj8 rfl (y:=y) (by rw[d.w.c];exact c2) c3,by rw[rg8 rfl];simp_all,j,by simp,by simp⟩ (by simp)) λ_ h=>b.trans h))
 . rw[h];refine pI (λ_=>pE (y:=a) rfl ?_) λh=>(by cases h);rw[show A1 (2+1)=3 from rfl];refine pB (UW p f i (by omega)) λv b=>pB (UW o (f.next b.1) (by rw[b.2.1];exact i) (by omega)) λu x=> ?_;have e:=b.trans x;have d:=f.next e.1;have j:lo<=u.site/\u.site<hi:=(by rw[e.2.1];exact i);rw[t];refine pE ((Me d.w.c _).trans q_at) (pE (y:=⟨⟨#[113]⟩,0,2,false,0⟩) (by rw[d.w.c];rfl) ?_);exact pM (Ii ⟨by simp,obj9 rfl (y:=⟨⟨#[113]⟩,0,2,false,0⟩) (by rw[d.w.c];rfl) rfl (by simp) rfl,by rw[rg9 rfl];simp_all,j,by simp,by simp⟩ (by simp)) λ_ h=>e.trans h
end
theorem cells_in{l:List DL}(r:l.length<=12){L:List AB9->Int->AB8 (List AB9×Bool)}{i:Nat}{names:List AB9}{x:DL}{v:List AB9×Bool}(q:1<=x.Bw/\x.Bw<=4)(hi:(i:Int)+x.Bw<=l.length)(p:v.2=true):
 ∀(n t:Nat)(d:DL),d.Bw=x.Bw->(t:Int)<=x.Bw->AY.Cr L i l names x n d t=some v->
 (∀k:Nat,t<=k->(k:Int)<x.Bw->∃c,l[i+k]? =some c/\c.Index=k/\c.Bw=x.Bw)/\L (names++[x.Name]) (i+x.Bw)=some v:=by
 intro n;induction n with
 |zero=>intro t d _ _ h;cases h
 |succ n ih=>
  intro t d g s h;unfold AY.Cr AY.L2 at h;by_cases j:(t:Int)<x.Bw
  . rw[BC j,CH (n:=(i:Int)+t) (by omega) (by omega),show(i:Int)+t=((i+t:Nat):Int)from by omega,CZ (by omega),AAg]at h;split at h
    . cases h;cases p
    . rename_i f;rw[Ai (by omega)]at h;obtain⟨a,b⟩:=ih (t+1) ⟨d.Name,t,d.Bw,d.Gl,d.Init⟩ g (by omega) h;refine⟨λk o m=> ?_,b⟩;by_cases e:k=t
      . subst e;refine⟨l[i+k],AAo (by omega),?_⟩;simp only[ABR,Bool.not_eq_false,AAi,AAw]at f;exact⟨f.2.1,f.2.2.1.trans g⟩
      . exact a k (by omega) m
  . rw[Ad j]at h;unfold AY.J2 at h;rw[g,CH (by omega) (by omega)]at h;exact⟨λk o m=>by omega,h⟩
theorem uF{l:List DL}(E:l.length<=12){v:List AB9×Bool}(m:v.2=true):∀(n i:Nat)(names:List AB9),names.length<=i->i<=l.length->AY.AZ l n names i=some v->
 ∀(b:Nat)(c:DL),i<=b->l[b]? =some c->c.Index=0->c.Bw≠0->(1<=c.Bw/\c.Bw<=4)/\∀k:Nat,(k:Int)<c.Bw->∃d,l[b+k]? =some d/\d.Bw≠0:=by
 intro n;induction n with
 |zero=>intro i names _ _ h;cases h
 |succ n ih=>
  intro i names hn C h b c K f s g;have B:=(AAj.1 f).1;unfold AY.AZ AY.L1 at h;have hi:i<l.length:=by omega
  rw[BC (by omega),CZ hi,AAg,BO (by omega)]at h;have o:l[i]? =some l[i]:=AAo hi;generalize l[i]=x at h o;by_cases e:x.Bw=0
  . rw[AAs (by simpa using e)]at h;split at h
    . cases h;cases m
    . rw[Ai (by omega)]at h;by_cases q:b=i
      . subst q;rw[o]at f;cases f;exact absurd e g
      . exact ih (i+1) _ (by simp;omega) (by omega) h b c (by omega) f s g
  . rw[AAp (by simpa using e)]at h;have J:∀t,AY.J1 (AY.AZ l n) i l names x t=some v->t=false/\AY.Cr (AY.AZ l n) i l names x BP x 0=some v:=by
     intro t j;unfold AY.J1 at j;cases t with
     |true=>cases j;cases m
     |false=>exact⟨rfl,j⟩
    have key:(1<=x.Bw/\x.Bw<=4)/\(i:Int)+x.Bw<=l.length/\AY.Cr (AY.AZ l n) i l names x BP x 0=some v:=by
     rw[CH (n:=(l.length:Int)-i) (by omega) (by omega)]at h;split at h
     . exact absurd (J _ h).1 (by simp)
     . rename_i w;split at h
       . exact absurd (J _ h).1 (by simp)
       . rename_i y;split at h
         . exact absurd (J _ h).1 (by simp)
         . obtain⟨H,I⟩:=J _ h;simp at w y H;exact⟨by omega,by omega,I⟩
    obtain⟨u,F,G⟩:=key;obtain⟨a,r⟩:=cells_in E u F m BP 0 x rfl (by omega) G;by_cases q:(b:Int)<i+x.Bw
    . obtain⟨d,d1,z,p⟩:=a (b-i) (by omega) (by omega);rw[show i+(b-i)=b from by omega,f]at d1;cases d1;have:b=i:=(by omega);subst this;rw[o]at f;cases f;refine⟨u,λk D=> ?_⟩;obtain⟨d,d1,z,p⟩:=a k (by omega) D;exact⟨d,d1,by rw[p];exact g⟩
    . rw[show(i:Int)+x.Bw=((i+x.Bw.toNat:Nat):Int)from by omega]at r;exact ih (i+x.Bw.toNat) _ (by simp;omega) (by omega) r b c (by omega) f s g
theorem tF{w:AD}(a:Cs w=true){b n:Int}(h:Rn w b n):(1<=n/\n<=4)/\∀k,0<=k->k<n->∃d,gt w.Cells (b+k)=some d/\d.Bw≠0:=by
 have o:=(DF a).c;obtain⟨x,e,i,p,hn⟩:=h;have t:0<=b:=by
  unfold gt at e;split at e
  . assumption
  . cases e
 obtain⟨m,rfl⟩:∃m:Nat,b=m:=⟨b.toNat,by omega⟩;rw[JR]at e;have l:∃v,AY w.Cells=some v/\v.2=true:=by
  unfold Cs at a;cases hv:AY w.Cells with
  |none=>simp[hv]at a
  |some v=>simp[hv]at a;exact⟨v,rfl,a.2.1.1.1⟩
 obtain⟨v,r,s⟩:=l;obtain⟨f,g⟩:=uF o s BP 0 [] (by simp) (by omega) r m x (by omega) e i p;rw[hn]at f g;refine⟨f,λk u q=> ?_⟩;obtain⟨j,rfl⟩:∃j:Nat,k=j:=⟨k.toNat,by omega⟩;rw[show(m:Int)+j=((m+j:Nat):Int)from by omega,JR];exact g j q
structure FT (c:BT) (s:Aj):Prop where
 v:VC c
 f:HM c.World s.Sync=true
 c':s.Cells.length=c.World.Cells.length
 u:s.AK.length=c.World.AK.length
 n:s.AA.length=c.AA.length
 t:∀(i:Nat) x y,s.AA[i]? =some x->c.AA[i]? =some y->(0<=x.PC/\x.PC<y.Bq.length)/\(x.Ch.length:Int)=y.Ch/\(x.Cc.length:Int)=y.Ch
theorem fits_tot{c:BT}(l:CK c)(s:Aj):B7 (Ey c s) λb=>b=true->FT c s:=by
 have N:∀{u:Prop},B7 (some false) λb:Bool=>b=true->u:=tR λh=>by cases h
 have hn:=l.n;have j1:∀b,(b=false->VC c/\HM c.World s.Sync=true/\s.Cells.length=c.World.Cells.length/\s.AK.length=c.World.AK.length/\s.AA.length=c.AA.length)->B7 (Ey.J1 c s b) λb=>b=true->FT c s:=by
  intro b p;unfold Ey.J1;refine tI (λ_=>N) λm=> ?_;obtain⟨d,e,f,g,o⟩:=p m;refine QO c.AA.length (λi (_:Unit)=>∀(j:Nat) x y,j<i->s.AA[j]? =some x->c.AA[j]? =some y->(0<=x.PC/\x.PC<y.Bq.length)/\(x.Ch.length:Int)=y.Ch/\(x.Cc.length:Int)=y.Ch) (s0:=()) (F:=λn _ i=>Ey.AZ c s n i) (by omega) (λj _ _ h=>by omega) λn i _ hi q k=> ?_;unfold Ey.AZ Ey.L1 Ey.J2 Ey.J3;refine tD (λ_=>cL (by omega) (tD (λ_=>tI (λ_=>N) λh=>by cases h) λz=>cL (by omega) (tD (λ_=>tI (λ_=>N) λh=>by cases h) λB=>tI (λ_=>tI (λ_=>N) λh=>by cases h) λC=>tI (λ_=>N) λD=>k () (by omega) ?_))) λ_=>tR λ_=>⟨d,e,f,g,o,λj x y r t=>q j x y ?_ r t⟩
  . grind
  . grind
 unfold Ey;refine tB (Qb l) λv a=>tI (λ_=>j1 _ λh=>by cases h) λh=> ?_;have a:=a (by grind);refine tE (NP _ (DF a.w) _) (tI (λ_=>j1 _ λh=>by cases h) λd=>tI (λ_=>j1 _ λh=>by cases h) λe=>tI (λ_=>j1 _ λh=>by cases h) λf=>j1 _ λg=>⟨a,by simp_all,?_,?_,?_⟩)
 all_goals grind
theorem aE(i n:Int):B7 (Gy i n) λv=>1<=n/\n<=4->0<=v/\v<n:=by
 unfold Gy Gy.J1;refine tD (λ_=>tR (by omega)) λh=>tC (by omega) (tD (λa=>tR λb=> ?_) λa=>tR λb=> ?_)
 . have:=Int.lt_tmod_of_pos i (show 0<n by omega);rw[CH (by omega) (by omega)];omega
 . have:=Int.tmod_lt_of_pos i (show 0<n by omega);omega
def kindL:List Int:=[3,3,4,4,5,6,7,8,9,10,11,12,13,14,15,16,18,19,20,21,22,23,2]
def KO(o k:Int):Prop:=((k=3->o=6\/o=7)/\(k=4->o=8\/o=9)/\(k=5->o=10)/\(k=22->o=26)/\(k=23->o=27)/\(k=2↔o=28)/\(k=16->o=21)/\k≠1/\k≠17)/\(o=7->k=3)/\(o=9->k=4)/\(o=10->k=5)/\(o=8->k=4)/\(o=26->k=22)
instance  (o k:Int):Decidable (KO o k):=by unfold KO;infer_instance
theorem jW:∀n:Fin 23,KO ((n.1:Int)+6) kindL[n.1]:=by decide
theorem kind_tot{o:Int}(h:1<=o/\o<=28):B7 (II o) λk=>k=0\/KO o k:=by
 unfold II II.J1;refine tD (λ_=>tI (λ_=>tR (.inl rfl)) λh=>by cases h) λb=>tD (λh=>by omega) λ_=> ?_;rw[CH (by omega) (by omega)];obtain⟨n,hn⟩:∃n:Nat,o-6=n:=⟨(o-6).toNat,by omega⟩;rw[hn];have a:n<23:=by omega
 refine cL (l:=kindL) a (tR (.inr ?_))
 have:=jW ⟨n,a⟩;grind
theorem o9{i:Ac}{t:AL}(d:i.Op=7\/i.Op=9->0<=i.C/\i.C<t.Ch.length):
 B7 (FQ i t) λo=>(i.Op=7->∃v,o=A1 (i.B+v)/\(1<=i.N/\i.N<=4->0<=v/\v<i.N))/\(i.Op=9->∃v,o=A1 (i.A+v)/\(1<=i.N/\i.N<=4->0<=v/\v<i.N)):=by
 have T:∀{o:AB8 Int},TT o->i.Op≠7->i.Op≠9->B7 o λo=>(i.Op=7->∃v,o=A1 (i.B+v)/\(1<=i.N/\i.N<=4->0<=v/\v<i.N))/\(i.Op=9->∃v,o=A1 (i.A+v)/\(1<=i.N/\i.N<=4->0<=v/\v<i.N)):=λh a b=>tM h λ_ _=>⟨λh=>absurd h a,λh=>absurd h b⟩;have j1:∀b,(b=true->i.Op≠7/\i.Op≠9)->B7 (FQ.J1 i t b) λo=>(i.Op=7->∃v,o=A1 (i.B+v)/\(1<=i.N/\i.N<=4->0<=v/\v<i.N))/\(i.Op=9->∃v,o=A1 (i.A+v)/\(1<=i.N/\i.N<=4->0<=v/\v<i.N)):=by
  intro b e;unfold FQ.J1 FQ.J2;refine tI (λh=>T (tR trivial) (e h).1 (e h).2) λ_=>tI (λh=>tG (d (.inl (eq_of_beq h))) λ_ _=>tB (aE _ _) λv c=>tR ⟨λ_=>⟨v,rfl,c⟩,λf=> ?_⟩) λg=>tI (λh=>tG (d (.inr (eq_of_beq h))) λ_ _=>tB (aE _ _) λv c=>tR ⟨λf=> ?_,λ_=>⟨v,rfl,c⟩⟩) λj=>T ?_ (by simp_all) (by simp_all)
  . simp_all
  . simp_all
  . repeat' first|exact tR trivial|refine tI (λ_=> ?_) λ_=> ?_
 unfold FQ;grind
def qE(e:AG):Prop:=e.Du.length<=100000/\e.DR.length<=100000
structure PI (w:AD) (x:AL) (y:Az) (z:Ac) (q:AH) (e:AG):Prop where
 a:e.Kind=3\/e.Kind=23\/e.Kind=5->0<=z.A/\z.A<y.Ch
 b:e.Kind=4\/e.Kind=22->0<=z.B/\z.B<y.Ch
 d:e.Du=[]\/e.Du∈x.Cc/\(e.Kind=5\/(e.Kind=3\/e.Kind=4)/\(ix w.Cells e.Obj).Bw≠0)
 r:e.DR=[]\/e.DR∈x.Cc/\(e.Kind=4\/e.Kind=22)
 s:e.Kind=1/\e.Site= -1\/(q.Status=4/\e.Kind=17\/q.Status=2/\(e.Kind=2↔z.Op=28)/\e.Kind≠1/\e.Kind≠17/\(e.Kind=16->z.Op=21))/\e.Site=z.Site
 j:e.Kind=5->z.Op=10
structure PE (c:BT) (s:Aj) (th:Int) (e:AG):Prop where
 f:FT c s
 t:0<=th/\th<c.AA.length
 l:qE e
 h:e.Thread=th
 i:∀x y z q,s.AA[th.toNat]? =some x->c.AA[th.toNat]? =some y->y.Bq[x.PC.toNat]? =some z->s.Sync.AA[th.toNat]? =some q->PI c.World x y z q e
theorem qZ{a:Type}[Inhabited a]{l:List a}{i:Int}{x:a}(h:gt l i=some x):ix l i=x:=by
 unfold gt at h;split at h
 . unfold ix;rw[h];rfl
 . cases h
theorem fY{E:Nat}{c:BT}(hc:CK c){s:Aj}(hs:∀t∈s.AA,TH E t)(hE:E<=100000)(th:Int):B7 (Cg c s th) λr=>r.2=true->PE c s th r.1:=by
 have N:∀{x} {P:AG×Bool->Prop},B7 (some (x,false)) λr:AG×Bool=>r.2=true->P r:=tR λh=>by cases h
 have j1:∀b,(b=false->FT c s/\0<=th/\th<c.AA.length)->B7 (Cg.J1 c s th b) λr=>r.2=true->PE c s th r.1:=by
  intro b L;unfold Cg.J1;refine tI (λ_=>N) λh0=> ?_;obtain⟨G,ht⟩:=L h0;obtain⟨_,_,l3⟩:=Ek G.f;have hn:=G.n;have hn2:=G.v.n;obtain⟨x,x1,x2,x3⟩:=IG (l:=s.AA) (i:=th) (by omega);obtain⟨y,y1,y2,y3⟩:=IG (l:=c.AA) (i:=th) (by omega);obtain⟨p1,p2,p3⟩:=G.t _ x y x2 y2;obtain⟨z,z1,z2,z3⟩:=IG (l:=y.Bq) (i:=x.PC) (by omega);obtain⟨q,q1,q2,q3⟩:=IG (l:=s.Sync.AA) (i:=th) (by omega);have S:=(G.v.t _ y y2).i z z3;have ho:=S.o;have p:=S.g;have W:=hs x x3;have J:∀q∈x.Cc,q.length<=100000:=λq u=>by have:=(W.b q u).len W.e.1;have:=W.e.2;omega
  refine tE x1 (tE y1 (tE z1 (tE q1 ?_)));have I:∀e:AG,qE e->e.Thread=th->PI c.World x y z q e->PE c s th e:=by intro e j m K;refine⟨G,ht,j,m,λx' y' z' q' LS O Q M=> ?_⟩;rw[x2]at LS;rw[y2]at O;rw[q2]at M;obtain rfl:=AAl LS;obtain rfl:=AAl O;obtain rfl:=AAl M;rw[z2]at Q;obtain rfl:=AAl Q;exact K
  refine tI (λ_=>tR λ_=>I _ ⟨by simp,by simp⟩ rfl ⟨by simp,by simp,.inl rfl,.inl rfl,.inl ⟨rfl,rfl⟩,by simp⟩) λ_=>tI (λh=>tR λ_=>I _ ⟨by simp,by simp⟩ rfl ⟨by simp,by simp,.inl rfl,.inl rfl,.inr ⟨.inl ⟨eq_of_beq h,rfl⟩,rfl⟩,by simp⟩) λ_=>tI (λT=> ?_) λ_=>N;have T:=eq_of_beq T;refine tB (kind_tot ho) λk V=> ?_;have hC:z.Op=7\/z.Op=9->0<=z.C/\z.C<y.Ch:=by
   rintro(h|h)
   . simp[rg7 h]at p;omega
   . simp[rg9 h]at p;omega
  have hB:z.Op=8\/z.Op=9\/z.Op=26->0<=z.B/\z.B<y.Ch:=by
   rintro(h|h|h)
   . simp[rg8 h]at p;omega
   . simp[rg9 h]at p;omega
   . simp[rg26 h]at p;omega
  have hA:z.Op=6\/z.Op=7\/z.Op=10\/z.Op=27->0<=z.A/\z.A<y.Ch:=by
   rintro(h|h|h|h)
   . simp[rg6 h]at p;omega
   . simp[rg7 h]at p;omega
   . simp[rg10 h]at p;omega
   . simp[rg27 h]at p;omega
  refine tB (o9 λh=>by omega) λo H=>tI (λ_=>N) λoN=> ?_;have V:=V.resolve_left (by simp_all);obtain⟨⟨a1,a2,a3,a4,a5,a6,a7,a8,a9⟩,b1,b2,b3,b4,b5⟩:=V;have U:z.Op=7\/z.Op=9->(k=3\/k=4)/\(ix c.World.Cells o).Bw≠0:=by
   have key:∀b v,Rn c.World b z.N->o=A1 (b+v)->(1<=z.N/\z.N<=4->0<=v/\v<z.N)->(ix c.World.Cells o).Bw≠0:=by
    intro b v j m K;obtain⟨n1,n2⟩:=tF G.v.w j;obtain⟨d,d1,d2⟩:=n2 v (K n1).1 (K n1).2;have hd:=d1;unfold gt at hd;split at hd
    . have:=(AAj.1 hd).1
      have:=(DF G.v.w).c;rw[m,CH (by omega) (by omega),qZ d1];exact d2
    . cases hd
   rintro(h|h)
   . obtain⟨v,v1,v2⟩:=H.1 h;exact⟨.inl (b1 h),key _ v (S.a.1 h) v1 v2⟩
   . obtain⟨v,v1,v2⟩:=H.2 h;exact⟨.inr (b2 h),key _ v (S.a.2 h) v1 v2⟩
  have mk:∀D F,(D=[]\/D∈x.Cc/\(k=5\/(k=3\/k=4)/\(ix c.World.Cells o).Bw≠0))->(F=[]\/F∈x.Cc/\(k=4\/k=22))->D.length<=100000->F.length<=100000->PE c s th ⟨th,k,o,0,z.Site,D,F⟩:=
   λD F j m K h4=>I _ ⟨K,h4⟩ rfl ⟨λh=>hA (by grind),λh=>hB (by grind),j,m,.inr ⟨.inr ⟨T,a6,a8,a9,a7⟩,rfl⟩,a3⟩
  have X:∀D,(D=[]\/D∈x.Cc/\(k=5\/(k=3\/k=4)/\(ix c.World.Cells o).Bw≠0))->D.length<=100000->B7 (Cg.J3 x z ⟨th,k,o,0,z.Site,D,[]⟩) λr=>r.2=true->PE c s th r.1:=by
   intro D j m;have Z:∀b,(b=true->z.Op=8\/z.Op=9\/z.Op=26)->B7 (Cg.J4 ⟨th,k,o,0,z.Site,D,[]⟩ x z b) λr=>r.2=true->PE c s th r.1:=by
    intro b L;unfold Cg.J4 Cg.J5;refine tI (λh=>tG (by simp_all) λq u=> ?_) λ_=>tR λ_=>mk _ _ j (.inl rfl) m (by simp);have R:=J q u;refine tC (Bh (by simp;omega)) (tR λ_=>mk _ _ j (.inr ⟨by simp_all,?_⟩) m (by simp_all))
    have:=L h;omega
   unfold Cg.J3;exact tI (λh=>Z _ λ_=>.inl (eq_of_beq h)) λ_=>tI (λh=>Z _ λ_=>.inr (.inl (eq_of_beq h))) λ_=>Z _ λh=>.inr (.inr (eq_of_beq h))
  have j2:∀b,(b=true->z.Op=7\/z.Op=9)->B7 (Cg.J2 th k o x z b) λr=>r.2=true->PE c s th r.1:=by intro b h;unfold Cg.J2;refine tI (λL=>tG (by simp_all) λq u=> ?_) λ_=>X _ (.inl rfl) (by simp);have R:=J q u;exact tC (Bh (by omega)) (X _ (.inr ⟨u,.inr (U (h L))⟩) R)
  refine tI (λh=>tG (by simp_all) λq u=> ?_) λ_=>tI (λh=>j2 _ λ_=>.inl (eq_of_beq h)) λ_=>j2 _ λh=>.inr (eq_of_beq h);have R:=J q u;exact tC (Bh (by omega)) (X _ (.inr ⟨u,.inl (b3 (eq_of_beq h))⟩) R)
 unfold Cg;refine tB (fits_tot hc s) λv hv=>tI (λ_=>j1 _ λh=>by cases h) λh=>tD (λ_=>j1 _ λh=>by cases h) λj=>j1 _ λm=>⟨hv (by grind),by omega,?_⟩;simp_all
def SI(N:Nat)(s:Aj):Prop:=RB N s.Sync/\∀t∈s.AA,TH N t
theorem TH.mono{E F:Nat}{t:AL}(h:TH E t)(a:E<=F):TH F t:=⟨h.r,h.t,h.b,h.e.1,by have:=h.e.2;omega⟩
theorem zH{E:Nat}{s:Aj}(h:∀t∈s.AA,TH E t)(b:E<=100000)(c:Vp s.Sync)(e:s.Cells.length<=1000)(g:s.AK.length<=1000)(f:s.AA.length<=1000):F6 s=some s:=by
 have key:B7 (F6 s) λr=>r=s:=by unfold F6;refine tE (qA _ c) (tC (Bh (by omega)) (tC (Bh (by omega)) (QO s.AA.length (λi o=>o=⟨s.Sync,s.Cells,s.AK,s.AA.take i⟩) (F:=λn o i=>F6.AZ s n o i) (by omega) rfl λn i o hi d k=> ?_)));subst d;unfold F6.AZ F6.L1 F6.J1;refine tD (λ_=>cL (by omega) ?_) λ_=>tR (by rw[ABM (by omega)]);exact tE (fU (h _ (AA0 (by omega))) b) (tC (Bh (by simp;omega)) (k _ (by omega) (by simp_all)))
 obtain⟨r,a,rfl⟩:=key;exact a
structure SR (c:BT) (s:Aj) (ch:C6) (s':Aj) (e:AG):Prop where
 p:PE c s ch.Thread e
 en:CT c.World s.Sync ch.Thread e.Kind e.Obj=true
 sy:s'.Sync=(DX c.World s.Sync ch.Thread e.Kind e.Obj ch.Uh).1
 va:(e.Kind=3->gt s.Cells e.Obj=some e.Value)/\(e.Kind=23->gt s.AK e.Obj=some e.Value)/\(e.Kind=5->e.Value=0\/e.Value=1)/\(e.Kind≠3->e.Kind≠23->e.Kind≠5->e.Kind≠4->e.Kind≠22->e.Value=(DX c.World s.Sync ch.Thread e.Kind e.Obj ch.Uh).2)
 ce:s'.Cells=if e.Kind=4 then s.Cells.set e.Obj.toNat e.Value else s.Cells
 fu:s'.AK=if e.Kind=22 then s.AK.set e.Obj.toNat e.Value else s.AK
 th:∃x x',s.AA[ch.Thread.toNat]? =some x/\s'.AA=s.AA.set ch.Thread.toNat x'/\(e.Kind=16->x'.PC=x.PC)/\(x'=QY\/x'.AF=x.AF+1/\∀l∈x'.Cc,∀k∈l,(∃m∈x.Cc,k∈m)\/k=x.AF/\(e.Kind=3\/e.Kind=23))
theorem sU{E:Nat}{c:BT}(hc:CK c){s:Aj}(O:SI E s)(hE:E<=10000)(g:C6):B7 (DJ c s g) λr=>r.2.2=true->(SI (E+1) r.1/\qE r.2.1)/\SR c s g r.1 r.2.1:=by
 obtain⟨hr,O⟩:=O;have N:∀{x y} {P:Aj×AG×Bool->Prop},B7 (some (x,y,false)) λr:Aj×AG×Bool=>r.2.2=true->P r:=tR λh=>by cases h
 unfold DJ;refine tB (fY hc O (by omega) g.Thread) λv hv=>tI (λ_=>N) λh=> ?_;have hv:=hv (by simpa using h);obtain⟨D,ht,J,hh,hi⟩:=hv;have S:=DF D.v.w;have w1:=S.c;have w2:=S.f;have w3:=S.t;have c1:=D.c';have c2:=D.u;have c3:=D.n;have c4:=D.v.n;refine tE (P9 _ S _ (hr.mono (by omega)) _ _ _ _) (tI (λ_=>N) λB=> ?_);have M:CT c.World s.Sync g.Thread v.1.Kind v.1.Obj=true:=by
  cases I:CT c.World s.Sync g.Thread v.1.Kind v.1.Obj with
  |true=>rfl
  |false=>simp[OB,I]at B
 have Z:CF c.World v.1.Kind v.1.Obj=true:=by have M:=M;unfold CT at M;simp only[AAi]at M;exact M.2.2.1
 have hap:OB c.World s.Sync g.Thread v.1.Kind v.1.Obj g.Uh=((DX c.World s.Sync g.Thread v.1.Kind v.1.Obj g.Uh).1,(DX c.World s.Sync g.Thread v.1.Kind v.1.Obj g.Uh).2,true):=by simp[OB,M]
 rw[hap];have hR:=hr.apply c.World g.Thread v.1.Kind v.1.Obj g.Uh;refine tE (zH O (by omega) (Vp.of S D.f (hr.mono (by omega))) (by omega) (by omega) (by omega)) ?_;obtain⟨x,x1,x2,x3⟩:=IG (l:=s.AA) (i:=g.Thread) (by omega);obtain⟨y,y1,y2,y3⟩:=IG (l:=c.AA) (i:=g.Thread) (by omega);obtain⟨p1,p2,p3⟩:=D.t _ x y x2 y2;obtain⟨z,z1,z2,z3⟩:=IG (l:=y.Bq) (i:=x.PC) (by omega);obtain⟨q,q1,q2,q3⟩:=IG (l:=s.Sync.AA) (i:=g.Thread) (by have:=(Ek D.f).2.2;omega);have iA:=(hi x y z q x2 y2 z2 q2).a;have iB:=(hi x y z q x2 y2 z2 q2).b;have K:=O x x3;refine tE x1 (tE y1 (tE z1 ?_));have hpe:∀val,PE c s g.Thread ⟨v.1.Thread,v.1.Kind,v.1.Obj,val,v.1.Site,v.1.Du,v.1.DR⟩:=λval=>⟨D,ht,J,hh,λx y z q a b c d=>by have h:=hi x y z q a b c d;exact⟨h.a,h.b,h.d,h.r,h.s,h.j⟩⟩;generalize H:DX c.World s.Sync g.Thread v.1.Kind v.1.Obj g.Uh=ap at hR |-
 let VAC:Int->List Int->List Int->Prop:=λval C F=>((v.1.Kind=3->gt s.Cells v.1.Obj=some val)/\(v.1.Kind=23->gt s.AK v.1.Obj=some val)/\(v.1.Kind=5->val=0\/val=1)/\(v.1.Kind≠3->v.1.Kind≠23->v.1.Kind≠5->v.1.Kind≠4->v.1.Kind≠22->val=ap.2))/\C=(if v.1.Kind=4 then s.Cells.set v.1.Obj.toNat val else s.Cells)/\F=(if v.1.Kind=22 then s.AK.set v.1.Obj.toNat val else s.AK)
 let TX:AL->Prop:=λt=>t=QY\/t.AF=x.AF+1/\∀l∈t.Cc,∀k∈l,(∃m∈x.Cc,k∈m)\/k=x.AF/\(v.1.Kind=3\/v.1.Kind=23)
 have j6:∀val C F t,VAC val C F->TX t->(v.1.Kind=16->t.PC=x.PC)->TH (E+1) t->B7 (DJ.J6 g ⟨v.1.Thread,v.1.Kind,v.1.Obj,val,v.1.Site,v.1.Du,v.1.DR⟩ C F (ap.1,ap.2,true) s t) λr=>r.2.2=true->(SI (E+1) r.1/\qE r.2.1)/\SR c s g r.1 r.2.1:=by
  intro val C F t p B X h4;unfold DJ.J6;refine tE x1 (tR λ_=>⟨⟨⟨hR,?_⟩,J⟩,hpe val,M,by rw[H],?_,p.2.1,p.2.2,x,t,x2,rfl,X,B⟩)
  . intro q G;rcases ABB G with G|rfl
    . exact(O q G).mono (by omega)
    . exact h4
  . rw[H];exact p.1
 have W:A1 (x.AF+1)=x.AF+1:=by have:=K.e;exact CH (by omega) (by omega)
 have j5:∀val n C F t b,VAC val C F->(v.1.Kind=16->n=x.PC/\b=false)->t.AF=x.AF->(∀l∈t.Cc,∀k∈l,(∃m∈x.Cc,k∈m)\/k=x.AF/\(v.1.Kind=3\/v.1.Kind=23))->TH (E+1) ⟨0,t.Ch,t.Cc,A1 (t.AF+1)⟩->
  B7 (DJ.J5 c g ⟨v.1.Thread,v.1.Kind,v.1.Obj,val,v.1.Site,v.1.Du,v.1.DR⟩ n C F t (ap.1,ap.2,true) s b) λr=>r.2.2=true->(SI (E+1) r.1/\qE r.2.1)/\SR c s g r.1 r.2.1:=by
  intro val n C F t b p hn I R B;unfold DJ.J5;have X:∀n,TH (E+1) ⟨n,t.Ch,t.Cc,A1 (t.AF+1)⟩:=λn=>⟨B.r,B.t,B.b,B.e⟩;refine tI (λo=>tE y1 (tB (mG (X n) R (by omega) (hc.i y y3)) λu hu=>j6 _ _ _ _ p ?_ (λh=>by rw[(hn h).2]at o;cases o) hu.1)) λ_=>j6 _ _ _ _ p (.inr ⟨by rw[I,W],R⟩) (λh=>(hn h).1) (X n);exact hu.2.imp id λh=>⟨by rw[h.1,I,W],h.2⟩
 have j3:∀val n C F b,VAC val C F->(v.1.Kind=16->n=x.PC)->(b=true->(v.1.Kind=3\/v.1.Kind=23))->B7 (DJ.J3 c g ⟨v.1.Thread,v.1.Kind,v.1.Obj,val,v.1.Site,v.1.Du,v.1.DR⟩ n C F (ap.1,ap.2,true) s x z b) λr=>r.2.2=true->(SI (E+1) r.1/\qE r.2.1)/\SR c s g r.1 r.2.1:=by
  intro val n C F b p hn B;unfold DJ.J3 DJ.J4;have I:=K.e;have T:∀{t},(∀l∈t.Cc,∀k∈l,(∃m∈x.Cc,k∈m)\/k=x.AF/\(v.1.Kind=3\/v.1.Kind=23))->t.AF=x.AF->TH (E+1) ⟨0,t.Ch,t.Cc,A1 (t.AF+1)⟩->B7 (if(v.1.Kind != 16)=true then DJ.J5 c g ⟨v.1.Thread,v.1.Kind,v.1.Obj,val,v.1.Site,v.1.Du,v.1.DR⟩ n C F t (ap.1,ap.2,true) s (v.1.Kind != 2)else DJ.J5 c g ⟨v.1.Thread,v.1.Kind,v.1.Obj,val,v.1.Site,v.1.Du,v.1.DR⟩ n C F t (ap.1,ap.2,true) s false) λr=>r.2.2=true->(SI (E+1) r.1/\qE r.2.1)/\SR c s g r.1 r.2.1:=λR I hT=>
   tI (λh=>j5 _ _ _ _ _ _ p (λQ=>by rw[Q]at h;cases h) I R hT) λ_=>j5 _ _ _ _ _ _ p (λh=>⟨hn h,rfl⟩) I R hT
  refine tI (λo=> ?_) λ_=> ?_
  . have B:=B o;have hA:=iA (by omega);refine tG (by omega) λ_ _=>tG (by omega) λ_ _=>T ?_ rfl ?_
    . intro l J k hk;rcases ABB J with J|rfl
      . exact .inl ⟨l,J,hk⟩
      . exact .inr ⟨ABG.1 hk,B⟩
    . simp only[W];refine⟨by simpa using K.r,by simpa using K.t,?_,by simp only;omega⟩;intro q G;rcases ABB G with G|rfl
      . exact(K.b q G).mono (by simp only;omega)
      . exact⟨by simp,by simp;omega⟩
  . refine T (λl J k hk=>.inl ⟨l,J,hk⟩) rfl ?_;simp only[W];exact⟨K.r,K.t,λq G=>(K.b q G).mono (by simp only;omega),by simp only;omega⟩
 have L:∀C F val n,VAC val C F->(v.1.Kind=16->n=x.PC)->B7 (DJ.J2 c g (ap.1,ap.2,true) s x z C F ⟨v.1.Thread,v.1.Kind,v.1.Obj,val,v.1.Site,v.1.Du,v.1.DR⟩ n) λr=>r.2.2=true->(SI (E+1) r.1/\qE r.2.1)/\SR c s g r.1 r.2.1:=by intro C F val n p hn;unfold DJ.J2;exact tI (λh=>j3 _ _ _ _ _ p hn λ_=>.inl (eq_of_beq h)) λ_=>j3 _ _ _ _ _ p hn λh=>.inr (eq_of_beq h)
 have j1:∀b,(b=true->v.1.Kind=1\/v.1.Kind=16\/v.1.Kind=2)->(b=false->v.1.Kind≠16)->B7 (DJ.J1 c g v (ap.1,ap.2,true) s x z b) λr=>r.2.2=true->(SI (E+1) r.1/\qE r.2.1)/\SR c s g r.1 r.2.1:=by
  intro b o hb2;unfold DJ.J1;refine tI (λh=>L _ _ _ _ ⟨⟨by have:=o h;omega,by have:=o h;omega,by have:=o h;omega,λ_ _ _ _ _=>rfl⟩,by rw[AAp (by have:=o h;omega)],by rw[AAp (by have:=o h;omega)]⟩ λ_=>rfl) λh0=>tI (λh=> ?_) λn3=>tI (λh=> ?_) λV=>tI (λh=> ?_) λn4=>tI (λh=> ?_) λU=>tI (λh=> ?_) λn5=> ?_
  . have h:=eq_of_beq h
    have:=Bb.1 (show Df v.1.Obj c.World.Cells.length=true by simpa[CF,h]using Z);obtain⟨d,d1,_⟩:=IG (l:=s.Cells) (i:=v.1.Obj) (by omega);exact tE d1 (L _ _ _ _ ⟨⟨λ_=>d1,by omega,by omega,by omega⟩,by rw[AAp (by omega)],by rw[AAp (by omega)]⟩ (by omega))
  . have h:=eq_of_beq h
    have:=Bb.1 (show Df v.1.Obj c.World.AK.length=true by simpa[CF,h]using Z);obtain⟨d,d1,_⟩:=IG (l:=s.AK) (i:=v.1.Obj) (by omega);exact tE d1 (L _ _ _ _ ⟨⟨by omega,λ_=>d1,by omega,by omega⟩,by rw[AAp (by omega)],by rw[AAp (by omega)]⟩ (by omega))
  . have h:=eq_of_beq h
    have:=Bb.1 (show Df v.1.Obj c.World.Cells.length=true by simpa[CF,h]using Z);have o:=iB (.inl h);exact tG (by omega) λ_ _=>tG (by omega) λ_ _=>L _ _ _ _ ⟨⟨by omega,by omega,by omega,by omega⟩,by rw[AAs h],by rw[AAp (by omega)]⟩ (by omega)
  . have h:=eq_of_beq h
    have:=Bb.1 (show Df v.1.Obj c.World.AK.length=true by simpa[CF,h]using Z);have o:=iB (.inr h);exact tG (by omega) λ_ _=>tG (by omega) λ_ _=>L _ _ _ _ ⟨⟨by omega,by omega,by omega,by omega⟩,by rw[AAp (by omega)],by rw[AAs h]⟩ (by omega)
  . have h:=eq_of_beq h;have o:=iA (.inr (.inr h));exact tG (by omega) λ_ _=>tI (λ_=>L _ _ _ _ ⟨⟨by omega,by omega,λ_=>.inl rfl,by omega⟩,by rw[AAp (by omega)],by rw[AAp (by omega)]⟩ (by omega)) λ_=>L _ _ _ _ ⟨⟨by omega,by omega,λ_=>.inr rfl,by omega⟩,by rw[AAp (by omega)],by rw[AAp (by omega)]⟩ (by omega)
  . simp only[ABv,ne_eq]at n3 V n4 U n5;exact L _ _ _ _ ⟨⟨λh=>absurd h n3,λh=>absurd h V,λh=>absurd h n5,λ_ _ _ _ _=>rfl⟩,by rw[AAp n4],by rw[AAp U]⟩ λh=>absurd h (hb2 h0)
 exact tI (λh=>j1 _ (λ_=>.inl (eq_of_beq h)) λQ=>by rw[Q]at h;cases h) λ_=>tI (λh=>j1 _ (λ_=>.inr (.inl (eq_of_beq h))) λQ=>by rw[Q]at h;cases h) λn16=>j1 _ (λh=>.inr (.inr (eq_of_beq h))) λ_=>by simpa using n16
structure TM (n:Nat) (t:Aw):Prop where
 n:t.AF.length<=n
 e:∀e∈t.AF,qE e
 w:t.AF≠[]->Cs t.World=true
theorem qE.ok{e:AG}(h:qE e):JC e:=⟨by have:=h.1;omega,by have:=h.2;omega⟩
theorem getT{s:AP}{i:Int}{f:AH->AH}{u:Nat}{q:AH}(hi:0<=i/\i<s.AA.length)(h:(Kx s i f).AA[u]? =some q):(u:Int)=i/\q=f (ix s.AA i)\/(u:Int)≠i/\s.AA[u]? =some q:=by
 unfold Kx at h;by_cases e:(u:Int)=i
 . have a:i.toNat=u:=(by omega);rw[a,AAk (by omega)]at h;exact .inl ⟨e,(AAl h).symm⟩
 . rw[AAn (by omega)]at h;exact .inr ⟨e,h⟩
theorem rP{a:Type}[Inhabited a]{l:List a}{u:Nat}{i:Int}{x:a}(h:l[u]? =some x)(hi:(u:Int)=i):ix l i=x:=by subst hi;unfold ix;simp[h]
theorem xJ{wv:AD}{s:AP}{t k o:Int}(h:CT wv s t k o=true)(a:k≠1)(b:k≠17):(ix s.AA t).Status=2:=by unfold CT Ku at h;simp only[AAi,AAp a,AAp b]at h;exact eq_of_beq h.2.2.2.1
theorem OG{wake:Int}{W:List Int}(h:W≠[]):E5 wake W∈W:=by
 unfold E5;rw[AAp h];split
 . rename_i h;simpa using h
 . cases W with
   |nil=>exact absurd rfl h
   |cons a r=>simp
theorem p6(o:Int)(T:List AH):∀(i:Nat)(u:Int),u∈CL o i T->∃x,T[(u-i).toNat]? =some x/\x.Status=3:=by
 induction T with
 |nil=>intro i u h;cases h
 |cons x r ih=>
  intro i u h;unfold CL at h;have key:u∈CL o (i+1) r->∃y,(x::r)[(u-i).toNat]? =some y/\y.Status=3:=by intro h;have b:=(Iz o r (i+1) u h).1;obtain⟨y,y1,y2⟩:=ih (i+1) u h;refine⟨y,?_,y2⟩;rw[show(u-(i:Int)).toNat=(u-((i+1:Nat):Int)).toNat+1 from by omega,ABT];exact y1
  split at h
  . rename_i a;rcases ABH.1 h with rfl|h
    . refine⟨x,by simp,?_⟩;unfold JJ at a;simp only[AAi]at a;exact eq_of_beq a.1
    . exact key h
  . exact key h
theorem pZ{wv:AD}{s:AP}{t k o wake:Int}(h:CT wv s t k o=true){u:Nat}{i:AH}(c:(DX wv s t k o wake).1.AA[u]? =some i):
 ((u:Int)=t->k=16\/i.Status=2\/i.Status=5)/\((u:Int)≠t->i.Status=1\/∃q,s.AA[u]? =some q/\(i=q\/q.Status=3/\i.Status=4)):=by
 have m:=λa b=>xJ h (k:=k) a b;have D:=h;unfold CT at D;simp only[AAi]at D;obtain⟨M,B,L,H⟩:=D;obtain⟨_,_,N⟩:=Ek M;have B:=Bb.1 B;rw[<- N]at B
 -- a thread's own place
 have own:∀(j:AP)(f:AH->AH),j.AA=s.AA->(Kx j t f).AA[u]? =some i->(k=16\/(f (ix s.AA t)).Status=2\/(f (ix s.AA t)).Status=5)->
  ((u:Int)=t->k=16\/i.Status=2\/i.Status=5)/\((u:Int)≠t->i.Status=1\/∃q,s.AA[u]? =some q/\(i=q\/q.Status=3/\i.Status=4)):=by
  intro j f F w y;rcases getT (by rw[F];exact B) w with⟨e,rfl⟩|⟨e,p⟩
  . rw[F];exact⟨λ_=>y,λh=>absurd e h⟩
  . rw[F]at p;exact⟨λh=>absurd h e,λ_=>.inr ⟨i,p,.inl rfl⟩⟩
 -- nobody's place
 have g:∀(T:List AH),T=s.AA->T[u]? =some i->(ix s.AA t).Status=2->((u:Int)=t->k=16\/i.Status=2\/i.Status=5)/\((u:Int)≠t->i.Status=1\/∃q,s.AA[u]? =some q/\(i=q\/q.Status=3/\i.Status=4)):=by rintro _ rfl w y;exact⟨λe=>.inr (.inl (by rw[rP w e]at y;exact y)),λ_=>.inr ⟨i,w,.inl rfl⟩⟩
 unfold DX at c;by_cases l:k=1
 . rw[AAs l]at c;exact own s _ rfl c (.inr (.inl rfl))
 rw[AAp l]at c;by_cases K:k=2
 . rw[AAs K]at c;exact own s _ rfl c (.inr (.inr rfl))
 rw[AAp K]at c;by_cases e:k=6\/k=10
 . rw[AAs e]at c;exact g _ rfl c (m l (by omega))
 rw[AAp e]at c;by_cases e:k=7\/k=11
 . rw[AAs e]at c;exact g _ rfl c (m l (by omega))
 rw[AAp e]at c;by_cases e:k=8
 . rw[AAs e]at c;exact g _ rfl c (m l (by omega))
 rw[AAp e]at c;by_cases e:k=9
 . rw[AAs e]at c;exact g _ rfl c (m l (by omega))
 rw[AAp e]at c;by_cases e:k=12
 . rw[AAs e]at c;exact g _ rfl c (m l (by omega))
 rw[AAp e]at c;by_cases e:k=13
 . rw[AAs e]at c;exact g _ rfl c (m l (by omega))
 rw[AAp e]at c;by_cases e:k=14
 . rw[AAs e]at c;exact own s _ rfl c (.inr (.inl (m l (by omega))))
 rw[AAp e]at c;by_cases e:k=15
 . rw[AAs e]at c;exact own s _ rfl c (.inr (.inl (m l (by omega))))
 rw[AAp e]at c;by_cases G:k=16
 . rw[AAs G]at c;exact own (Kw s (ix wv.Af o).Mutex λx=>⟨-1,x.Al⟩) _ rfl c (.inl G)
 rw[AAp G]at c;by_cases n:k=17
 . rw[AAs n]at c;exact own (Kw s (ix wv.Af o).Mutex λx=>⟨t,x.Al⟩) _ rfl c (.inr (.inl rfl))
 rw[AAp n]at c;have j:=m l n;by_cases e:k=18
 . rw[AAs e]at c;by_cases z:CL o 0 s.AA=[]
   . rw[AAs z]at c;exact g _ rfl c j
   . rw[AAp z]at c;obtain⟨x,v,O⟩:=p6 o s.AA 0 _ (OG (wake:=wake) z);have I:=Iz o s.AA 0 _ (OG (wake:=wake) z);generalize E5 wake (CL o 0 s.AA)=d at c v I;have v:s.AA[d.toNat]? =some x:=(by simpa using v);have hd:ix s.AA d=x:=rP v (by omega);rcases getT (by simp at I;omega) c with⟨e,rfl⟩|⟨e,p⟩
     . refine⟨λh=> ?_,λ_=>.inr ⟨x,?_,.inr ⟨O,rfl⟩⟩⟩
       . rw[<- h,e,hd]at j;omega
       . rw[show u=d.toNat from by omega];exact v
     . exact g _ rfl p j
 rw[AAp e]at c;by_cases e:k=19
 . rw[AAs e]at c;have c:(s.AA.map (JA o))[u]? =some i:=c;rw[AAt]at c;cases hx:s.AA[u]? with
   |none=>rw[hx]at c;cases c
   |some x=>
    rw[hx]at c;obtain rfl:=AAl c;unfold JA;by_cases r:JJ x o=true
    . have:x.Status=3:=(by unfold JJ at r;simp only[AAi]at r;exact eq_of_beq r.1);rw[AAs r];refine⟨λe=> ?_,λ_=>.inr ⟨x,rfl,.inr ⟨this,rfl⟩⟩⟩;rw[rP hx e]at j;omega
    . rw[AAp r];exact⟨λe=>.inr (.inl (by rw[rP hx e]at j;exact j)),λ_=>.inr ⟨x,rfl,.inl rfl⟩⟩
 rw[AAp e]at c;by_cases C:k=20
 . rw[AAs C]at c;have J:Df o wv.AA.length=true:=(by simpa[CF,C]using L);have E:o≠t:=(by simp[Ku,C]at H;exact H.2.1);have J:=Bb.1 J;rcases getT (by omega) c with⟨e,rfl⟩|⟨e,p⟩
   . exact⟨λh=>absurd (e.symm.trans h) E,λ_=>.inl rfl⟩
   . exact g _ rfl p j
 rw[AAp C]at c;by_cases e:k=22
 . rw[AAs e]at c;exact g _ rfl c j
 . rw[AAp e]at c;exact g _ rfl c j
theorem XX(wv:AD)(s:AP)(t k o wake:Int):(DX wv s t k o (if k=18 then(DX wv s t k o wake).2 else -1)).1=(DX wv s t k o wake).1:=by
 by_cases h:k=18
 . rw[AAs h,h];have key:∀w,(DX wv s t 18 o w)=(if CL o 0 s.AA=[]then s else Kx s (E5 w (CL o 0 s.AA)) Ir,E5 w (CL o 0 s.AA)):=λw=>by simp[DX]
   rw[key,key];by_cases a:CL o 0 s.AA=[]
   . simp[a]
   . have:=OG (wake:=wake) a;simp only[a,AAx];rw[show E5 (E5 wake (CL o 0 s.AA)) (CL o 0 s.AA)=E5 wake (CL o 0 s.AA)from ?_];generalize E5 wake (CL o 0 s.AA)=d at this |-;unfold E5;rw[AAp a,AAs (by simpa using this)]
 . rw[AAp h];unfold DX;simp only[AAp h]
theorem nums_of{c:Int}(D:List Int):∀a:Int,D.Pairwise (· < ·)->(∀k∈D,a<k/\k<c)->F8 c a D=true:=by
 induction D with
 |nil=>exactλ_ _ _=>rfl
 |cons x r ih=>intro a f b;obtain⟨g,h⟩:=List.pairwise_cons.1 f;have e:=b x ABj;unfold F8;simp only[AAi,AA1];exact⟨e.1,e.2,ih x h λk d=>⟨g k d,(b k (List.mem_cons_of_mem _ d)).2⟩⟩
theorem isIn_app{l:List Bool}{b:Bool}{k:Int}(h:KX l k=true):KX (l++[b]) k=true:=by
 unfold KX at h |-;simp only[AAi]at h |-;have hi:=Bb.1 h.1;refine⟨Bb.2 (by simp;omega),?_⟩
 have:=h.2;unfold ix at this |-;rw[ABA (by omega)];exact this
theorem v7{l:List Bool}:KX (l++[true]) (l.length:Int)=true:=by unfold KX;simp only[AAi];exact⟨Bb.2 (by simp;omega),by unfold ix;simp⟩
structure GT (pre:List AG) (u:Int) (cnt:Int) (x:AL):Prop where
 c:cnt=x.AF
 n:x.AF=((Jx pre u).length:Int)
 k:∀l∈x.Cc,∀k∈l,KX (Jx pre u) k=true/\1<=k
structure LK (c:BT) (pre:List AG) (S:AB) (s:Aj):Prop where
 y:S.Sync=s.Sync
 ce:S.Cells=s.Cells
 f:S.AK=s.AK
 n:S.Count.length=c.World.AA.length
 t:∀(u:Nat) x y,s.AA[u]? =some x->c.AA[u]? =some y->y.Ch=0\/x=QY\/GT pre u (ix S.Count u) x
 w:∀(u:Nat) x y q,s.AA[u]? =some x->c.AA[u]? =some y->s.Sync.AA[u]? =some q->q.Status=3\/q.Status=4->∃z,gt y.Bq x.PC=some z/\z.Op=21
 e:∀(u:Nat) x q,s.AA[u]? =some x->s.Sync.AA[u]? =some q->2<=q.Status->x=QY\/1<=x.AF
theorem AAB{wv:AD}{s:AP}{t k o wake:Int}(c:k≠18)(d:k≠19):(DX wv s t k o wake).2=0:=by
 have key:∀(P:Prop) [Decidable P] (a b:AP×Int),a.2=0->b.2=0->(if P then a else b).2=0:=λP _ a b e f=>by
  by_cases h:P
  . rw[AAs h];exact e
  . rw[AAp h];exact f
 unfold DX;rw[AAp c,AAp d]
 repeat' first|rfl|apply key
theorem sim{E:Nat}{c:BT}{s s':Aj}{g:C6}{e:AG}{j:List AG}{S:AB}(hE:E<=10000)(M:SI E s)(B:LK c j S s)(hr:SR c s g s' e):
 IZ c.World S e=true/\O6 j e=true/\LK c (j++[e]) (GU c.World S e) s':=by
 obtain⟨hp,Q,hsy,hva,hce,hfu,x,x',X,hth,h16,LS⟩:=hr;obtain⟨P,ht,_,V,hi⟩:=hp;have c1:=P.c';have c2:=P.u;have c3:=P.n;have c4:=P.v.n;have l3:=(Ek P.f).2.2;obtain⟨y,_,y2,_⟩:=IG (l:=c.AA) (i:=g.Thread) (by omega);obtain⟨p1,p2,p3⟩:=P.t _ x y X y2;obtain⟨z,z1,z2,z3⟩:=IG (l:=y.Bq) (i:=x.PC) (by omega);obtain⟨q,_,q2,_⟩:=IG (l:=s.Sync.AA) (i:=g.Thread) (by omega);have F:=hi x y z q X y2 z2 q2;have hz:=(P.v.t _ y y2).i z z3;have hx:=M.2 x (AAu X);have H:((g.Thread.toNat:Nat):Int)=g.Thread:=by omega
 -- a thread with registers shows what its trace shows
 have hgt:y.Ch=0\/GT j g.Thread (ix S.Count g.Thread) x:=by
  rcases B.t _ x y X y2 with h|h|h
  . exact .inl h
  . rw[h]at p2;exact .inl p2.symm
  . rw[H]at h;exact .inr h
 have K:∀D,D=[]\/D∈x.Cc->F8 (ix S.Count e.Thread) 0 D=true/\D.all (KX (Jx j e.Thread))=true:=by
  rintro D (rfl|K)
  . exact⟨rfl,rfl⟩
  . rcases hgt with h|h
    . have:x.Cc.length=0:=(by omega);rw[List.length_eq_zero_iff.1 this]at K;cases K
    . rw[V];refine⟨nums_of D 0 (hx.b D K).1 λk W=>⟨by have:=(h.k D K k W).2;omega,?_⟩,AAm.2 λk W=>(h.k D K k W).1⟩;rw[h.c];exact((hx.b D K).2 k W).2
 have hdp:=K e.Du (F.d.imp id λh=>h.1);have lR:=K e.DR (F.r.imp id λh=>h.1);have p:CF c.World e.Kind e.Obj=true:=by have Q:=Q;unfold CT at Q;simp only[AAi]at Q;exact Q.2.2.1
 have Uo:Mx c.World e=true:=by
  unfold Mx;have site:z.Op≠28->e.Site=z.Site->(Df e.Site c.World.BL.length&&(ix c.World.BL e.Site).Thread==e.Thread)=true:=by
   intro h1 J;have M:=hz.s;unfold ZE at M;rw[AAp h1,H]at M;obtain⟨b,Z,b2⟩:=M;have C:=Z;unfold gt at C;split at C
   . have:=(AAj.1 C).1;rw[J,qZ Z,b2,V];simp only[AAi,ABb,and_true];exact Bb.2 (by omega)
   . cases C
  rcases F.s with⟨k1,k2⟩|⟨⟨q4,yY⟩|⟨q2',k2,n1,n17,T⟩,G⟩
  . rw[AAs (.inl k1),k2];rfl
  . obtain⟨z',Z,b2⟩:=B.w _ x y q X y2 q2 (.inr q4);rw[z1]at Z;obtain rfl:=AAl Z;rw[AAp (by omega)];exact site (by omega) G
  . by_cases J:e.Kind=2
    . have M:=hz.s;unfold ZE at M;rw[AAs (k2.1 J)]at M;rw[AAs (.inr J),G,M];rfl
    . rw[AAp (by omega)];exact site (λh=>J (k2.2 h)) G
 have hdet:Eh c.World S e=true:=by unfold Eh;rw[hdp.1,lR.1];simp only[Bool.and_true,AAi,ABE];refine⟨F.d.imp (λh=>by rw[h];rfl) λh=>h.2.imp (λh=>by rw[h];rfl) λh=> ?_,F.r.imp (λh=>by rw[h];rfl) λh=>h.2.imp (λh=>by rw[h];rfl) λh=>by rw[h];rfl⟩;unfold Om;rw[AAs h.1];simpa using h.2
 have Bi:HV S e=true:=by
  unfold HV;rw[B.ce,B.f,B.y];obtain⟨v1,v2,v3,v4⟩:=hva;by_cases k3:e.Kind=3
  . rw[AAs k3,qZ (v1 k3)];simp
  rw[AAp k3];by_cases wB:e.Kind=23
  . rw[AAs wB,qZ (v2 wB)];simp
  rw[AAp wB];by_cases k5:e.Kind=5
  . rw[AAs k5];rcases v3 k5 with h|h<;>rw[h]<;>rfl
  rw[AAp k5];by_cases k4:e.Kind=4\/e.Kind=22
  . rw[AAs k4]
  rw[AAp k4];have hv:=v4 k3 wB k5 (by omega) (by omega);by_cases U:e.Kind=18
  . rw[AAs U];have:e.Value=E5 g.Uh (CL e.Obj 0 s.Sync.AA):=(by rw[hv,U];simp[DX]);by_cases hW:CL e.Obj 0 s.Sync.AA=[]
    . rw[this,hW];rfl
    . have hm:=OG (wake:=g.Uh) hW;rw[<- this]at hm;simp only[ABE];exact .inl (by simpa using hm)
  rw[AAp U];by_cases N:e.Kind=19
  . rw[AAs N,hv,N];simp[DX]
  rw[AAp N,hv];simp[AAB U N]
 have R:IZ c.World S e=true:=by unfold IZ JF;rw[B.y,B.ce,B.f,P.f,V,Q,Uo,hdet,Bi,B.n,c1,c2];simp only[ABb,Bool.and_true,ABD];exact Bb.2 (by omega)
 have L:O6 j e=true:=by unfold O6;rw[hdp.2,lR.2];rfl
 refine⟨R,L,?_⟩;have hsy':(GU c.World S e).Sync=s'.Sync:=by
  show(DX c.World S.Sync e.Thread e.Kind e.Obj (if e.Kind=18 then e.Value else -1)).1=_
  rw[B.y,hsy,V];by_cases U:e.Kind=18
  . have hv:=hva.2.2.2 (by omega) (by omega) (by omega) (by omega) (by omega)
    have:=XX c.World s.Sync g.Thread e.Kind e.Obj g.Uh;rw[AAs U]at this |-;rw[hv];exact this
  . have:=XX c.World s.Sync g.Thread e.Kind e.Obj g.Uh;rw[AAp U]at this |-;exact this
 have I:∀(u:Nat) a,s'.AA[u]? =some a->(u:Int)=g.Thread/\a=x'\/(u:Int)≠g.Thread/\s.AA[u]? =some a:=by
  intro u a p;rw[hth]at p;by_cases o:(u:Int)=g.Thread
  . rw[show g.Thread.toNat=u from by omega,AAk (by omega)]at p;exact .inl ⟨o,(AAl p).symm⟩
  . rw[AAn (by omega)]at p;exact .inr ⟨o,p⟩
 have O:∀u:Nat,ix (GU c.World S e).Count (u:Int)=if(u:Int)=g.Thread then A1 (ix S.Count g.Thread+1)else ix S.Count u:=by
  intro u;show ix (S.Count.set e.Thread.toNat (A1 (ix S.Count e.Thread+1))) u=_;rw[V];by_cases o:(u:Int)=g.Thread
  . rw[AAs o];have D4:u<S.Count.length:=(by rw[B.n];omega);rw[show g.Thread.toNat=u from by omega];unfold ix;simp[D4]
  . rw[AAp o];unfold ix;rw[AAn (by omega)]
 have Sv:∀u:Int,Jx (j++[e]) u=if g.Thread=u then Jx j u++[fM e]else Jx j u:=λu=>by rw[Md,V]
 have CJ:∀(u:Nat) b,s'.Sync.AA[u]? =some b->((u:Int)=g.Thread->e.Kind=16\/b.Status=2\/b.Status=5)/\((u:Int)≠g.Thread->b.Status=1\/∃q,s.Sync.AA[u]? =some q/\(b=q\/q.Status=3/\b.Status=4)):=by intro u b C;rw[hsy]at C;exact pZ Q C
 refine⟨hsy',?_,?_,?_,?_,?_,?_⟩
 . rw[hce,<- B.ce];rfl
 . rw[hfu,<- B.f];rfl
 . show(S.Count.set _ _).length=_;rw[List.length_set];exact B.n
 . intro u a b p C;rcases I u a p with⟨o,rfl⟩|⟨o,p⟩
   . rw[show u=g.Thread.toNat from by omega,y2]at C;obtain rfl:=AAl C;rcases hgt with h|h
     . exact .inl h
     . rcases LS with LS|⟨e1,e2⟩
       . exact .inr (.inl LS)
       . by_cases hR:y.Ch=0
         . exact .inl hR
         . refine .inr (.inr ⟨?_,?_,?_⟩)
           . rw[O,AAs o,h.c,e1]
             have:=hx.e;exact CH (by omega) (by omega)
           . rw[Sv,o,AAs rfl,e1,h.n];simp
           . intro l hl' k W;rw[Sv,o,AAs rfl];rcases e2 l hl' k W with⟨m,m1,m2⟩|⟨rfl,hk3⟩
             . exact⟨isIn_app (h.k m m1 k m2).1,(h.k m m1 k m2).2⟩
             . have hr:fM e=true:=(by unfold fM;rcases hk3 with h|h<;>simp[h]);rw[hr]
               have:=v7 (l:=Jx j g.Thread);rw[<- h.n]at this;refine⟨this,?_⟩;have hq:2<=q.Status:=(by rcases F.s with⟨k1,_⟩|⟨⟨_,yY⟩|⟨q2',_⟩,_⟩<;>omega);rcases B.e _ x q X q2 hq with h0|h0
               . rw[h0]at p2;exact absurd p2.symm hR
               . exact h0
   . rcases B.t u a b p C with h|h|h
     . exact .inl h
     . exact .inr (.inl h)
     . refine .inr (.inr ⟨?_,?_,?_⟩)
       . rw[O,AAp o];exact h.c
       . rw[Sv,AAp (λh=>o h.symm)];exact h.n
       . rw[Sv,AAp (λh=>o h.symm)];exact h.k
 . intro u a b d p C hd hs34;rcases I u a p with⟨o,rfl⟩|⟨o,p⟩
   . rw[show u=g.Thread.toNat from by omega,y2]at C;obtain rfl:=AAl C;have T:e.Kind=16:=(by rcases(CJ u d hd).1 o with h|h|h<;>omega);rw[h16 T];refine⟨z,z1,?_⟩;rcases F.s with⟨k1,_⟩|⟨⟨_,yY⟩|⟨_,_,_,_,h⟩,_⟩
     . omega
     . omega
     . exact h T
   . rcases(CJ u d hd).2 o with h|⟨q',h1,J⟩
     . omega
     . refine B.w u a b q' p C h1 ?_;rcases J with rfl|J
       . exact hs34
       . exact .inl J.1
 . intro u a d p hd J;rcases I u a p with⟨o,rfl⟩|⟨o,p⟩
   . rcases LS with h|⟨e1,_⟩
     . exact .inl h
     . have:=hx.e;exact .inr (by omega)
   . rcases(CJ u d hd).2 o with h|⟨q',h1,h3⟩
     . omega
     . refine B.e u a q' p h1 ?_;rcases h3 with rfl|h3<;>omega
theorem US{wv:AD}{j:Nat}{q:AH}(h:(Jg wv).AA[j]? =some q):q.Status=0\/q.Status=1:=by
 have h:=AAu h;unfold Jg at h;rcases ABB h with h|rfl
 . rw[ABg h];exact .inl rfl
 . exact .inr rfl
theorem sT{c:BT}(H:CK c)(b:Bz c=some true):B7 (C1 c) λs=>SI 0 s/\LK c [] (GQ c.World) s:=by
 unfold C1;obtain⟨v,E,G⟩:=Qb H;rw[b]at E;have Q:=G (AAl E).symm;rw[b,AAg];refine tI (λh=>by cases h) λ_=> ?_;have b:=Q;have z:=DF b.w;have W:=z.c;have X:=z.f;have Z:=H.n;refine tE (QB _ z) (QO c.World.Cells.length (λi s=>s.Sync=Jg c.World/\s.Cells=(c.World.Cells.take i).map (·.Init)/\s.AK=[]/\s.AA=[]) (F:=λn s i=>C1.AZ c n s i) (by omega) ⟨rfl,rfl,rfl,rfl⟩ λn i s hi e k=> ?_);obtain⟨J,g,K,L⟩:=e;have T:s.Cells.length=i:=by rw[g];simp;omega
 unfold C1.AZ C1.L1 C1.J1;refine tD (λ_=>cL (by omega) (tC (Bh (by omega)) (k _ (by omega) ⟨J,by simp only;rw[g,<- AA2 (by omega),ABL];rfl,K,L⟩))) λ_=> ?_;have g:s.Cells=c.World.Cells.map (·.Init):=by rw[g,ABM (by omega)]
 refine QO c.World.AK.length (λi t=>t.Sync=Jg c.World/\t.AK=List.replicate i 0/\t.AA=[]/\t.Cells=s.Cells) (F:=λn s i=>C1.Cr c n s i) (by omega) ⟨J,by simp[K],L,rfl⟩ λn i t hi e k=> ?_;obtain⟨M,m,C,N⟩:=e;have T:t.AK.length=i:=by rw[m];simp
 unfold C1.Cr C1.L2 C1.J2;refine tD (λ_=>tC (Bh (by omega)) (k _ (by omega) ⟨M,by simp only;rw[m,<- AB5],C,N⟩)) λ_=> ?_;have m:t.AK=List.replicate c.World.AK.length 0:=by rw[m,show i=c.World.AK.length by omega]
 refine QO c.AA.length (λi u=>u.Sync=Jg c.World/\u.AA.length=i/\(∀x∈u.AA,TH 0 x/\x.AF=0/\∀l∈x.Cc,l=[])/\u.Cells=s.Cells/\u.AK=t.AK) (F:=λn s i=>C1.Gq c n s i) (by omega) ⟨M,by simp[C],by simp[C],N,rfl⟩ λn i u hi e k=> ?_;obtain⟨o,V,D,O,P⟩:=e;unfold C1.Gq C1.L3 C1.J3;refine tD (λ_=>cL (by omega) ?_) λ_=>tR ⟨⟨by rw[o];exact RB.start _,λx a=>(D x a).1⟩,by rw[o];rfl,by rw[O,g];rfl,by rw[P,m];rfl,by have:=b.n;simp[GQ],?_,?_,?_⟩
 . have U:=(b.t i _ (AAo (by omega))).r;refine tC ⟨by omega,by omega,Bh (by omega)⟩ (tC ⟨by omega,by omega,Bh (by omega)⟩ (tC (Bh (by omega)) (k _ (by omega) ⟨o,by simp;omega,?_,O,P⟩)));intro x a;rcases AAz.1 a with a|a
   . exact D x a
   . rw[ABG.1 a];refine⟨⟨by simp;omega,by simp;omega,?_,by simp⟩,rfl,λl p=>ABg p⟩;intro y B;have B:=ABg B;rw[B];exact⟨List.Pairwise.nil,by simp⟩
 . intro j x y a _;have a:=D x (AAu a);refine .inr (.inr ⟨?_,by rw[a.2.1];rfl,λl p k I=>by rw[a.2.2 l p]at I;cases I⟩);rw[a.2.1];show ix (List.replicate c.World.AA.length 0) (j:Int)=0;unfold ix;simp only[ABS];by_cases S:j<c.World.AA.length
   . rw[AAo (by simpa using S)];simp
   . rw[ABy (by simp;omega)];rfl
 . intro j x y q _ _ d R;rw[o]at d
   have:=US d;omega
 . intro j x q _ d G;rw[o]at d
   have:=US d;omega
def Acc(wv:AD)(l:List AG)(S:AB):Prop:=∀r,GJ wv [] (GQ wv) (l++r)=GJ wv l S r
theorem Acc.step{wv:AD}{l:List AG}{S:AB}(h:Acc wv l S){e:AG}(a:IZ wv S e=true)(b:O6 l e=true):Acc wv (l++[e]) (GU wv S e):=by intro r;rw[ABt,h,List.singleton_append,GJ,a,b];rfl
theorem from_ok{c:BT}(q:CK c){s:Aj}(j:SI 0 s)(u:LK c [] (GQ c.World) s){l:List C6}(D:l.length<=1000):B7 (FP c s [] l) λr=>(r.1.length<=l.length/\∀e∈r.1,qE e)/\∃S,Acc c.World r.1 S/\LK c r.1 S r.2:=by
 unfold FP;refine QO l.length (λi (s:List AG×Aj)=>(SI i s.2/\s.1.length<=i/\∀e∈s.1,qE e)/\∃S,Acc c.World s.1 S/\LK c s.1 S s.2) (F:=λn s i=>FP.AZ c l n s.1 s.2 i) (s0:=([],s)) (by omega) ⟨⟨j,by simp,by simp⟩,_,λ_=>rfl,u⟩ λn i s hi j k=> ?_;obtain⟨⟨f,E,g⟩,S,b,d⟩:=j;have up:SI (i+1) s.2:=⟨f.1.mono (by omega),λt w=>(f.2 t w).mono (by omega)⟩;unfold FP.AZ FP.L1 FP.J1 FP.J2 FP.J3;refine tD (λ_=>tI (λ_=>tG (by omega) λx _=> ?_) λ_=>tR ⟨⟨by simp only;omega,g⟩,S,b,d⟩) λ_=>tI (λh=>by cases h) λ_=>tR ⟨⟨by simp only;omega,g⟩,S,b,d⟩;refine tB (sU q f (by omega) x) λv y=>tI (λh=> ?_) λ_=>k (_,_) (by omega) ⟨⟨up,by simp only;omega,g⟩,S,b,d⟩;obtain⟨⟨z,B⟩,C⟩:=y h;obtain⟨m,o,p⟩:=sim (by omega) f d C;refine tC (Bh (by omega)) (k (_,_) (by omega) ⟨⟨z,by simp;omega,?_⟩,_,b.step m o,p⟩);intro e a;rcases AAz.1 a with a|a
 . exact g e a
 . rw[ABG.1 a];exact B
structure TA (n:Nat) (t:Aw):Prop where
 m:TM n t
 c:GJ t.World [] (GQ t.World) t.AF=(0,0)
theorem Run_ok{c:BT}(a:CK c){l:List C6}(j:l.length<=1000):B7 (Ls c l) λr=>TA l.length r.1:=by
 unfold Ls;obtain⟨v,d,i⟩:=Qb a;rw[d,AAg];refine tI (λ_=>tR ⟨⟨by simp,by simp,λh=>absurd rfl h⟩,rfl⟩) λh=> ?_;have f:v=true:=by simpa using h
 refine tB (sT a (by rw[d,f])) λs e=>tB (from_ok a e.1 e.2 j) λr b=>tR ⟨⟨b.1.1,b.1.2,λ_=>(i f).w⟩,?_⟩;obtain⟨S,g,_⟩:=b.2
 have:=g [];rw[List.append_nil]at this;exact this
section
variable{T:AB9->Prop}
def PM:Nat->List AQ->Nat
 |0,_=>0
 |d+1,l=>(l.map λs=>1+PM d s.Body+PM d s.Else).sum
theorem sum_le{l:List Nat}{k:Nat}(h:∀x∈l,x<=k):l.sum<=l.length*k:=by
 induction l with
 |nil=>simp
 |cons x r ih=>have b:=h x ABj;have c:=ih λy a=>h y (List.mem_cons_of_mem _ a);rw[List.sum_cons,ABe,ABl];omega
theorem fG(d:Nat):∀l,Tq T d l->PM d l<=10*Hh d:=by
 induction d with
 |zero=>exactλ_ _=>Nat.zero_le _
 |succ d ih=>intro l ⟨h1,h2⟩;have f:Hh (d+1)=1+20*Hh d:=rfl;refine ABc (sum_le (k:=Hh (d+1)) ?_) (by rw[ABI];exact ABQ _ h1);intro x b;obtain⟨s,a,rfl⟩:=AB0.1 b;have c:=ih _ (h2 s a).body;have e:=ih _ (h2 s a).els;omega
theorem ZI{l:List AQ}{i:Nat}(h:i<l.length)(f:AQ->Nat):((l.take (i+1)).map f).sum=((l.take i).map f).sum+f l[i]:=by rw[<- AA2 h,ABL,List.sum_append];simp
theorem NA(l:List AQ)(i:Nat)(f:AQ->Nat):((l.take i).map f).sum<=(l.map f).sum:=by
 conv=>rhs;rw[<- ABq i l,ABL,List.sum_append]
 omega
theorem cst_le{d:Nat}(h:d<=4):Hh d<=8421:=by
 have:d=0\/d=1\/d=2\/d=3\/d=4:=by omega
 rcases this with rfl|rfl|rfl|rfl|rfl<;>decide
theorem zI(d:Nat):∀(n:Nat)(l:List AQ),d<=4->d+1<=n->Tq T d l->B7 (Gt n l) λr=>r=(PM d l:Int):=by
 induction d with
 |zero=>intro n l _ hn ⟨_,h⟩;obtain⟨n,rfl⟩:∃k,n=k+1:=⟨n-1,by omega⟩;have:l=[]:=ABP.2 λx a=>(h x a).elim;subst this;show B7 (Cz (Gt n) []) _;exact tR rfl
 |succ d ih=>
  intro n l hd hn ⟨h1,h2⟩;obtain⟨n,rfl⟩:∃k,n=k+1:=⟨n-1,by omega⟩;show B7 (Cz (Gt n) l) _;unfold Cz;have t:=cst_le (d:=d) (by omega);have g:=fG (T:=T) (d+1) l ⟨h1,h2⟩;have o:=cst_le hd
  let f:AQ->Nat:=λs=>1+PM d s.Body+PM d s.Else
  refine QO l.length (λi (s:Int)=>s+i=((l.take i).map f).sum+l.length) (F:=λn s i=>Cz.AZ _ l n s i) (by omega) (by simp) λm i s hi y k=> ?_;unfold Cz.AZ Cz.L1 Cz.J1;have w:=NA l i f;have C:PM (d+1) l=(l.map f).sum:=rfl;refine tD (λj=>cL (by omega) ?_) λ_=>tR ?_
  . have a:l[i]∈l:=AA0 (by omega);have b:=(h2 _ a).body;have c:=(h2 _ a).els;have p:=fG d _ b;have q:=fG d _ c;have e:=NA l (i+1) f;have st:=ZI (by omega) f (i:=i) (l:=l);refine tB (ih n _ (by omega) (by omega) b) λv B=>tB (ih n _ (by omega) (by omega) c) λu z=>k _ (by omega) ?_;rw[CH (n:=s+v) (by omega) (by omega),CH (by omega) (by omega),st];grind
  grind
theorem cK{l:List Co}{i:Nat}(h:i<l.length)(f:Co->Nat):((l.take (i+1)).map f).sum=((l.take i).map f).sum+f l[i]:=by rw[<- AA2 h,ABL,List.sum_append];simp
theorem check60{p:AR}(h:MP p):B7 (A5 p) λr=>r.1=0->(p.AA.map λt=>PM 4 t.Body).sum<=60:=by
 have hd:=h.dl;have j:=h.t;have D:Hh 4=8421:=rfl;have N:∀{a b:Int}{P:Prop},(a != 0)=true->B7 (some (a,b)) λr:Int×Int=>r.1=0->P:=λh=>tR λB=>by simp_all
 unfold A5;refine Iq (XO h) λ_=>tI (λ_=>N rfl) λ_=>Iq (aU h) λ_=>tI (λh=>N h) λ_=>tI (λ_=>N rfl) λ_=>Iq (Vn h) λ_=>tI (λh=>N h) λ_=> ?_
 let f:Co->Nat:=λt=>PM 4 t.Body
 have c:∀t∈p.AA,f t<=84210:=λt j=>by have:=fG 4 _ (h.b t j);grind
 refine QO p.AA.length (λi (s:Int)=>s=((p.AA.take i).map f).sum/\s<=i*84210) (F:=λn s i=>A5.AZ p n s i) (by omega) (by simp) λm i s hi g k=> ?_;unfold A5.AZ A5.L1 A5.J1;refine tD (λ_=>cL (by omega) (tB (zI 4 _ _ (by omega) (Mf (by omega)) (h.b _ (AA0 (by omega)))) λv o=>k _ (by omega) ?_)) λE=>tD (λ_=>N rfl) λu=> ?_
 . have st:=cK (l:=p.AA) (i:=i) (by omega) f;have C:=c _ (AA0 (show i<p.AA.length by omega));have e:f p.AA[i]=PM 4 p.AA[i].Body:=rfl;rw[CH (by omega) (by omega),st];omega
 have d:i=p.AA.length:=by omega
 rw[d,List.take_length]at g;have q:(p.AA.map f).sum<=60:=by omega
 refine QO p.AA.length (λi w=>WK p 0 (i*84210) w) (F:=λn s i=>A5.Cr p n s i) (by omega) ⟨rfl,rfl,by simp,by simp⟩ λm i s hi c k=> ?_;unfold A5.Cr A5.L2 A5.J2;refine tD (λz=>tG (by omega) λx y=> ?_) λ_=>tR λ_=>q;refine tB (qH h 4 _ 0 (i*84210) _ _ (Mf (by omega)) (by omega) (by omega) ⟨c.p,c.a,c.s,c.t⟩ (h.b x y)) λv o=>tI (λh=>N h) λ_=>k _ (by omega) (o.mono (by omega))
def SN(t nv:Int)(l:List Da):Prop:=∀(j:Nat) x,l[j]? =some x->x.Thread=t/\x.Stmt=nv+j
theorem SN.app{t d:Int}{a b:List Da}(h:SN t d a)(g:SN t (d+a.length) b):SN t d (a++b):=by
 intro j x c;by_cases e:j<a.length
 . rw[ABA e]at c;exact h j x c
 . rw[ABC (by omega)]at c
   have:=g _ x c;omega
theorem SN.one{t a l:Int}:SN t a [⟨t,a,l⟩]:=by intro j x b;grind
theorem sites_ok(d:Nat):∀(n:Nat)(o:List Da)(t a:Int)(l:List AQ),d+1<=n->o.length+PM d l<=900000->(0<=a/\a+PM d l<=900000)->Tq T d l->B7 (Gu n o t a l) λr=>∃S,r.1=o++S/\S.length=PM d l/\SN t a S/\r.2=a+PM d l:=by
 induction d with
 |zero=>intro n o t a l hn _ _ ⟨_,h⟩;obtain⟨n,rfl⟩:∃k,n=k+1:=⟨n-1,by omega⟩;have:l=[]:=ABP.2 λx b=>(h x b).elim;subst this;show B7 (C0 (Gu n) o t a []) _;exact tR ⟨[],by simp,rfl,λj x b=>by simp at b,by simp[PM]⟩
 |succ d ih=>
  intro n o t a l hn I J ⟨h1,h2⟩;obtain⟨n,rfl⟩:∃k,n=k+1:=⟨n-1,by omega⟩;show B7 (C0 (Gu n) o t a l) _;unfold C0
  let f:AQ->Nat:=λs=>1+PM d s.Body+PM d s.Else
  have K:PM (d+1) l=(l.map f).sum:=rfl;refine QO l.length (λi (s:List Da×Int)=>∃S,s.1=o++S/\S.length=((l.take i).map f).sum/\SN t a S/\s.2=a+((l.take i).map f).sum) (F:=λm s i=>C0.AZ _ l t m s.1 s.2 i) (s0:=(o,a)) (by omega) ⟨[],by simp,rfl,λj x b=>by simp at b,by simp⟩ λm i s hi C k=> ?_;obtain⟨S,q,c,w,g⟩:=C;unfold C0.AZ C0.L1 C0.J1;refine tD (λG=>cL (by omega) ?_) λL=> ?_
  . have st:=ZI (l:=l) (i:=i) (by omega) f;have B:=NA l (i+1) f;have b:l[i]∈l:=AA0 (by omega);have H:f l[i]=1+PM d l[i].Body+PM d l[i].Else:=rfl;have p:s.1.length=o.length+((l.take i).map f).sum:=(by rw[q,ABK,c]);refine tC (Bh (by omega)) ?_;rw[g,CH (n:=a+((l.take i).map f).sum+1) (by omega) (by omega)];refine tB (ih n _ t _ _ (by omega) (by simp;omega) (by omega) (h2 _ b).body) λv z=> ?_;obtain⟨S2,Q,R,E,U⟩:=z;refine tB (ih n _ t _ _ (by omega) (by grind) (by omega) (h2 _ b).els) λu D=> ?_;obtain⟨y,M,N,O,P⟩:=D;refine k (_,_) (by omega) ⟨S++([⟨t,a+((l.take i).map f).sum,l[i].FA⟩]++(S2++y)),?_,?_,?_,?_⟩
    . simp_all
    . grind
    . refine w.app ?_;rw[c];refine SN.one.app ?_;rw[show a+((l.take i).map f).sum+(([⟨t,a+((l.take i).map f).sum,l[i].FA⟩]:List Da).length:Int)=a+((l.take i).map f).sum+1 from by simp];refine E.app ?_;simp_all
    omega
  . have e:i=l.length:=(by omega);subst e;rw[List.take_length]at c g;exact tR ⟨S,q,c,w,g⟩
end
section
variable{T:AB9->Prop}{g h r:A9}{lo hi lo' hi':Int}
def BS(T:AB9->Prop)(R:A9->List AQ->AB8 A9)(l:List AQ)(n:Nat):Prop:=
 ∀g,GW T g->(0<=g.next/\g.next+n<=1000000)->MS (R g l) λr=>GV g r g.next (g.next+n)/\r.next=g.next+n
theorem Qh{l k:List Ac}{i:Nat}(h:i<l.length):(l++k)[i]? =l[i]? :=ABA h
theorem Wz{l:List Ac}{x:Ac}:(l++[x])[l.length]? =some x:=by simp
theorem mN{R:A9->List AQ->AB8 A9}{s:AQ}{n:Nat}(o:GW T g)(j:lo<=g.site/\g.site<hi)(hn:0<=g.next/\g.next+n<=1000000)(t:lo<=g.next)(q:g.next+n<=hi)(m:BS T R s.Body n){a b c:Int}(x:11<=a/\a<=25)(y:11<=b/\b<=25)(i:∀p S,p=a\/p=b->AM g.w ⟨p,c,0,0,0,S⟩=some true):MS (DD R g s a b c) λr=>GV g r lo hi/\r.next=g.next+n:=by
 unfold DD;refine pB (rU (lo:=lo) (hi:=hi) ⟨by simp only;omega,i _ _ (.inl rfl),by rw[rg0 (by simp only;omega)];simp,j,by simp only;omega,by simp only;omega⟩ (by simp only;omega)) λv d=> ?_;have e:=m v (o.next d.1) (by rw[d.2.2];exact hn);rw[d.2.2]at e;refine pB e λu k=> ?_;have f:=d.1.trans (k.1.mono t q);have l:=f.site g.site u.next;refine pM (Ii (lo:=lo) (hi:=hi) ⟨by simp only;omega,?_,by rw[rg0 (by simp only;omega)];simp,j,by simp only;omega,by simp only;omega⟩ (by simp only;omega)) λ_ h=>⟨l.trans h.1,h.2.2.trans k.2⟩;simp only;rw[f.w];exact i _ _ (.inr rfl)
theorem dG{R:A9->List AQ->AB8 A9}{s:AQ}{n m:Nat}(H:GW T g)(P:lo<=g.site/\g.site<hi)(hn:0<=g.next/\g.next+n+m<=1000000)(hl:lo<=g.next)(hh:g.next+n+m<=hi)(O:Tp 2 s.Expr)(hR:BS T R s.Body n)(hE:BS T R s.Else m)(h3:s.Op=3->m=0)(h0:s.Else=[]->m=0):MS (Cv R g s) λr=>GV g r lo hi/\r.next=g.next+n+m:=by
 have Z:(g.locals.length:Int)=2:=by rw[H.l];rfl
 unfold Cv;rw[Z];refine pB (UW O H P (by omega)) λd hd=> ?_;have dL:(d.locals.length:Int)=2:=by rw[hd.1.l];exact Z
 rw[dL];refine pB (put_eq _) λq hq=> ?_;have Ja:d.site=g.site:=hd.2.1;have u:d.next=g.next:=hd.2.2;subst hq;have I:=H.next hd.1;have j:=hR ⟨d.w,d.locals,d.out++[⟨10,2,0,0,0,d.site⟩],d.site,d.next⟩ ⟨I.w,I.l⟩ (by simp only;rw[u];omega);refine pB j λb t=> ?_;obtain⟨t,G⟩:=t;simp only at G;rw[u]at G;have t:=t.mono (lo':=lo) (hi':=hi) (by simp only;rw[u];exact hl) (by simp only;rw[u];omega);have q1:=hd.1.n;have b1:d.out.length+1<=b.out.length:=by have:=t.n;simpa using this
 have L:∀i,i<d.out.length+1->b.out[i]? =(d.out++[(⟨10,2,0,0,0,d.site⟩:Ac)])[i]? :=λi hi=>t.p i (by simpa using hi);have V:SG d.w lo hi b.out (d.out.length+1) b.out.length b.out.length:=by have:=t.s;simpa using this
 have D:b.w=g.w:=t.w.trans hd.1.w;have J:b.locals=g.locals:=t.l.trans hd.1.l;have dw:=hd.1.w;rw[dw]at V
 -- a list that goes on as these do, but for the branch
 have val:∀(F:List Ac),b.out.length<=F.length->(∀i,i<d.out.length->F[i]? =b.out[i]?)->SG g.w lo hi F g.out.length d.out.length F.length:=λF f1 f2=>
  hd.1.s.frame (λi _ hi=>by rw[f2 i hi,L i (by omega),Qh hi]) (by omega) (by omega) (by omega) (by omega)
 have C:∀(F:List Ac),(∀i,i<d.out.length->F[i]? =b.out[i]?)->∀i,i<g.out.length->F[i]? =g.out[i]? :=λF f2 i hi=>by rw[f2 i (by omega),L i (by omega),Qh (by omega),hd.1.p i hi]
 have v:∀(F:List Ac)(c:Nat),b.out.length<=F.length->b.out.length<=c->(∀i,d.out.length<i->i<b.out.length->F[i]? =b.out[i]?)->SG g.w lo hi F (d.out.length+1) b.out.length c:=λF c f1 E f2=>
  V.frame (λi j o=>(f2 i (by omega) o).symm) f1 (by omega) (by omega) E
 have M:∀(c:Nat)(B:Nat),B<=c->LV g.w lo hi c ⟨10,2,(B:Int),0,0,d.site⟩:=λc B X=>⟨by simp,o7 (by simp),by rw[rg10 rfl];exact eL (x:=0) (by simp),by simp only;rw[Ja];exact P,by simp,λ_=>by simp only;omega⟩;have ju:∀(c:Nat)(A:Nat),A<=c->LV g.w lo hi c ⟨5,(A:Int),0,0,0,g.site⟩:=λc A W=>⟨by simp,o7 (by simp),by rw[rg0 (.inl rfl)];simp,P,λ_=>by simp only;omega,by simp⟩;have bd:b.out[d.out.length]? =some ⟨10,2,0,0,0,d.site⟩:=by rw[L _ (by omega)];exact Wz
 refine pI (λh=> ?_) λPk=>pI (λh=> ?_) λhne2=> ?_
 . -- a loop
   have hm:=h3 (eq_of_beq h);refine pB (put_eq _) λe O=> ?_;subst O;refine pE (y:=⟨10,2,0,0,0,d.site⟩) (by rw[JR];simp only;rw[Qh (by omega)];exact bd) (pR ⟨?_,by simp only;omega⟩);simp only;generalize a:(b.out++[(⟨5,(g.out.length:Int),0,0,0,g.site⟩:Ac)]).set d.out.length ⟨10,2,((b.out++[(⟨5,(g.out.length:Int),0,0,0,g.site⟩:Ac)]).length:Int),0,0,d.site⟩=F;have fl:F.length=b.out.length+1:=(by rw[<- a];simp);have f1:∀i,i≠d.out.length->i<b.out.length->F[i]? =b.out[i]? :=λi j o=>(by rw[<- a,AAn (by omega),Qh o]);have f2:F[d.out.length]? =some ⟨10,2,((b.out.length+1:Nat):Int),0,0,d.site⟩:=(by rw[<- a,AAk (by simp;omega)];simp);have E:F[b.out.length]? =some ⟨5,(g.out.length:Int),0,0,0,g.site⟩:=(by rw[<- a,AAn (by omega)];exact Wz);refine⟨D,J,by simp only;omega,C F λi hi=>f1 i (by omega) (by omega),?_⟩;simp only
   have:=SG.back (val F (by omega) λi hi=>f1 i (by omega) (by omega)) f2 (M _ _ (by omega)) rfl (v F F.length (by omega) (by omega) λi j o=>f1 i (by omega) o) E (ju _ _ (by omega)) rfl rfl;rw[fl]at this |-;exact this
 . -- without another part
   have hm:m=0:=h0 (by have:=eq_of_beq h;exact List.length_eq_zero_iff.1 (by omega));refine pE (y:=⟨10,2,0,0,0,d.site⟩) (by rw[JR];exact bd) (pR ⟨?_,by simp only;omega⟩);simp only;generalize a:b.out.set d.out.length ⟨10,2,(b.out.length:Int),0,0,d.site⟩=F;have fl:F.length=b.out.length:=(by rw[<- a];simp);have f1:∀i,i≠d.out.length->F[i]? =b.out[i]? :=λi j=>(by rw[<- a,AAn (by omega)]);have f2:F[d.out.length]? =some ⟨10,2,(b.out.length:Int),0,0,d.site⟩:=(by rw[<- a,AAk (by omega)]);refine⟨D,J,by simp only;omega,C F λi hi=>f1 i (by omega),?_⟩;simp only
   have:=((val F (by omega) λi hi=>f1 i (by omega)).app (SG.one f2 (M _ _ (by omega)) (by simp))).app (v F F.length (by omega) (by omega) λi j o=>f1 i (by omega));rw[fl]at this |-;exact this
 . -- with another part
   refine pB (put_eq _) λf hf=> ?_;subst hf;refine pE (y:=⟨10,2,0,0,0,d.site⟩) (by rw[JR];simp only;rw[Qh (by omega)];exact bd) ?_;simp only;generalize a:(b.out++[(⟨5,0,0,0,0,g.site⟩:Ac)]).set d.out.length ⟨10,2,((b.out++[(⟨5,0,0,0,0,g.site⟩:Ac)]).length:Int),0,0,d.site⟩=F;have fl:F.length=b.out.length+1:=(by rw[<- a];simp);have f1:∀i,i≠d.out.length->i<b.out.length->F[i]? =b.out[i]? :=λi j o=>(by rw[<- a,AAn (by omega),Qh o]);have f2:F[d.out.length]? =some ⟨10,2,((b.out.length+1:Nat):Int),0,0,d.site⟩:=(by rw[<- a,AAk (by simp;omega)];simp);have E:F[b.out.length]? =some ⟨5,0,0,0,0,g.site⟩:=(by rw[<- a,AAn (by omega)];exact Wz);have h4:=hE ⟨b.w,b.locals,F,g.site,b.next⟩ ⟨by simp only;rw[D];exact H.w,J.trans H.l⟩ (by simp only;omega);refine pB h4 λi hi=> ?_;obtain⟨z,V1⟩:=hi;simp only at V1;have z:=z.mono (lo':=lo) (hi':=hi) (by simp only;omega) (by simp only;omega);have i1:b.out.length+1<=i.out.length:=(by have:=z.n;simp only[fl]at this;exact this);have Q:∀k,k<b.out.length+1->i.out[k]? =F[k]? :=λk hk=>z.p k (by simp only[fl];exact hk);have is:SG g.w lo hi i.out (b.out.length+1) i.out.length i.out.length:=(by have:=z.s;simp only[fl,D]at this;exact this);refine pE (y:=⟨5,0,0,0,0,g.site⟩) (by rw[JR,Q _ (by omega)];exact E) (pR ⟨?_,by simp only;omega⟩);simp only;generalize N:i.out.set b.out.length ⟨5,(i.out.length:Int),0,0,0,g.site⟩=K;have kl:K.length=i.out.length:=(by rw[<- N];simp);have S:∀k,k≠b.out.length->K[k]? =i.out[k]? :=λk j=>(by rw[<- N,AAn (by omega)]);have U:∀k,k≠d.out.length->k<b.out.length->K[k]? =b.out[k]? :=λk j o=>(by rw[S k (by omega),Q k (by omega),f1 k j o]);have k3:K[d.out.length]? =some ⟨10,2,((b.out.length+1:Nat):Int),0,0,d.site⟩:=(by rw[S _ (by omega),Q _ (by omega)];exact f2);have k4:K[b.out.length]? =some ⟨5,(i.out.length:Int),0,0,0,g.site⟩:=(by rw[<- N,AAk (by omega)]);refine⟨z.w.trans D,z.l.trans J,by simp only;omega,C K λi hi=>U i (by omega) (by omega),?_⟩;simp only;have W:=((val K (by omega) λi hi=>U i (by omega) (by omega)).app (SG.one k3 (M _ _ (by omega)) (by simp))).app (v K K.length (by omega) (by omega) λi j o=>U i (by omega) o);have X:SG g.w lo hi K (b.out.length+1) i.out.length K.length:=is.frame (λk j _=>(S k (by omega)).symm) (by omega) (by omega) (by omega) (by omega)
   have:=W.jump k4 (ju _ _ (by omega)) rfl rfl X;rw[kl]at this |-;exact this
theorem sE(d:Nat):PM d []=0:=by cases d<;>rfl
end
end Go.Abs
