/- What the typed programs give, in plain Lean. -/
import Derived.Test.YtdojkofgkcmagaaGreatDoorWalkF
import Derived.Test.YtdojkofgkcmagaaGreatDoorPlainA
set_option linter.defProp false
set_option linter.unusedSimpArgs false
set_option linter.unusedVariables false
namespace Go.Abs
set_option maxHeartbeats 4000000
def UA(t t':AU):Prop:=DG t'/\t'.L=t.L/\t.At<=t'.At
def UA.trans{a b c:AU}(h:UA a b)(k:UA b c):UA a c:=⟨k.1,k.2.1.trans h.2.1,Int.le_trans h.2.2 k.2.2⟩
def El{t:AU}(b:DG t){n:Int}(hn:0<n/\n<1000):CD (Ah t n) λr=>(0<=r.1/\r.1<n)/\UA t r.2/\(t.At<t.L.length->t.At<r.2.At):=by
 have e:=b.l;have f:=b.a;unfold Ah Ah.J1;rw[B9 (n:=t.At+1) ah ah,B9 (n:=t.At+1-1) ah ah];refine tI (λh=> ?_) λh=> ?_
 . have h:=AAO h;exact tI (λ_=>tR ⟨⟨ah,hn.1⟩,⟨b,rfl,ak⟩,λ_=>ah⟩) λh=>by cases h
 . have d:¬t.At>=(t.L.length:Int):=(by simpa using h);refine tI (λh=>absurd (AAO h) ah) λ_=> ?_;refine tG ah λx c=>tC ah (tR ⟨?_,⟨⟨b.l,bg,b.u⟩,rfl,bg⟩,λ_=>bg⟩);have c:=b.u x c;rw[B9 ah ah];exact⟨Int.tmod_nonneg _ c.1,Int.tmod_lt_of_pos _ hn.1⟩
def FA:AD:=(Gd).getD ⟨[],[],[],[],[],[]⟩
def bL:Gd=some FA:=by decide +kernel
def yX:Ce FA=true:=by decide +kernel
def Tl:FA.Cells.length=5:=by decide +kernel
def YY:FA.AF.length=3:=by decide +kernel
def YX:FA.AK.length=1:=by decide +kernel
def Tm:FA.AA.length=4:=by decide +kernel
variable{o u:Int}
theorem p9{b:AU}(f:DG b)(k:0<=u/\u<4):CD (Cw b o u) λr=>(o=3\/o=4->0<=r.1/\r.1<5)/\UA b r.2:=by
 have hn:UA b b:=⟨f,rfl,Int.le_refl _⟩;have g:∀p,o≠3->o≠4->CD (Cw.J5 b u p) λr=>(o=3\/o=4->0<=r.1/\r.1<5)/\UA b r.2:=by intro p c d;unfold Cw.J5;refine tI (λ_=>tB (El f ah) ?_) λ_=>tR ⟨λh=>ah,hn⟩;rintro r ⟨_,h,_⟩;exact tR ⟨λh=>ah,h⟩
 have d:∀p,o≠3->o≠4->CD (Cw.J4 o b u p) λr=>(o=3\/o=4->0<=r.1/\r.1<5)/\UA b r.2:=by intro p c d;unfold Cw.J4;exact tI (λ_=>tR ⟨λh=>ah,hn⟩) λ_=>tI (λ_=>g _ c d) λ_=>g _ c d
 have c:∀p,o≠3->o≠4->CD (Cw.J3 o b u p) λr=>(o=3\/o=4->0<=r.1/\r.1<5)/\UA b r.2:=by
  intro p c a;unfold Cw.J3;refine tI (λ_=>tR ⟨λh=>ah,hn⟩) λ_=> ?_
  iterate 5 refine tI (λ_=>d _ c a) λ_=> ?_
  exact d _ c a
 have m:∀p,o≠3->o≠4->CD (Cw.J2 o b u p) λr=>(o=3\/o=4->0<=r.1/\r.1<5)/\UA b r.2:=by
  intro p e a;unfold Cw.J2;refine tI (λ_=>tB (El f ah) ?_) λ_=> ?_
  . rintro r ⟨_,h,_⟩;exact tR ⟨λh=>ah,h⟩
  iterate 3 refine tI (λ_=>c _ e a) λ_=> ?_
  exact c _ e a
 have l:∀p,(p=false->o≠3/\o≠4)->CD (Cw.J1 o b u p) λr=>(o=3\/o=4->0<=r.1/\r.1<5)/\UA b r.2:=by
  intro p n;unfold Cw.J1;refine tI (λ_=>tB (El f ah) ?_) λh=> ?_
  . rintro r ⟨j,h,_⟩;refine tG ah λx i=>tR ⟨λ_=> ?_,h⟩;simp only[AAn,AA3,AA2]at i;omega
  . grind
 unfold Cw;grind
theorem VJ(s:AB)(f:s.Sync.AA.length<=500):CD (EB s) λr=>r.length<=s.Sync.AA.length:=by
 have e:=BO;have key:∀n (i:Nat) (c:dc),s.Sync.AA.length<n+i->i<=s.Sync.AA.length->c.length<=i->CD (EB.Aa s n c i) λr=>r.length<=s.Sync.AA.length:=by
  intro n;induction n with
  |zero=>omega
  |succ n ih=>intro i c a b d;unfold EB.Aa EB.L1;refine tI (λh=> ?_) λ_=>tR ah;have h:=AAO h;unfold EB.J1;rw[Aj ah];refine tG ah λx _=>tI (λ_=>tC (Bm ah) ?_) λ_=>ih (i+1) c ah ah ah;exact ih (i+1) _ ah ah an
 exact key BW 0 [] ah ah ak
variable{s:AB}
theorem zH{b:AU}(a:DG b)(e:s.Sync.AA.length<=500)(g:u=3->0<=o/\o<(s.Cells.length:Int))(i:0<s.AK.length):CD (Gf b s u o) λr=>UA b r.2:=by
 have hn:UA b b:=⟨a,rfl,Int.le_refl _⟩;have d:∀p,CD (Gf.J1 u s b p) λr=>UA b r.2:=by
  intro p;unfold Gf.J1;refine tI (λ_=>tB (El a ah) λr h=>tR h.2.1) λ_=>tI (λ_=>tB (El a ah) λr h=>tR h.2.1) λ_=>tI (λ_=> ?_) λ_=>tI (λ_=> ?_) λ_=>tR hn
  . refine tB (VJ s e) λl c=>tI (λh=> ?_) λ_=>tR hn;have h:=AAO h;refine tB (El a ah) ?_;rintro r ⟨f,h,_⟩;exact tG f λx _=>tR h
  . exact tB (VJ s e) λl c=>tR hn
 unfold Gf;refine tI (λh=>tG (g bg) λx _=>tR hn) λ_=>tI (λ_=>tG ah λx _=>tR hn) λ_=>tI (λ_=>d _) λ_=>d _
variable{c:dc}
theorem lV{b:AU}(m:DG b)(u:c.length<=1000):CD (Ek b c) λr=>r.1.length<=c.length/\UA b r.2:=by
 have o:=BO;have key:∀n (i:Nat) (d:AU) (l:dc),c.length<n+i->i<=c.length->l.length<=i->DG d->UA b d->CD (Ek.Aa c n d l i) λr=>r.1.length<=c.length/\UA b r.2:=by
  intro n;induction n with
  |zero=>omega
  |succ n ih=>intro i d l q s t hd e;unfold Ek.Aa Ek.L1;refine tI (λh=> ?_) λ_=>tR ⟨bg,e⟩;have h:=AAO h;have j:∀a f p,DG a->UA b a->CD (Ek.J1 (Ek.Aa c n) l i f a p) λr=>r.1.length<=c.length/\UA b r.2:=(by intro a f p g k;unfold Ek.J1 Ek.J2;rw[Aj ah];exact tI (λ_=>tC (Bm ah) (ih (i+1) a _ ah ah an g k)) λ_=>ih (i+1) a l ah ah ah g k);refine tG ah λx _=>tI (λ_=>tB (El hd ah) ?_) λ_=>j _ _ _ hd e;rintro r ⟨_,h,_⟩;exact j _ _ _ h.1 (e.trans h)
 exact key BW 0 b [] ah ah ak m ⟨m,rfl,Int.le_refl _⟩
structure EvM (q:AU) (r:AG×AU):Prop where
 t:0<=r.1.Thread/\r.1.Thread<4
 d:r.1.Dw.length<=1000
 f:r.1.DM.length<=1000
 a:UA q r.2
 s:q.At<q.L.length->q.At<r.2.At
variable{wv:AD}{K:du}
theorem wD{q:AU}(P:DG q)(O:s.Sync.AA.length<=500)(W:5<=s.Cells.length)(U:5<=wv.Cells.length)(N:0<s.AK.length)(V:K.length=4)(u:∀l∈K,l.length<=1000):CD (DO q s wv K) (EvM q):=by
 unfold DO Me;refine tB (El P ah) ?_;rintro a ⟨a0,F,I⟩;rw[AAB];refine tB (El F.1 ak) ?_;rintro t ⟨T,E,_⟩;refine tG T λo X=> ?_;refine tB (El E.1 ah) ?_;rintro i ⟨i0,iA,_⟩;have R:UA q i.2:=(F.trans E).trans iA;have M:q.At<q.L.length->q.At<i.2.At:=λh=>by have:=I h;have:=E.2.2;have:=iA.2.2;omega
 have G:∀(p:AU)(e:AG),UA q p->(q.At<q.L.length->q.At<p.At)->e.Thread=a.1->e.Dw.length<=1000->e.DM.length<=1000->CD (DO.J6 p e) (EvM q):=λp e b d f k m=>tR ⟨am,k,m,b,d⟩;have m:∀(p:AU)(e:AG) z,UA q p->(q.At<q.L.length->q.At<p.At)->e.Thread=a.1->e.Dw.length<=1000->e.DM.length<=1000->CD (DO.J5 e K p a z) (EvM q):=by intro p e z b d f k m;unfold DO.J5;refine tI (λ_=>tG ah λx r=>tB (lV b.1 (u x r)) ?_) λ_=>G _ _ b d f k m;rintro v ⟨n,g2⟩;exact G _ _ (b.trans g2) (λh=>by have:=d h;have:=g2.2.2;omega) f k (AA5 n (u x r))
 have k:∀(p:AU)(e:AG),UA q p->(q.At<q.L.length->q.At<p.At)->e.Thread=a.1->e.Dw.length<=1000->e.DM.length<=1000->CD (DO.J4 K a p e) (EvM q):=by intro p e b d f k g;unfold DO.J4;exact tI (λ_=>m _ _ _ b d f k g) λ_=>m _ _ _ b d f k g
 have f:∀(c:AG)(j l:d4) y,UA q l.2->(q.At<q.L.length->q.At<l.2.At)->c.Thread=a.1->c.Dw.length<=1000->c.DM.length<=1000->CD (DO.J3 c K a j l y) (EvM q):=by intro c j l y b d f C g;unfold DO.J3;refine tI (λ_=>tG ah λx r=>tB (lV b.1 (u x r)) ?_) λ_=>k _ _ b d f C g;rintro v ⟨n,g2⟩;exact k _ _ (b.trans g2) (λh=>by have:=d h;have:=g2.2.2;omega) f (AA5 n (u x r)) g
 have d:∀(c:AG),c.Thread=a.1->c.Dw.length<=1000->c.DM.length<=1000->CD (DO.J2 K s a i wv c) (EvM q):=by
  intro c n g2 J;unfold DO.J2;refine tB (p9 iA.1 a0) ?_;rintro j ⟨j0,D⟩;refine tB (zH D.1 O ck N) ?_;intro l H;have Q:UA q l.2:=(R.trans D).trans H;have S:q.At<q.L.length->q.At<l.2.At:=λh=>by have:=M h;have:=D.2.2;have:=H.2.2;omega
  have B:=λy=>f c j l y Q S n g2 J;refine tI (λ_=>B _) λ_=>tI (λh=> ?_) λ_=>tI (λh=> ?_) λ_=>B _
  . have:=j0 (.inl bg);exact tG ah λx _=>B _
  . have:=j0 (.inr bg);exact tG ah λx _=>B _
 unfold DO.J1;grind
theorem nG(wv:AD)(s:AP)(t k o wake:Int):(DH wv s t k o wake).1.AF.length=s.AF.length/\(DH wv s t k o wake).1.Bn.length=s.Bn.length/\(DH wv s t k o wake).1.AA.length=s.AA.length:=by
 have key:∀(p:Prop) [Decidable p] (a b:AP×Int),(a.1.AF.length=s.AF.length/\a.1.Bn.length=s.Bn.length/\a.1.AA.length=s.AA.length)->(b.1.AF.length=s.AF.length/\b.1.Bn.length=s.Bn.length/\b.1.AA.length=s.AA.length)->
  ((if p then a else b).1.AF.length=s.AF.length/\(if p then a else b).1.Bn.length=s.Bn.length/\(if p then a else b).1.AA.length=s.AA.length):=by
  intro p _ a b d e;split<;>assumption
 unfold DH
 repeat' refine key _ _ _ ?_ ?_
 all_goals first
  |exact⟨rfl,rfl,rfl⟩
  | (simp only[KH,KG,List.length_set,AAo,and_self];done)
  | (by_cases c:CQ o 0 s.AA=[]<;>simp only[c,AAi,AAT,KH,List.length_set,and_self])
theorem oU(h:IG wv s=true)(e:AG):IG wv (Ef wv s e)=true:=by
 obtain⟨a,f,g,i⟩:=KS h;obtain⟨b,g2,d⟩:=D9 a;have j:wv.Ai.all (λc=>Cu c.Mutex wv.AF.length)=true:=by unfold GQ at a;simp only[AAD]at a;exact a.1
 obtain⟨k,l,m⟩:=nG wv s.Sync e.Thread e.Kind e.Obj (if e.Kind=18 then e.Value else -1)
 simp only[IG,GQ,Ef,AAD,AAR];grind
def YZ:Small FA:=DX yX
structure SC (N:Nat) (s:AB):Prop where
 f:IG FA s=true
 r:RB N s.Sync
variable{k:Nat}
theorem SC.len(h:SC k s):s.Sync.AA.length=4/\s.Cells.length=5/\s.AK.length=1/\s.Count.length=4/\s.Sync.AF.length=3/\s.Sync.Bn.length=1:=by
 obtain⟨a,d,e,g⟩:=KS h.f;obtain⟨b,g2,c⟩:=D9 a
 have:=Tl;have:=YY;have:=YX;have:=Tm;omega
variable{n:Nat}
def SC.mono(h:SC k s)(a:k<=n):SC n s:=⟨h.f,h.r.mono a⟩
theorem SC.step{N:Nat}{s:AB}(h:SC N s)(b:N<=1000){e:AG}(a:I6 e):CD (Bj FA s e) λr=>r.2=true->SC (N+1) r.1:=by
 rw[Pg FA YZ s (h.r.mono ah) e a];refine tR ?_;unfold Oe;split
 . exactλ_=>⟨oU h.f e,h.r.apply _ _ _ _ _⟩
 simp_all
variable{b:Type}
def mem_set{l:List b}{a x:b}(h:x∈l.set n a):x∈l\/x=a:=AAh h
theorem yH(T:o<=60):∀(n:Nat)(t:AU)(s:AB)(c:dx)(R:du),DG t->(t.L.length:Int)-t.At<n->SC (c.length+20) s->c.length<=60->(∀e∈c,I6 e)->R.length=4->(∀l∈R,l.length<=c.length+1)->
 CD (B8.DF o FA n t s c R) λr=>r.1.length<=60/\∀e∈r.1,I6 e:=by
 intro n;induction n with
 |zero=>intro t s c R w h;have:=w.a;omega
 |succ n ih=>
  intro t s c R w hn q E D b M;have F:=q.len;have P:∀u,(u=true->(c.length:Int)<o/\t.At<(t.L.length:Int))->CD (B8.J4 (B8.DF o FA n) c R s t FA u) λr=>r.1.length<=60/\∀e∈r.1,I6 e:=by
   intro u N;unfold B8.J4 B8.J7;refine tI (λh=> ?_) λ_=>tR ⟨E,D⟩;obtain⟨O,x⟩:=N h;refine tB (wD w ah ah (by have:=Tl;omega) ah b λl p=>bg) λj g=> ?_;have K:I6 j.1:=⟨by have:=g.d;omega,by have:=g.f;omega⟩;refine tB (q.step ah K) λv G=> ?_;have S:=g.t;have Q:=g.s x;have J:=g.a.2.1;have k:(j.2.L.length:Int)-j.2.At<n:=(by rw[J];omega);refine tI (λ_=>ih _ _ _ _ g.a.1 k q E D b M) λI=> ?_;have G:=G am;have C:∀i,i.length=4->(∀l∈i,l.length<=c.length+2)->CD (B8.J6 (B8.DF o FA n) c j v i) λr=>r.1.length<=60/\∀e∈r.1,I6 e:=by
    intro i H I;unfold B8.J6;refine tC (Bm ah) (ih _ _ _ _ g.a.1 k am an ?_ H am);intro e k;rcases AAW.1 k with h|h
    . grind
    . simp_all
   have B:∀z,CD (B8.J5 (B8.DF o FA n) c R s j v z) λr=>r.1.length<=60/\∀e∈r.1,I6 e:=by
    intro z;unfold B8.J5;refine tI (λ_=>tG ah λy U=>tG ah λm _=>tC (Bm bg) (C _ am λl p=> ?_)) λ_=>C R b λl p=>bg;rcases mem_set p with h|h
    . grind
    . simp_all
   exact tI (λ_=>B _) λ_=>B _
  unfold B8.DF B8.L2;grind
theorem play_tot{t:AU}(C:DG t)(B:SC 20 s)(w:o<=60)(p:Bool):CD (B8 t s FA o p) λr=>r.1.length<=60/\∀e∈r.1,I6 e:=by
 have D:=BO;have j:=B.len;have b:=Tm;have key:∀(n i:Nat)(q:AU)(R:du),4<n+i->i<=4->DG q->R.length=4->(∀l∈R,l.length<=1)->(∀k (g:k<R.length),i<=k->R[k]=[])->CD (B8.Aa p o s FA n q R i) λr=>r.1.length<=60/\∀e∈r.1,I6 e:=by
  intro n;induction n with
  |zero=>omega
  |succ n ih=>
   intro i q R E F d f y u;unfold B8.Aa B8.L1;refine tI (λh=> ?_) λ_=> ?_
   . have h:=AAO h;simp only[ABL,b]at h;have c:∀(v:AU) z,DG v->CD (B8.J1 (B8.Aa p o s FA n) R i v z) λr=>r.1.length<=60/\∀e∈r.1,I6 e:=by
      intro v z m;unfold B8.J1 B8.J2;rw[Aj ah];refine tI (λ_=> ?_) λ_=>ih (i+1) v R ah ah m f y λk g h=>u k g ah;have hi:i<R.length:=ah;rw[CF hi,AAB,u i hi (AAe _)];refine tC (Bm ak) (ih (i+1) v _ ah ah m am ?_ ?_)
      . grind
      . grind
     refine tI (λ_=>tG ah λx _=>tI (λ_=>tB (El d ah) λr h=>c _ _ h.2.1.1) λ_=>c _ _ d) λ_=>c _ _ d
   . unfold B8.J3;refine yH w BW q s [] R d (by have:=d.l;have:=d.a;omega) ah ak ak f (λl G=>am)
 unfold B8;refine tC ⟨ah,ah,Bm ah⟩ (key BW 0 t _ ah ah C (by simp[b]) ?_ ?_)
 all_goals grind
variable{j:Int}
theorem Lg[Inhabited b]{l:List b}{a:b}(hi:Cu o l.length=true)(c:Cu j l.length=true):ix (l.set o.toNat a) j=if j=o then a else ix l j:=by have hi:=BF.1 hi;have c:=BF.1 c;unfold ix;grind
variable{a:Type}
theorem ix_map[Inhabited a][Inhabited b]{l:List a}{f:a->b}(c:Cu j l.length=true):ix (l.map f) j=f (ix l j):=by
 have c:=BF.1 c;have:j.toNat<l.length:=ah
 unfold ix;simp_all
structure TI (wv:AD) (B:Int->Prop) (L:List AW) (u:Int) (x:AH):Prop where
 s:0<=x.Status/\x.Status<=5
 b:B u↔2<=x.Status
 z:u=0->x.Status≠0
 c:x.Status=3\/x.Status=4->Cu x.Dg wv.Ai.length=true/\(ix L (ix wv.Ai x.Dg).Mutex).CG≠u
 n:x.Status≠3->x.Status≠4->x.Dg=0
 a:x.Atomic=true->2<=x.Status
structure LI (wv:AD) (B:Int->Prop) (i:Int) (x:AW):Prop where
 o:x.CG≠ -1->B x.CG
 w:x.Ak≠[]->(ix wv.AF i).RW=true/\x.CG= -1
 p:x.Ak.Pairwise (· < ·)
 r:∀y∈x.Ak,B y
structure YI (wv:AD) (B:Int->Prop) (s:AP):Prop where
 t:∀u,Cu u wv.AA.length=true->TI wv B s.AF u (ix s.AA u)
 l:∀i,Cu i wv.AF.length=true->LI wv B i (ix s.AF i)
 x:s.Tx≠ -1->B s.Tx
 b:∀u,B u->Cu u wv.AA.length=true
variable{P:iw}
section
variable{wv:AD}{B:iw}{s:AP}
theorem YI.KH(h:YI wv B s)(hn:s.AA.length=wv.AA.length){f:AH->AH}(hd:Cu o wv.AA.length=true)(c:TI wv B s.AF o (f (ix s.AA o))):YI wv B (KH s o f):=by
 refine⟨λu a=> ?_,h.l,h.x,h.b⟩;show TI wv B s.AF u (ix (s.AA.set o.toNat (f (ix s.AA o))) u);rw[Lg am am];by_cases e:u=o
 . simp_all
 . rw[AAK e];exact h.t u a
theorem YI.KG(h:YI wv B s)(p:∀i,Cu i wv.Ai.length=true->Cu (ix wv.Ai i).Mutex wv.AF.length=true)(hn:s.AF.length=wv.AF.length){f:AW->AW}(hi:Cu o wv.AF.length=true)(r:LI wv B o (f (ix s.AF o)))(k:(f (ix s.AF o)).CG= -1\/(f (ix s.AF o)).CG=(ix s.AF o).CG\/Cu (f (ix s.AF o)).CG wv.AA.length=true/\(ix s.AA (f (ix s.AF o)).CG).Status=2):YI wv B (KG s o f):=by
 refine⟨λu m=> ?_,λj q=> ?_,h.x,h.b⟩
 . have g:=h.t u m;refine⟨g.s,g.b,g.z,λd=>⟨(g.c d).1,?_⟩,g.n,g.a⟩;have d:(ix s.AA u).Status=3\/(ix s.AA u).Status=4:=d;have v:=p _ (g.c d).1;show(ix (s.AF.set o.toNat (f (ix s.AF o))) (ix wv.Ai (ix s.AA u).Dg).Mutex).CG≠u;rw[Lg am am];by_cases e:(ix wv.Ai (ix s.AA u).Dg).Mutex=o
   . rw[AAL e];have m:=BF.1 m;rcases k with k|k|k
     . omega
     . rw[k,<- e];exact(g.c d).2
     grind
   . rw[AAK e];exact(g.c d).2
 . show LI wv B j (ix (s.AF.set o.toNat (f (ix s.AF o))) j);rw[Lg am am];by_cases e:j=o
   . simp_all
   . rw[AAK e];exact h.l j q
theorem YI.congr(h:YI wv B s)(b:∀u,P u↔B u):YI wv P s:=by have:P=B:=funext λu=>propext (b u);simp_all
end
theorem eQ(l:dc):(Od l).Pairwise (· < ·):=by exact LM l
theorem XE{s:AP}(h:GQ wv s=true)(t k o wake:Int):GQ wv (DH wv s t k o wake).1=true:=by
  have d:wv.Ai.all (λc=>Cu c.Mutex wv.AF.length)=true:=by unfold GQ at h;simp only[AAD]at h;exact h.1
  have key:∀(p:Prop) [Decidable p] (a b:AP×Int),GQ wv a.1=true->GQ wv b.1=true->GQ wv (if p then a else b).1=true:=by intro p _ a b j l;split<;>assumption
  obtain⟨e,f,g⟩:=D9 h;unfold DH
  repeat' refine key _ _ _ ?_ ?_
  all_goals first
    |exact h
    | (simp[GQ,KH,KG,d,e,f,g];done)
    | (by_cases i:CQ o 0 s.AA=[]
       . simp_all
       . simp[i,GQ,KH,d,e,f,g])
def mutex_of{s:AP}(h:GQ wv s=true):∀o,Cu o wv.Ai.length=true->Cu (ix wv.Ai o).Mutex wv.AF.length=true:=λ_ a=>G1 h a
theorem waits_in{s:AP}(hn:s.AA.length=wv.AA.length)(h:u∈CQ o 0 s.AA):Cu u wv.AA.length=true/\(ix s.AA u).Status=3:=by
 have key:∀(T:ep)(i:Nat)(u:Int),u∈CQ o i T->∃x,T[(u-i).toNat]? =some x/\x.Status=3:=by
  intro T;induction T with
  |nil=>intro i u h;cases h
  |cons x r ih=>
   intro i u h;unfold CQ at h;have key:u∈CQ o (i+1) r->∃y,(x::r)[(u-i).toNat]? =some y/\y.Status=3:=(by intro h;have d:=(Ij o r (i+1) u h).1;obtain⟨y,y1,y2⟩:=ih (i+1) u h;refine⟨y,?_,y2⟩;rw[show(u-(i:Int)).toNat=(u-((i+1:Nat):Int)).toNat+1 from by omega,AAu];exact y1);split at h
   . rename_i b;rcases AAn.1 h with rfl|h
     . refine⟨x,ak,?_⟩;unfold I3 at b;simp_all
     simp_all
   simp_all
 obtain⟨x,a,e⟩:=key _ _ _ h;have c:=Ij o s.AA 0 u h;have a:s.AA[u.toNat]? =some x:=by simpa using a
 refine⟨BF.2 ah,?_⟩;unfold ix;simp_all
variable{wake:Int}
theorem vR(h:c≠[]):Es wake c∈c:=by
 unfold Es;rw[AAK h];split
 . simp_all
 . cases c with
   |nil=>simp_all
   |cons a r=>simp
theorem YI.apply{B:iw}{s:AP}(hq:∀o,Cu o wv.Ai.length=true->(ix wv.AF (ix wv.Ai o).Mutex).RW=false)(h:YI wv B s)(he:Bx wv s u j o=true):YI wv (λt=>B t\/t=u) (DH wv s u j o wake).1:=by
 unfold Bx at he;simp only[AAD]at he;obtain⟨hf,v,g,m⟩:=he;obtain⟨X,l2,E⟩:=D9 hf;have G:=mutex_of hf;have T:=h.t u v;unfold DH;by_cases P:j=1
 . rw[AAL P];have hs:(ix s.AA u).Status=1:=(by simpa[I0,P]using m);have up:∀{t},B t->B t\/t=u:=.inl;refine⟨λt N=> ?_,λi hi=> ?_,λhx=>up (h.x hx),λt N=>N.elim (h.b t) λe=>e▸v⟩
   . show TI wv _ s.AF t (ix (s.AA.set u.toNat _) t);rw[Lg am am];have U:=h.t t N;by_cases e:t=u
     . rw[AAL e];exact⟨ak,by simp[e],ak,ak,λ_ _=>T.n ah ah,ak⟩
     . rw[AAK e];exact⟨U.s,by simp[e,U.b],U.z,U.c,U.n,U.a⟩
   . have L:=h.l i hi;exact⟨λh=>up (L.o h),L.w,L.p,λy q=>up (L.r y q)⟩
 rw[AAK P];have M:j≠17->(ix s.AA u).Status=2:=by intro d;unfold I0 at m;simp only[AAK P,AAK d,AAD]at m;exact eq_of_beq m.1
 have h4:j=17->(ix s.AA u).Status=4/\(ix s.AA u).Dg=o:=by intro d;unfold I0 at m;simp only[AAK P,AAL d,AAD]at m;exact⟨eq_of_beq m.1,eq_of_beq m.2.1⟩
 have F:B u:=T.b.2 ah;refine YI.congr (B:=B) ?_ λt=>⟨λh=>h.elim id λe=>e▸F,.inl⟩;have own:∀{i},Cu i wv.AF.length=true->(ix s.AF i).Ak=[]->j≠17->YI wv B (Abs.KG s i λx=>⟨u,x.Ak⟩):=λhi SF d=>
  h.KG G X hi ⟨λ_=>F,λh=>absurd SF h,(h.l _ hi).p,(h.l _ hi).r⟩ (.inr (.inr ⟨v,M d⟩))
 have off:∀{i},Cu i wv.AF.length=true->YI wv B (Abs.KG s i λx=>⟨-1,x.Ak⟩):=λhi=>
  h.KG G X hi ⟨λh=>absurd rfl h,λK=>⟨((h.l _ hi).w K).1,rfl⟩,(h.l _ hi).p,(h.l _ hi).r⟩ (.inl rfl)
 by_cases k2:j=2
 . rw[AAL k2];have M:=M ah;dsimp only;apply h.KH E v;exact⟨ak,by simp[F],ak,ak,λ_ _=>T.n ah ah,ak⟩
 rw[AAK k2];by_cases Z:j=6\/j=10
 . rw[AAL Z];have hi:Cu o wv.AF.length=true:=(by rcases Z with rfl|rfl<;>simp[Bi]at g<;>exact g.1);refine own hi ?_ ah;rcases Z with rfl|rfl
   . have J:(ix wv.AF o).RW=false:=(by simp[Bi]at g;exact g.2);by_cases e:(ix s.AF o).Ak=[]
     . exact e
     . have:=(h.l o hi).w e;simp_all
   . simp[I0]at m;grind
 rw[AAK Z];by_cases k7:j=7\/j=11
 . rw[AAL k7];refine off ?_;rcases k7 with rfl|rfl<;>simp[Bi]at g<;>exact g.1
 rw[AAK k7];by_cases k8:j=8
 . rw[AAL k8];subst k8;simp[Bi]at g;simp[I0]at m;have L:=h.l o g.1;dsimp only;applyλx=>h.KG G X g.1 x (.inr (.inl rfl));refine⟨L.o,λ_=>⟨g.2,m.2.1⟩,eQ _,?_⟩;intro y q;have q:y∈(ix s.AF o).Ak++[u]:=(Kb _ y).1 q;rcases AAW.1 q with q|q
   . exact L.r y q
   simp_all
 rw[AAK k8];by_cases k9:j=9
 . rw[AAL k9];subst k9;simp[Bi]at g;have L:=h.l o g.1;dsimp only;applyλx=>h.KG G X g.1 x (.inr (.inl rfl));exact⟨L.o,λK=>L.w λe=>K (by simp[e]),L.p.sublist List.filter_sublist,λy q=>L.r y (List.mem_filter.1 q).1⟩
 rw[AAK k9];by_cases Q:j=12
 . rw[AAL Q];exact⟨h.t,h.l,λ_=>F,h.b⟩
 rw[AAK Q];by_cases R:j=13
 . rw[AAL R];exact⟨h.t,h.l,λh=>absurd rfl h,h.b⟩
 rw[AAK R];by_cases S:j=14
 . rw[AAL S];have M:=M ah;dsimp only;apply h.KH E v;exact⟨T.s,T.b,T.z,T.c,T.n,λ_=>am⟩
 rw[AAK S];by_cases V:j=15
 . rw[AAL V];dsimp only;apply h.KH E v;exact⟨T.s,T.b,T.z,T.c,T.n,λh=>by cases h⟩
 rw[AAK V];by_cases I:j=16
 . rw[AAL I];have H:Cu o wv.Ai.length=true:=(by simpa[Bi,I]using g);have k:=G o H;dsimp only;apply(off k).KH E v;refine⟨ak,by simp[F],ak,λ_=>⟨H,?_⟩,ak,ak⟩;show(ix (s.AF.set _ _) _).CG≠u;rw[Lg am am,AAL rfl]
   have:=BF.1 v;grind
 rw[AAK I];by_cases d:j=17
 . rw[AAL d];have H:Cu o wv.Ai.length=true:=(by simpa[Bi,d]using g);have k:=G o H;have q:=h.KH E v (f:=λx=>⟨2,0,x.Atomic⟩) ⟨ak,by simp[F],ak,ak,ak,ak⟩;refine q.KG G X (f:=λx=>⟨u,x.Ak⟩) k ⟨λ_=>F,λK=> ?_,(h.l _ k).p,(h.l _ k).r⟩ (.inr (.inr ⟨v,?_⟩))
   . have J:=((h.l _ k).w K).1;simp_all
   . show(ix (s.AA.set u.toNat _) u).Status=2;rw[Lg am am,AAL rfl]
 rw[AAK d];by_cases xM:j=18
 . rw[AAL xM];by_cases hW:CQ o 0 s.AA=[]
   . simp_all
   . simp only[hW,AAT];obtain⟨d1,d2⟩:=waits_in E (vR (wake:=wake) hW);have D:=h.t _ d1;apply h.KH E d1;exact⟨by simp[IY],by simp[IY];exact D.b.2 ah,by simp[IY],λ_=>D.c (.inl d2),by simp[IY],by simp[IY]⟩
 rw[AAK xM];by_cases W:j=19
 . rw[AAL W];refine⟨λt N=> ?_,h.l,h.x,h.b⟩;show TI wv B s.AF t (ix (s.AA.map (Iv o)) t);rw[ix_map am];have U:=h.t t N;unfold Iv;by_cases J:I3 (ix s.AA t) o=true
   . have d2:(ix s.AA t).Status=3:=(by unfold I3 at J;simp only[AAD]at J;exact eq_of_beq J.1);rw[AAL J];exact⟨by simp[IY],by simp[IY];exact U.b.2 ah,by simp[IY],λ_=>U.c (.inl d2),by simp[IY],by simp[IY]⟩
   simp_all
 rw[AAK W];by_cases C:j=20
 . rw[AAL C];have H:Cu o wv.AA.length=true:=(by simpa[Bi,C]using g);have O:=h.t o H;have hs:(ix s.AA o).Status=0:=(by simp[I0,C]at m;exact m.2.2);have nb:¬B o:=λh=>(by have:=O.b.1 h;omega);dsimp only;apply h.KH E H;exact⟨ak,by simp[nb],ak,ak,λ_ _=>O.n ah ah,λh=>by have:=O.a h;omega⟩
 rw[AAK C];by_cases fK:j=22
 . rw[AAL fK];exact⟨h.t,h.l,h.x,h.b⟩
 simp_all
def vE(wv:AD)(c:dc)(u:Int):Prop:=Cu u wv.AA.length=true/\1<=ix c u
structure WI (wv:AD) (pre:List AG) (s:AB):Prop where
 f:IG wv s=true
 c:∀u,Cu u wv.AA.length=true->ix s.Count u=((Hr pre u).length:Int)
 m:s.Count.sum=(pre.length:Int)
 y:YI wv (vE wv s.Count) s.Sync
 d:∀i,Cu i wv.AK.length=true->ix s.Sync.Bn i=false->ix s.AK i=0
theorem sum_set:∀{i:Nat}{x:Int},i<c.length->(c.set i x).sum=c.sum+(x-c.getD i 0):=by
 induction c with
 |nil=>simp_all
 |cons a r ih=>
  intro i x h;cases i with
  |zero=>simp;omega
  |succ i=>grind
theorem XZ[Inhabited b]{a:b}(h:Cu o n=true):ix (List.replicate n a) o=a:=by have:=BF.1 h;unfold ix;simp_all
theorem P2(h:Ce wv=true):wv.Ai.all (Qr wv)=true/\1<=wv.AA.length:=by unfold Ce at h;grind
theorem RJ(h:Ce wv=true):∀o,Cu o wv.Ai.length=true->(ix wv.AF (ix wv.Ai o).Mutex).RW=false:=by
 intro o b;have a:=(P2 h).1
 have:=BF.1 b;have c:o.toNat<wv.Ai.length:=ah
 have:=AAH.1 a (ix wv.Ai o) (by unfold ix;simp_all);unfold Qr at this;simp_all
theorem WI.start(h:Ce wv=true):WI wv [] (Gx wv):=by
 have l:=DX h;have b:=RJ h;have j:=(P2 h).2;have d:∀u,¬vE wv (Gx wv).Count u:=λu ⟨a,k⟩=>by have:ix (Gx wv).Count u=0:=XZ a;omega
 have f:wv.Ai.all (λc=>Cu c.Mutex wv.AF.length)=true:=by
  have b:=(P2 h).1;refine AAH.2 λx g=> ?_
  have:=AAH.1 b x g;unfold Qr at this;simp only[AAD]at this;exact this.1
 refine⟨?_,λu a=>XZ a,?_,⟨λu a=> ?_,λi hi=> ?_,λh=>absurd rfl h,λu a=>a.1⟩,λi hi _=>XZ hi⟩
 . unfold IG GQ Gx JP;simp[f]
 . show(List.replicate wv.AA.length (0:Int)).sum=0;simp_all
 . show TI wv _ _ u (ix ((List.replicate wv.AA.length (⟨0,0,false⟩:AH)).set (0:Int).toNat ⟨1,0,false⟩) u);rw[Lg (BF.2 an) am];by_cases e:u=0
   . rw[AAL e];exact⟨ak,by simp[d],ak,ak,ak,ak⟩
   . rw[AAK e,XZ a];exact⟨ak,by simp[d],λh=>absurd h e,ak,ak,ak⟩
 . show LI wv _ i (ix (List.replicate wv.AF.length (⟨-1,[]⟩:AW)) i);rw[XZ hi];exact⟨ak,ak,ak,ak⟩
variable{pre:dx}{x:AG}
theorem WI.next(D:∀o,Cu o wv.Ai.length=true->(ix wv.AF (ix wv.Ai o).Mutex).RW=false)(h:WI wv pre s)(G:pre.length<=100000)(C:HG wv s x=true):WI wv (pre++[x]) (Ef wv s x):=by
 have q:=C;unfold HG at q;simp only[AAD]at q;obtain⟨B,n,l,_,_,_⟩:=q;obtain⟨f1,f2,f3,f4⟩:=KS B;obtain⟨I,J,K⟩:=D9 f1;have E:=JN pre x.Thread;have v:=h.c x.Thread n;have w:BA (ix s.Count x.Thread+1)=((Hr pre x.Thread).length:Int)+1:=by rw[v,B9 ah ah]
 have r:∀u,Cu u wv.AA.length=true->ix (Ef wv s x).Count u=if u=x.Thread then((Hr pre x.Thread).length:Int)+1 else ix s.Count u:=by intro u f;show ix (s.Count.set x.Thread.toNat _) u=_;rw[Lg am am,w]
 refine⟨?_,λu f=> ?_,?_,?_,λi hi hd=> ?_⟩
 . have:=XE f1 x.Thread x.Kind x.Obj (if x.Kind=18 then x.Value else -1)
   unfold IG Ef;grind
 . rw[r u f,Lm];by_cases j:u=x.Thread
   . simp_all
   . rw[AAK j,AAK (λh=>j h.symm),h.c u f]
 . show(s.Count.set x.Thread.toNat _).sum=_;have hi:=BF.1 n;have:ix s.Count x.Thread=s.Count.getD x.Thread.toNat 0:=(by unfold ix;rw[List.getD_eq_getElem?_getD];rfl);rw[sum_set ah,h.m,w,<- this,v];simp;omega
 . refine(h.y.apply D l (wake:=if x.Kind=18 then x.Value else -1)).congr λu=> ?_
   constructor
   . rintro⟨f,k⟩;rw[r u f]at k;by_cases j:u=x.Thread
     . omega
     . rw[AAK j]at k;exact .inl ⟨f,k⟩
   . rintro(⟨f,k⟩|rfl)
     . refine⟨f,?_⟩;grind
     . refine⟨n,?_⟩;grind
 . unfold Bx at l;simp only[AAD]at l;obtain⟨_,_,t,E⟩:=l;have e:(DH wv s.Sync x.Thread x.Kind x.Obj (if x.Kind=18 then x.Value else -1)).1.Bn=if x.Kind=22 then s.Sync.Bn.set x.Obj.toNat true else s.Sync.Bn:=by
    unfold DH;by_cases g:x.Kind=22
    . simp[g]
    . rw[AAK g,AAK g];have key:∀(p:Prop) [Decidable p] (a b:AP×Int),a.1.Bn=s.Sync.Bn->b.1.Bn=s.Sync.Bn->(if p then a else b).1.Bn=s.Sync.Bn:=by intro p _ a b t F;split<;>assumption
      repeat' refine key _ _ _ ?_ ?_
      all_goals first
       |rfl
       | (by_cases z:CQ x.Obj 0 s.Sync.AA=[]<;>simp only[z,AAi,AAT]<;>rfl)
   have hd:ix (if x.Kind=22 then s.Sync.Bn.set x.Obj.toNat true else s.Sync.Bn) i=false:=by rw[<- e];exact hd
   show ix (if x.Kind=22 then s.AK.set x.Obj.toNat x.Value else s.AK) i=0
   by_cases g:x.Kind=22
   . rw[AAL g]at hd |-;have H:Cu x.Obj wv.AK.length=true:=(by simpa[Bi,g]using t);rw[Lg am am]at hd;rw[Lg am am];by_cases j:i=x.Obj
     . simp_all
     . rw[AAK j]at hd |-;exact h.d i hi hd
   . rw[AAK g]at hd |-;exact h.d i hi hd
def GC(f:e8):Nat->Nat->Bool
 |_,0=>true
 |i,k+1=>f i&&GC f (i+1) k
variable{p:e8}
theorem IB:∀{k i:Nat},GC p i k=true↔∀j,i<=j->j<i+k->p j=true
 |0,i=>by simp[GC];omega
 |k+1,i=>by unfold GC;rw[AAD,IB];grind
theorem Wm(f g:e8):∀k i:Nat,GC (λj=>f j&&g j) i k=(GC f i k&&GC g i k)
 |0,i=>rfl
 |k+1,i=>by unfold GC;rw[Wm f g k (i+1)];grind
def IE(c:dc)(t:Int):Bool:=Cu t c.length&&decide (1<=ix c t)
def Kg(w:AL):Bool:=GC (λi=>decide (0<=ix w.Init.Count i)&&decide (ix w.Init.Count i<=400)) 0 w.Init.Count.length&&(w.Start==w.Init.Count.sum&&decide (w.Init.Count.sum+w.AE.length<=400))
def Ry(x:AH):Bool:=x.Status==3||x.Status==4
def Na(w:AL)(i:Nat)(x:AH):Bool:=
 (decide (0<=x.Status)&&decide (x.Status<=5))&&((decide (x.Status<=1)==(ix w.Init.Count i==0))&&(!(i==0&&x.Status==0)&&(if Ry x=true then Cu x.Dg w.World.Ai.length else x.Dg==0)))
def Vh(w:AL)(i:Nat)(x:AH):Bool:= !Ry x||(ix w.Init.Sync.AF (ix w.World.Ai x.Dg).Mutex).CG != (i:Int)
def MB(w:AL)(i:Nat)(x:AH):Bool:= !x.Atomic||IE w.Init.Count i
def I9(c:dc):Int->List Int->Bool
 |_,[]=>true
 |last,t::r=>decide (last<t)&&(IE c t&&I9 c t r)
def OQ(w:AL)(i:Nat)(x:AW):Bool:=(x.CG== -1||IE w.Init.Count x.CG)&&((x.Ak.isEmpty||((ix w.World.AF i).RW&&x.CG== -1))&&I9 w.Init.Count (-1) x.Ak)
def txW(w:AL):Bool:=w.Init.Sync.Tx== -1||IE w.Init.Count w.Init.Sync.Tx
def ZC(w:AL)(i:Nat):Bool:=ix w.Init.Sync.Bn i||ix w.Init.AK i==0
def II(c:Int)(reads:eb)(k:Int):Bool:=decide (k<c)||JL reads (k-c)
def Xz(c:dc)(pre:dx)(x:AG):Bool:=x.Dw.all (II (ix c x.Thread) (Hr pre x.Thread))&&x.DM.all (II (ix c x.Thread) (Hr pre x.Thread))
def Vi(wv:AD)(c:dc):List AG->AB->List AG->Bool
 |_,_,[]=>true
 |pre,s,x::r=>HG wv s x&&(Xz c pre x&&Vi wv c (pre++[x]) (Ef wv s x) r)
abbrev IA(w:AL)(i:Nat):AH:=ix w.Init.Sync.AA i
def eU(w:AL):Bool:=Kg w&&(GC (λi=>Na w i (IA w i)) 0 w.Init.Sync.AA.length&&(GC (λi=>Vh w i (IA w i)) 0 w.Init.Sync.AA.length&&
 (GC (λi=>OQ w i (ix w.Init.Sync.AF i)) 0 w.Init.Sync.AF.length&&(txW w&&(GC (λi=>MB w i (IA w i)) 0 w.Init.Sync.AA.length&&GC (ZC w) 0 w.Init.AK.length)))))
def Mx(w:AL):Bool:=Ce w.World&&(IG w.World w.Init&&(decide (w.AE.length<=16)&&(eU w&&Vi w.World w.Init.Count [] w.Init w.AE)))
theorem qJ:∀(l:dc)(a:Int),(∀t∈l,IE c t=true)->(∀t∈l,a<t)->l.Pairwise (· < ·)->I9 c a l=true:=by
 intro l;induction l with
 |nil=>exactλ_ _ _ _=>rfl
 |cons x r ih=>intro a d e b;obtain⟨f,g⟩:=List.pairwise_cons.1 b;unfold I9;simp_all
theorem vG(h:s.Count.length=wv.AA.length):IE s.Count u=true↔vE wv s.Count u:=by unfold IE vE;simp_all
theorem s9(a b:dx)(t:Int):Hr (a++b) t=Hr a t++Hr b t:=by unfold Hr;simp_all
variable{B F:eb}
theorem isIn_new(h:JL (B++F) o=true):II B.length F o=true:=by
 unfold II;by_cases f:o<(B.length:Int)
 . simp[f]
 . unfold JL at h |-;simp only[AAD]at h;have d:=BF.1 h.1;simp only[AAr]at d;have e:Cu (o-B.length) F.length=true:=BF.2 ah;have c:=h.2;unfold ix at c;rw[AAa ah,show o.toNat-B.length=(o-(B.length:Int)).toNat from by omega]at c;rw[e];unfold ix;grind
variable{pre0:dx}
theorem posW_ok(e:∀u,Cu u wv.AA.length=true->ix c u=((Hr pre0 u).length:Int)):∀(l pre:dx)(s:AB),(Ex wv (pre0++pre) s l).2=0->Vi wv c pre s l=true:=by
 intro l;induction l with
 |nil=>exactλ_ _ _=>rfl
 |cons x r ih=>
  intro pre s h;rw[Ex]at h;split at h
  . rename_i a;rw[AAD]at a;rw[ABG]at h;unfold Vi;rw[a.1,ih _ _ h];have g:=Jr a.1;have b:=a.2;unfold N8 at b;unfold Xz;rw[s9,AAD]at b;rw[e _ g];have key:∀D:List Int,D.all (JL (Hr pre0 x.Thread++Hr pre x.Thread))=true->D.all (II ((Hr pre0 x.Thread).length:Int) (Hr pre x.Thread))=true:=λD d=>AAH.2 λk f=>isIn_new (AAH.1 d k f);grind
  . cases h
theorem valid_of(I:Ce wv=true)(h:WI wv pre s){l:dx}(G:l.length<=16)(hn:pre.length+l.length<=400)(J:(Ex wv pre s l).2=0):Mx ⟨wv,(pre.length:Int),s,l⟩=true:=by
 obtain⟨f1,f2,f3,f4⟩:=KS h.f;obtain⟨N,O,P⟩:=D9 f1;have g:∀j:Nat,j<wv.AA.length->Cu (j:Int) wv.AA.length=true:=λj v=>BF.2 ah;have D:∀u,Cu u wv.AA.length=true->0<=ix s.Count u/\ix s.Count u<=pre.length:=λu H=>by have:=JN pre u;rw[h.c u H];omega
 have B:∀{u},vE wv s.Count u->IE s.Count u=true:=λh=>(vG f4).2 h;unfold Mx eU;simp only[I,h.f,AAY,AAD,AAV];refine⟨G,⟨?_,?_,?_,?_,?_,?_,?_⟩,posW_ok (pre0:=pre) h.c l [] s am⟩
 . unfold Kg;simp only[AAD,AAV,AAR];refine⟨IB.2 λj _ v=> ?_,h.m.symm,by rw[h.m];omega⟩;grind
 . refine IB.2 λj _ v=> ?_;have i:j<wv.AA.length:=ah;have T:=h.y.t j (g j i);have C:=T.b;unfold vE at C;rw[g j i]at C
   have:=D j (g j i);have F:=T.s;unfold Na IA;simp only;generalize ix s.Sync.AA (j:Int)=x at T C F |-;generalize K:ix s.Count (j:Int)=q at C this |-;simp only[AAD,AAV];refine⟨F,?_,?_,?_⟩
   . grind
   . have M:=T.z;grind
   . unfold Ry;by_cases k:x.Status=3\/x.Status=4
     . rw[AAL am];exact(T.c k).1
     . rw[AAK am];simpa using T.n ah ah
 . refine IB.2 λj _ v=> ?_;have i:j<wv.AA.length:=ah;have T:=h.y.t j (g j i);unfold Vh IA Ry;simp only;generalize ix s.Sync.AA (j:Int)=x at T |-;by_cases k:x.Status=3\/x.Status=4
   . have:=(T.c k).2;simp[this]
   simp_all
 . refine IB.2 λj _ v=> ?_;have i:j<wv.AF.length:=ah;have L:=h.y.l j (BF.2 ah);unfold OQ;simp only;generalize ix s.Sync.AF (j:Int)=x at L |-;simp only[AAD,AAk,AAR];refine⟨?_,?_,qJ _ _ (λt E=>B (L.r t E)) (λt E=> ?_) L.p⟩
   . by_cases e:x.CG= -1
     . omega
     . exact .inr (B (L.o e))
   . by_cases e:x.Ak=[]
     . simp_all
     . exact .inr (L.w e)
   . have:=(BF.1 (L.r t E).1).1;omega
 . unfold txW;simp only[AAk,AAR];by_cases e:s.Sync.Tx= -1
   . omega
   . exact .inr (B (h.y.x e))
 . refine IB.2 λj _ v=> ?_;have i:j<wv.AA.length:=ah;have T:=h.y.t j (g j i);unfold MB IA;simp only;generalize ix s.Sync.AA (j:Int)=x at T |-;cases ha:x.Atomic with
   |false=>rfl
   |true=>exact B (T.b.2 (T.a ha))
 . refine IB.2 λj _ v=> ?_;have i:j<wv.AK.length:=ah;unfold ZC;simp only;cases hd:ix s.Sync.Bn (j:Int)with
   |true=>rfl
   |false=>simpa using h.d j (BF.2 ah) hd
def He(t:CC)(n:Nat):AB:=(t.AE.take n).foldl (Ef t.World) (Gx t.World)
variable{t:CC}
theorem O4(h:n<t.AE.length):He t (n+1)=Ef t.World (He t n) t.AE[n]:=by unfold He;rw[<- AAX h,List.foldl_append];rfl
theorem nM(d:Ce t.World=true)(g:t.AE.length<=400)(e:Ex t.World [] (Gx t.World) t.AE=(0,0)):∀n,n<=t.AE.length->WI t.World (t.AE.take n) (He t n)/\Ex t.World (t.AE.take n) (He t n) (t.AE.drop n)=(0,0):=by
 have f:=RJ d;intro n;induction n with
 |zero=>intro _;exact⟨WI.start d,e⟩
 |succ n ih=>
  intro hn;obtain⟨a,b⟩:=ih ah;rw[AA7 ah,Ex]at b;split at b
  . rename_i c;rw[AAD]at c;rw[O4 ah,<- AAX ah];exact⟨a.next f an c.1,b⟩
  simp_all
theorem nZ:∀(a b:dx) pre s,Ex wv pre s (a++b)=(0,0)->Ex wv pre s a=(0,0):=by
 intro a;induction a with
 |nil=>intro b pre s _;rfl
 |cons x r ih=>intro b pre s h;rw[AAx,Ex]at h;rw[Ex];grind
def winS(t:CC)(size i:Nat):AL:=⟨t.World,(i:Int),He t i,(t.AE.drop i).take size⟩
theorem rA(c:Ce t.World=true)(f:t.AE.length<=400)(e:Ex t.World [] (Gx t.World) t.AE=(0,0))(g:k<=16)(hi:n<=t.AE.length):Mx (winS t k n)=true:=by
 obtain⟨a,b⟩:=nM c f e n hi;have d:Ex t.World (t.AE.take n) (He t n) ((t.AE.drop n).take k)=(0,0):=nZ _ ((t.AE.drop n).drop k) _ _ (by rw[ABA];exact b)
 have:=valid_of c a (l:=(t.AE.drop n).take k) an an (by rw[d]);rw[List.length_take,Nat.min_eq_left hi]at this;exact this
theorem Jm{L:Nat->Int->ABd Bool}{R:ABd Bool}(b:∀(n i:Nat),i<k->L (n+1) (i:Int)=if p i=true then L n ((i+1:Nat):Int)else some false)(a:∀n,L (n+1) (k:Int)=R):∀n i:Nat,i<=k->k<n+i->L n (i:Int)=if GC p i (k-i)=true then R else some false
 |0,i,h1,h2=>ah
 |n+1,i,h1,h2=>by
  by_cases hi:i<k
  . rw[b n i hi,show k-i=(k-(i+1))+1 from by omega,GC];cases hp:p i with
    |false=>rfl
    |true=>rw[AAL rfl,AAY,Jm b a n (i+1) ah ah]
  . have:i=k:=ah;subst this;rw[a,Nat.sub_self];rfl
def vV(w:AL)(i:Nat):Bool:=decide (0<=ix w.Init.Count i)&&decide (ix w.Init.Count i<=400)
theorem VK(w:AL)(b:w.Init.Count.length<=4):∀(n i:Nat)(c:Int),i<=w.Init.Count.length->w.Init.Count.length<n+i->0<=c->c<=400*i->CA.Aa w n c (i:Int)=if GC (vV w) i (w.Init.Count.length-i)=true then CA.J2 w (c+(w.Init.Count.drop i).sum)else some false
 |0,i,c,h1,h2,h3,h4=>ah
 |n+1,i,c,h1,h2,h3,h4=>by
  unfold CA.Aa CA.L1;by_cases hi:i<w.Init.Count.length
  . rw[A9 ah,CF hi,AAB,show w.Init.Count.length-i=(w.Init.Count.length-(i+1))+1 from by omega,GC,EC hi,List.sum_cons];unfold vV CA.J1;rw[K8 hi];generalize w.Init.Count[i]=d;by_cases a:d<0
    . grind
    . rw[Ae a];by_cases g2:d>400
      . grind
      . rw[show decide (d>400)=false from by simp_all,AAK ak,B9 ah ah,Aj ah,VK w b n (i+1) _ ah ah ah ah,show decide (0<=d)=true from by simp;omega,show decide (d<=400)=true from by simp;omega,Int.add_assoc];rfl
  . rw[Ae ah,Ez hi,List.sum_nil,Int.add_zero,show w.Init.Count.length-i=0 from by omega];rfl
theorem U5(w:AL)(b:w.Init.Count.length<=4):∀(n i:Nat)(c:Int),i<=w.Init.Count.length->w.Init.Count.length<n+i->0<=c->c<=400*i->E9.Aa w n c (i:Int)=CA.Aa w n c (i:Int)
 |0,i,c,h1,h2,h3,h4=>ah
 |n+1,i,c,h1,h2,h3,h4=>by
  unfold E9.Aa E9.L1 CA.Aa CA.L1;by_cases hi:i<w.Init.Count.length
  . rw[A9 ah,A9 ah,CF hi,AAB,AAB];unfold E9.J1 CA.J1;rw[CF hi,AAB];generalize w.Init.Count[i]=d;by_cases a:d<0
    . simp_all
    . rw[Ae a,Ae a];by_cases g2:d>400
      . simp_all
      . rw[show decide (d>400)=false from by simp_all,AAK ak,AAK ak,B9 ah ah,Aj ah,U5 w b n (i+1) _ ah ah ah ah]
  . rw[Ae ah,Ae ah];rfl
theorem XA(w:AL)(e:w.Init.Count.length<=4)(k:w.AE.length<=16):CA w=some (Kg w):=by
 have i:=BO;unfold CA
 have:=VK w e BW 0 0 ah ah ah ah;rw[Int.natCast_zero]at this;rw[this,Nat.sub_zero,AAj,Int.zero_add];unfold Kg;change (if GC (vV w) 0 _=true then _ else _)=some (GC (vV w) 0 _&&_)
 cases ha:GC (vV w) 0 w.Init.Count.length with
 |false=>rfl
 |true=>
  rw[AAL rfl,AAY];unfold CA.J2 CA.J3;have m:0<=w.Init.Count.sum/\w.Init.Count.sum<=1600:=by
   have c:=IB.1 ha;have key:∀l:List Int,(∀x∈l,0<=x/\x<=400)->0<=l.sum/\l.sum<=400*l.length:=by
    intro l;induction l with
    |nil=>grind
    |cons x l ih=>intro h;have a:=h x ak;have b:=ih λy g=>h y (by simp[g]);grind
   have:=key w.Init.Count λx f=>by
    obtain⟨j,d,rfl⟩:=ABR f
    have:=c j ah ah;unfold vV at this;rw[K8 d]at this;simp_all
   omega
  rw[B9 ah ah];grind
theorem qH(w:AL)(a:w.Init.Count.length<=4)(b:w.AE.length<=16):E9 w=some (Kg w):=by rw[<- XA w a b];exact U5 w a BW 0 0 ah aG ah ah
theorem lW(f:∀x,x<0->P x)(g:∀x,5<x->P x)(a0:P 0)(a:P 1)(b:P 2)(c:P 3)(d:P 4)(e:P 5)(x:Int):P x:=bg
structure WinF (w:AL):Prop where
 v:Ce w.World=true
 f:IG w.World w.Init=true
 e:w.AE.length<=16
structure Ly (w:AL):Prop where
 s:Small w.World
 l:w.Init.Sync.AF.length=w.World.AF.length
 d:w.Init.Sync.Bn.length=w.World.AK.length
 t:w.Init.Sync.AA.length=w.World.AA.length
 u:w.Init.AK.length=w.World.AK.length
 c:w.Init.Count.length=w.World.AA.length
 m:∀o,Cu o w.World.Ai.length=true->Cu (ix w.World.Ai o).Mutex w.World.AF.length=true
variable{w:AL}
theorem WinF.l(h:WinF w):Ly w:=by obtain⟨f1,f2,f3,f4⟩:=KS h.f;obtain⟨b,c,d⟩:=D9 f1;exact⟨DX h.v,b,c,d,f3,f4,λo a=>G1 f1 a⟩
theorem fC(h:Ly w)(n i:Nat)(hi:i<w.Init.Sync.AA.length):
 BC.Aa w (n+1) (i:Int)=if(Na w i (IA w i)&&Vh w i (IA w i))=true then BC.Aa w n ((i+1:Nat):Int)else some false:=by
 have f:=h.s.t;have g:=h.t;have j:=h.c;rw[BC.Aa];unfold BC.L1 IA;rw[A9 ah,CF hi,AAB,K8 hi];generalize w.Init.Sync.AA[i]=x;unfold BC.J1 BC.J2 BC.J3 BC.J4 BC.J5;rw[Aj ah];generalize BC.Aa w n ((i+1:Nat):Int)=R;rw[CL (l:=w.Init.Count) (BF.2 ah)];simp only[AAB,AAi,AAT,AAM];unfold Na Vh Ry;have e:((i:Int)==0)=(i==0):=by rw[ABa,AAR,AAR];omega
 rw[e];generalize (ix w.Init.Count (i:Int)==0)=c;have d:(if decide (x.Dg<0)=true then some false else if decide (x.Dg>=(w.World.Ai.length:Int))=true then some false else
  (gt w.World.Ai x.Dg).bind λl=>(gt w.Init.Sync.AF l.Mutex).bind λo=>if(o.CG==(i:Int))=true then some false else R)=
  if(Cu x.Dg w.World.Ai.length&&(ix w.Init.Sync.AF (ix w.World.Ai x.Dg).Mutex).CG != (i:Int))=true then R else some false:=by
  by_cases b:x.Dg<0
  . rw[A9 b,show Cu x.Dg w.World.Ai.length=false from by rw[Bool.eq_false_iff];intro h;have:=BF.1 h;omega];rfl
  . rw[Ae b];by_cases g2:x.Dg>=(w.World.Ai.length:Int)
    . rw[A9 g2,show Cu x.Dg w.World.Ai.length=false from by rw[Bool.eq_false_iff];intro h;have:=BF.1 h;omega];rfl
    . have a:Cu x.Dg w.World.Ai.length=true:=BF.2 ah;rw[Ae g2,CL a,AAB,CL (by rw[h.l];exact h.m _ a),AAB,a,AAY];simp_all
 generalize x.Dg=co at d |-;generalize x.Status=st;revert st;refine lW ?_ ?_ ?_ ?_ ?_ ?_ ?_ ?_
 all_goals grind
def U8(i:Int)(n:Nat):Kz i (n:Int)=some (Cu i n):=Nb i n
theorem qR(h:Ly w)(n i:Nat)(hi:i<w.Init.Sync.AA.length):
 B7.Aa w (n+1) (i:Int)=if Na w i (IA w i)=true then B7.Aa w n ((i+1:Nat):Int)else some false:=by
 have d:=h.s.t;have e:=h.t;have f:=h.c;rw[B7.Aa];unfold B7.L1 IA;unfold B7.J1 B7.J2 B7.J3 B7.J4;rw[A9 ah,CF hi,K8 hi];generalize w.Init.Sync.AA[i]=x;rw[Aj ah];generalize B7.Aa w n ((i+1:Nat):Int)=R;rw[CL (l:=w.Init.Count) (BF.2 ah)];simp only[AAB,AAi,AAT,AAM,U8];unfold Na Ry;have a:((i:Int)==0)=(i==0):=by rw[ABa,AAR,AAR];omega
 rw[a];generalize (ix w.Init.Count (i:Int)==0)=c;generalize Cu x.Dg w.World.Ai.length=b;generalize x.Dg=co;generalize x.Status=st;revert st;refine lW ?_ ?_ ?_ ?_ ?_ ?_ ?_ ?_
 all_goals grind
theorem QO(w:AL)(t:Int):Bv t w=some (IE w.Init.Count t):=by
 unfold Bv Bv.J1 IE;by_cases h:Cu t w.Init.Count.length=true
 . have:=BF.1 h;rw[A9 ah,A9 ah,CL h,h];rfl
 . rw[show Cu t w.Init.Count.length=false from by grind];by_cases g:t>=0
   . rw[A9 g,Ae (λk=>h (BF.2 ⟨g,k⟩))];rfl
   grind
theorem QL(w:AL)(t:Int):FH w t=some (IE w.Init.Count t):=by
 unfold FH FH.J1 IE;rw[U8,AAB];cases h:Cu t w.Init.Count.length with
 |true=>rw[AAL rfl,CL h];rfl
 |false=>rfl
theorem l6(w:AL)(x:AW)(c:x.Ak.length<=4611686018427387904)(L1:df)(b:Int):∀(n e:Nat)(f:Int),e<=x.Ak.length->x.Ak.length<n+e->
 Ac.DF L1 b w x n f (e:Int)=if I9 w.Init.Count f (x.Ak.drop e)=true then L1 (BA (b+1))else some false
 |0,e,f,h1,h2=>ah
 |n+1,e,f,h1,h2=>by
  unfold Ac.DF Ac.L2;by_cases a:e<x.Ak.length
  . rw[A9 ah,CF a,AAB,EC a,I9,QO,AAB];unfold Ac.J3;by_cases g:x.Ak[e]<=f
    . grind
    . rw[Ae g,show decide (f<x.Ak[e])=true from by grind,AAY,Aj ah];cases IE w.Init.Count x.Ak[e]with
      |false=>rfl
      |true=>rw[AAK ak,AAY];exact l6 w x c L1 b n (e+1) _ ah ah
  . rw[Ae ah,Ez a];rfl
theorem lF(w:AL)(x:AW)(c:x.Ak.length<=4611686018427387904)(L1:df)(b:Int):∀(n e:Nat)(f:Int),e<=x.Ak.length->x.Ak.length<n+e->
 (∀(h:0<e)(d:e-1<x.Ak.length),f=x.Ak[e-1])->(e=0->f= -1)->
 A1.DF L1 b w x n (e:Int)=if I9 w.Init.Count f (x.Ak.drop e)=true then L1 (BA (b+1))else some false
 |0,e,f,h1,h2,_,_=>ah
 |n+1,e,f,h1,h2,h3,h4=>by
  unfold A1.DF A1.L2;by_cases a:e<x.Ak.length
  . rw[A9 ah,CF a,AAB,EC a,I9,QL,AAB];unfold A1.J2;have j:=lF w x c L1 b n (e+1) x.Ak[e] ah ah (λ_ _=>rfl) ck;cases hb:IE w.Init.Count x.Ak[e]with
    |false=>simp_all
    |true=>
     have i:=BF.1 (AAD _ _▸hb).1;rw[AAK ak,Aj ah,AAY];by_cases g:0<e
     . rw[A9 ah,B9 ah ah,show(e:Int)-1=((e-1:Nat):Int)from by omega,CF ah,AAB,<- h3 g ah];grind
     grind
  . rw[Ae ah,Ez a];rfl
theorem Ut(l:List a):decide ((l.length:Int)>0)= !l.isEmpty:=by cases l<;>simp<;>omega
theorem q8(h:Ly w)(c:RB 4611686018427387904 w.Init.Sync)(n i:Nat)(hi:i<w.Init.Sync.AF.length):
 Ac.Aa w (n+1) (i:Int)=if OQ w i (ix w.Init.Sync.AF i)=true then Ac.Aa w n ((i+1:Nat):Int)else some false:=by
 have d:=h.s.l;have e:=h.l;rw[Ac.Aa];unfold Ac.L1;rw[A9 ah,CF hi,AAB,K8 hi,QO,AAB];have b:=c _ (AAS hi);generalize w.Init.Sync.AF[i]=x at b |-;unfold Ac.J1 Ac.J2;have a:=l6 w x b (Ac.Aa w n) i BW 0 (-1) ah aG;rw[Int.natCast_zero,AAj,Aj ah]at a;rw[a,Ut,CL (BF.2 ah),AAB];generalize Ac.Aa w n ((i+1:Nat):Int)=R;unfold OQ;grind
theorem qP(h:Ly w)(c:RB 4611686018427387904 w.Init.Sync)(n i:Nat)(hi:i<w.Init.Sync.AF.length):
 A1.Aa w (n+1) (i:Int)=if OQ w i (ix w.Init.Sync.AF i)=true then A1.Aa w n ((i+1:Nat):Int)else some false:=by
 have d:=h.s.l;have e:=h.l;rw[A1.Aa];unfold A1.L1;rw[A9 ah,CF hi,AAB,K8 hi,QL,AAB];have b:=c _ (AAS hi);generalize w.Init.Sync.AF[i]=x at b |-;unfold A1.J1;have a:=lF w x b (A1.Aa w n) i BW 0 (-1) ah aG ck (λ_=>rfl);rw[Int.natCast_zero,AAj,Aj ah]at a;rw[a,Ut,CL (BF.2 ah),AAB];generalize A1.Aa w n ((i+1:Nat):Int)=R;unfold OQ;grind
theorem q7(h:Ly w)(n i:Nat)(hi:i<w.Init.Sync.AA.length):
 Ac.Gg w (n+1) (i:Int)=if MB w i (IA w i)=true then Ac.Gg w n ((i+1:Nat):Int)else some false:=by
 have a:=h.s.t;have b:=h.t;rw[Ac.Gg];unfold Ac.L3 Ac.J7 IA MB;rw[A9 ah,CF hi,AAB,K8 hi,QO,AAB,Aj ah];grind
theorem qG(h:Ly w)(n i:Nat)(hi:i<w.Init.Sync.AA.length)(c:Na w i (IA w i)=true):
 A1.Gg w (n+1) (i:Int)=if(MB w i (IA w i)&&Vh w i (IA w i))=true then A1.Gg w n ((i+1:Nat):Int)else some false:=by
 have e:=h.s.t;have f:=h.t;rw[A1.Gg];unfold A1.L3 A1.J6 A1.J7;unfold Na at c;unfold IA at c |-;unfold MB Vh;rw[A9 ah,CF hi,AAB,K8 hi,QL,AAB,Aj ah];rw[K8 hi]at c;generalize A1.Gg w n ((i+1:Nat):Int)=R;generalize w.Init.Sync.AA[i]=x at c |-;simp only[AAD]at c;obtain⟨_,_,_,b⟩:=c;unfold Ry at b |-;have d:∀(a:Bool),(if(!a)=true then some false else if(x.Status==3)=true then(gt w.World.Ai x.Dg).bind λz=>(gt w.Init.Sync.AF z.Mutex).bind λq=>if(q.CG==(i:Int))=true then some false else R
  else if(x.Status==4)=true then(gt w.World.Ai x.Dg).bind λz=>(gt w.Init.Sync.AF z.Mutex).bind λq=>if(q.CG==(i:Int))=true then some false else R else if false=true then some false else R)=
  if(a&&(!(x.Status==3||x.Status==4)||(ix w.Init.Sync.AF (ix w.World.Ai x.Dg).Mutex).CG != (i:Int)))=true then R else some false:=by
  intro a;cases a with
  |false=>rfl
  |true=>
   rw[AAK ak,AAY];cases g3:x.Status==3 with
   |true=>rw[g3]at b;have b:Cu x.Dg w.World.Ai.length=true:=(by simpa using b);rw[AAL rfl,CL b,AAB,CL (by rw[h.l];exact h.m _ b),AAB];simp_all
   |false=>
    cases g4:x.Status==4 with
    |true=>rw[g3,g4]at b;have b:Cu x.Dg w.World.Ai.length=true:=(by simpa using b);rw[AAK ak,AAL rfl,CL b,AAB,CL (by rw[h.l];exact h.m _ b),AAB];simp_all
    |false=>rfl
 grind
theorem zL(h:Ly w)(n i:Nat)(hi:i<w.Init.AK.length):
 Bf.Aa w.Init (n+1) (i:Int)=if ZC w i=true then Bf.Aa w.Init n ((i+1:Nat):Int)else some false:=by
 have a:=h.s.f;have b:=h.d;have c:=h.u;rw[Bf.Aa];unfold Bf.L1 Bf.J1 ZC;rw[A9 ah,CL (BF.2 ah),AAB,CL (BF.2 ah),AAB,Aj ah];grind
theorem yR(h:Ly w)(n i:Nat)(hi:i<w.Init.AK.length):
 CB.Aa w (n+1) (i:Int)=if ZC w i=true then CB.Aa w n ((i+1:Nat):Int)else some false:=by
 have a:=h.s.f;have b:=h.d;have c:=h.u;rw[CB.Aa];unfold CB.L1 CB.J2 ZC;rw[A9 ah,CL (BF.2 ah),AAB,CL (BF.2 ah),AAB,Aj ah];grind
theorem iteB(b:Bool):(if b=true then some true else some false)=some b:=bg
theorem l7(h:Ly w):BC w=some (GC (λi=>Na w i (IA w i)) 0 w.Init.Sync.AA.length&&GC (λi=>Vh w i (IA w i)) 0 w.Init.Sync.AA.length):=by have a:=h.s.t;have b:=h.t;have c:=BO;rw[<- Wm,<- iteB];exact Jm (L:=BC.Aa w) (R:=some true) (λn i hi=>fC h n i hi) (λn=>by rw[BC.Aa];unfold BC.L1;rw[Ae ah];rfl) BW 0 ah ah
theorem eH(h:Ly w):B7 w=some (GC (λi=>Na w i (IA w i)) 0 w.Init.Sync.AA.length):=by have a:=h.s.t;have b:=h.t;have c:=BO;rw[<- iteB];exact Jm (L:=B7.Aa w) (R:=some true) (λn i hi=>qR h n i hi) (λn=>by rw[B7.Aa];unfold B7.L1;rw[Ae ah];rfl) BW 0 ah ah
theorem l5(h:Ly w)(b:RB 4611686018427387904 w.Init.Sync):Ac w=some (GC (λi=>OQ w i (ix w.Init.Sync.AF i)) 0 w.Init.Sync.AF.length&&(txW w&&GC (λi=>MB w i (IA w i)) 0 w.Init.Sync.AA.length)):=by
 have c:=h.s.l;have d:=h.l;have e:=h.s.t;have f:=h.t;have j:=BO;have a:Ac.Gg w BW 0=some (GC (λi=>MB w i (IA w i)) 0 w.Init.Sync.AA.length):=by rw[<- iteB];exact Jm (L:=Ac.Gg w) (R:=some true) (λn i hi=>q7 h n i hi) (λn=>by rw[Ac.Gg];unfold Ac.L3;rw[Ae ah];rfl) BW 0 ah ah
 have g:Ac.J5 w=some (txW w&&GC (λi=>MB w i (IA w i)) 0 w.Init.Sync.AA.length):=by unfold Ac.J5 Ac.J6 txW;rw[a,QO,AAB];unfold bne;cases w.Init.Sync.Tx== -1<;>cases IE w.Init.Count w.Init.Sync.Tx<;>rfl
 refine(Jm (L:=Ac.Aa w) (R:=Ac.J5 w) (λn i hi=>q8 h b n i hi) (λn=>by rw[Ac.Aa];unfold Ac.L1;simp_all) BW 0 ah ah).trans ?_;grind
variable{q:e8}
theorem xZ{L:Nat->Int->ABd Bool}{R:ABd Bool}(b:GC q 0 k=true)(c:∀(n i:Nat),i<k->q i=true->L (n+1) (i:Int)=if p i=true then L n ((i+1:Nat):Int)else some false)(a:∀n,L (n+1) (k:Int)=R):∀n i:Nat,i<=k->k<n+i->L n (i:Int)=if GC p i (k-i)=true then R else some false:=
 Jm (λn i hi=>c n i hi (IB.1 b i ah ah)) a
theorem lC(h:Ly w)(c:RB 4611686018427387904 w.Init.Sync)(d:GC (λi=>Na w i (IA w i)) 0 w.Init.Sync.AA.length=true):
 A1 w=some (GC (λi=>OQ w i (ix w.Init.Sync.AF i)) 0 w.Init.Sync.AF.length&&(txW w&&(GC (λi=>MB w i (IA w i)) 0 w.Init.Sync.AA.length&&GC (λi=>Vh w i (IA w i)) 0 w.Init.Sync.AA.length))):=by
 have e:=h.s.l;have f:=h.l;have g:=h.s.t;have j:=h.t;have m:=BO;have a:A1.Gg w BW 0=some (GC (λi=>MB w i (IA w i)) 0 w.Init.Sync.AA.length&&GC (λi=>Vh w i (IA w i)) 0 w.Init.Sync.AA.length):=by rw[<- Wm,<- iteB];exact xZ (L:=A1.Gg w) (R:=some true) d (λn i hi b=>qG h n i hi b) (λn=>by rw[A1.Gg];unfold A1.L3;rw[Ae ah];rfl) BW 0 ah ah
 have k:A1.J4 w=some (txW w&&(GC (λi=>MB w i (IA w i)) 0 w.Init.Sync.AA.length&&GC (λi=>Vh w i (IA w i)) 0 w.Init.Sync.AA.length)):=by unfold A1.J4 A1.J5 txW;rw[a,QL,AAB];unfold bne;cases w.Init.Sync.Tx== -1<;>cases IE w.Init.Count w.Init.Sync.Tx<;>rfl
 refine(Jm (L:=A1.Aa w) (R:=A1.J4 w) (λn i hi=>qP h c n i hi) (λn=>by rw[A1.Aa];unfold A1.L1;simp_all) BW 0 ah ah).trans ?_;grind
theorem lZ(h:Ly w):Bf w.Init=some (GC (ZC w) 0 w.Init.AK.length):=by have a:=h.s.f;have b:=h.d;have c:=h.u;have e:=BO;rw[<- iteB];exact Jm (L:=Bf.Aa w.Init) (R:=some true) (λn i hi=>zL h n i hi) (λn=>by rw[Bf.Aa];unfold Bf.L1;rw[Ae ah];rfl) BW 0 ah ah
theorem lB(h:Ly w):CB.Aa w BW 0=if GC (ZC w) 0 w.Init.AK.length=true then CB.J3 w else some false:=by have a:=h.s.f;have b:=h.d;have c:=h.u;have e:=BO;exact Jm (L:=CB.Aa w) (R:=CB.J3 w) (λn i hi=>yR h n i hi) (λn=>by rw[CB.Aa];unfold CB.L1;simp_all) BW 0 ah ah
theorem dT:∀(D:dc)(a:Int),Fi o a D=true->∀k∈D,a<k/\k<o:=by
 intro D;induction D with
 |nil=>simp_all
 |cons x r ih=>intro a h k b;unfold Fi at h;grind
theorem bE(h:HG wv s x=true):(∀k∈x.Dw,1<=k/\k<ix s.Count x.Thread)/\∀k∈x.DM,1<=k/\k<ix s.Count x.Thread:=by unfold HG ES at h;simp only[AAD]at h;obtain⟨_,_,_,_,⟨⟨_,b⟩,_,c⟩,_⟩:=h;exact⟨λk a=>by have:=dT _ _ b k a;omega,λk a=>by have:=dT _ _ c k a;omega⟩
theorem kR:∀(l:dc)(a:Int),a<c.length->I9 c a l=true->(l.length:Int)+a+1<=c.length:=by
 intro l;induction l with
 |nil=>grind
 |cons t r ih=>intro a h b;unfold I9 IE at b;simp only[AAD,AAV]at b;have d:=BF.1 b.2.1.1;grind
theorem RB_of(h:Ly w)(b:GC (λi=>OQ w i (ix w.Init.Sync.AF i)) 0 w.Init.Sync.AF.length=true):RB 4 w.Init.Sync:=by
 intro x d;obtain⟨j,a,rfl⟩:=ABR d
 have:=IB.1 b j ah ah;unfold OQ at this;rw[K8 a]at this;simp only[AAD]at this
 have:=kR _ _ ah this.2.2;have e:=h.s.t;have f:=h.c;omega
def CI(c:dc)(nt:Nat)(pre:dx)(s:AB):Prop:=s.Count.length=nt/\∀u,Cu u nt=true->ix s.Count u=ix c u+((Hr pre u).length:Int)
theorem CI.next(h:CI c k pre s)(a:Cu x.Thread k=true)(d:∀u,Cu u k=true->0<=ix c u/\ix c u<=400)(l:pre.length<=1000):CI c k (pre++[x]) (Ef wv s x):=by
 refine⟨by simpa[Ef]using h.1,λu b=> ?_⟩;obtain⟨g,i⟩:=BF.1 a;obtain⟨j,nt⟩:=BF.1 b;rw[Lm];show ix (s.Count.set x.Thread.toNat (BA (ix s.Count x.Thread+1))) u=_;have m:=d _ a;have f:=h.2 _ a;have hn:=JN pre x.Thread;by_cases e:x.Thread=u
 . subst e;rw[AAL rfl];unfold ix;rw[AAF (by have:=h.1;omega)];show BA (ix s.Count x.Thread+1)=ix c x.Thread+_;rw[f,B9 ah ah];grind
 . rw[AAK e,<- h.2 u b];unfold ix;grind
section
variable{w:AL}
theorem pos.L3(L2:df)(l:dc)(R:d3)(t:Int)(x:AG)(g:l.length<4611686018427387904)(f:∀k∈l,1<=k/\k<1000000)(d:gt R x.Thread=some B)(e:gt w.Init.Count x.Thread=some (ix w.Init.Count x.Thread))(b:0<=ix w.Init.Count x.Thread/\ix w.Init.Count x.Thread<=400):∀(n i:Nat),i<=l.length->l.length<n+i->
 Av.Gg L2 l R t w x n (i:Int)=if(l.drop i).all (II (ix w.Init.Count x.Thread) B)=true then L2 (BA (t+1))else some false
 |0,i,h1,h2=>ah
 |n+1,i,h1,h2=>by
  rw[Av.Gg];unfold Av.L3;by_cases hi:i<l.length
  . unfold Av.J2;have j:=f _ (AAS hi);rw[A9 ah,CF hi,AAB,e,AAB,EC hi,Aj ah,pos.L3 L2 l R t x g f d e b n (i+1) ah ah,AAy,d,AAB];generalize l[i]=k at j |-;generalize (l.drop (i+1)).all (II (ix w.Init.Count x.Thread) B)=q;generalize ix w.Init.Count x.Thread=c at b |-;rw[B9 ah ah];unfold II JL;by_cases m:k<c
    . grind
    . rw[A9 ah,show decide (k<c)=false from by simp_all];by_cases a:k-c>=(B.length:Int)
      . rw[A9 a,show Cu (k-c) B.length=false from by simp[Cu];omega];rfl
      . have h:Cu (k-c) B.length=true:=bn;rw[Ae a,CL h,AAB,h];grind
  . rw[Ae ah,Ez hi];rfl
theorem pos.L2(L1:AB->List (List Bool)->Int->ABd Bool)(R:d3)(t:Int)(v:fD)(x:AG)(b:I6 x)(hd:∀k∈x.Dw,1<=k/\k<1000000)(f:∀k∈x.DM,1<=k/\k<1000000)(d:gt R x.Thread=some B)(e:gt w.Init.Count x.Thread=some (ix w.Init.Count x.Thread))(c:0<=ix w.Init.Count x.Thread/\ix w.Init.Count x.Thread<=400):
 Av.DF L1 R t v w x BW 0=if(x.Dw.all (II (ix w.Init.Count x.Thread) B)&&x.DM.all (II (ix w.Init.Count x.Thread) B))=true then Av.J4 L1 R t v x else some false:=by
 have n:=BO;have a:∀L1 t l,l.length<4611686018427387904->(∀k∈l,1<=k/\k<1000000)->Av.J1 L1 R t w x l=if l.all (II (ix w.Init.Count x.Thread) B)=true then L1 (BA (t+1))else some false:=by
  intro L1 t l h g
  have:=pos.L3 L1 l R t x h g d e c BW 0 ah ah;rw[AAj]at this;exact this
 rw[Wy];generalize BW-3=m;have j:Av.DF L1 R t v w x (m+1) 2=Av.J4 L1 R t v x:=by rw[Av.DF];unfold Av.L2;rfl
 have i:Av.DF L1 R t v w x (m+2) 1=if x.DM.all (II (ix w.Init.Count x.Thread) B)=true then Av.J4 L1 R t v x else some false:=by rw[Av.DF];unfold Av.L2;rw[A9 aS,AAK aS,AAL aS,a _ _ _ b.2 f,show BA (1+1)=2 from rfl,j]
 rw[Av.DF];unfold Av.L2;rw[A9 aS,AAL aS,a _ _ _ b.1 hd,show BA (0+1)=1 from rfl,i];grind
theorem kK(h:Ly w)(t:w.AE.length<=16)(l:∀e∈w.AE,I6 e)(f:∀u,Cu u w.World.AA.length=true->0<=ix w.Init.Count u/\ix w.Init.Count u<=400):∀(n i:Nat)(s:AB)(R:d3),i<=w.AE.length->w.AE.length<n+i->RB (4+i) s.Sync->R.length=w.World.AA.length->(∀u:Nat,u<R.length->R[u]? =some (Hr (w.AE.take i) (u:Int)))->CI w.Init.Count w.World.AA.length (w.AE.take i) s->
 Av.Aa w n s R (i:Int)=some (Vi w.World w.Init.Count (w.AE.take i) s (w.AE.drop i))
 |0,i,s,R,h1,h2,_,_,_,_=>ah
 |n+1,i,s,R,h1,h2,h3,h4,h5,h6=>by
  rw[Av.Aa];unfold Av.L1;by_cases hi:i<w.AE.length
  . have o:=l _ (AAS hi);rw[A9 ah,CF hi,AAB,V8 w.World h.s s (h3.mono ah) _ o,AAB,EC hi,Vi];unfold Oe;cases hp:HG w.World s w.AE[i]with
    |false=>rfl
    |true=>
     rw[AAL rfl,AAK (c:=(!true)=true) ak,AAY];have a:=Jr hp;obtain⟨q,z⟩:=BF.1 a;have x:w.AE[i].Thread.toNat<R.length:=ah;have m:gt R w.AE[i].Thread=some (Hr (w.AE.take i) w.AE[i].Thread):=(by unfold gt;rw[AAL q,h5 _ x];congr 2;omega);have r:=JN (w.AE.take i) w.AE[i].Thread;rw[ABS ah]at r;have g:=f _ a;have v:=h6.2 _ a;obtain⟨B,C⟩:=bE hp;rw[pos.L2 _ _ _ _ _ o (λk d=>bg) (λk d=>bg) m (CL (by rw[h.c];exact a)) g];change (if Xz w.Init.Count (w.AE.take i) w.AE[i]=true then _ else _)=_
     cases Xz w.Init.Count (w.AE.take i) w.AE[i]with
     |false=>rfl
     |true=>
      unfold Av.J4;rw[AAL rfl,m,AAB,BV ah,BV ah,AAY];unfold Av.J5 Av.J6;have d:∀b,b=ZL w.AE[i]->Av.Aa w n (Ef w.World s w.AE[i]) (R.set w.AE[i].Thread.toNat (Hr (w.AE.take i) w.AE[i].Thread++[b])) (BA ((i:Int)+1))=some (Vi w.World w.Init.Count (w.AE.take i++[w.AE[i]]) (Ef w.World s w.AE[i]) (w.AE.drop (i+1))):=by
       rintro b rfl;have j:=h6.next (wv:=w.World) a f an;rw[Aj ah];rw[AAX hi]at j |-;refine kK h t l f n (i+1) _ _ ah ah ?_ am ?_ j
       . exact(h3.apply _ _ _ _ _).mono ah
       . intro u y;rw[<- AAX hi,Lm];grind
      by_cases p:w.AE[i].Kind=3
      . rw[AAL (by simp[p])];exact d _ (by simp[ZL,p])
      . rw[AAK am];exact d _ (by simp[ZL,show(w.AE[i].Kind==3)=false by simp_all])
  . rw[Ae ah,Ez hi];rfl
theorem cnt_of(h:Ly w)(d:Kg w=true):∀u,Cu u w.World.AA.length=true->0<=ix w.Init.Count u/\ix w.Init.Count u<=400:=by
 intro u e;unfold Kg at d;simp only[AAD]at d;obtain⟨a,b⟩:=BF.1 e;have f:=h.c
 have:=IB.1 d.1 u.toNat ah ah;grind
theorem kM(h:Ly w)(f:w.AE.length<=16)(b:∀e∈w.AE,I6 e)(d:Kg w=true)(g:RB 4 w.Init.Sync):Av w=some (Vi w.World w.Init.Count [] w.Init w.AE):=by
 have i:=h.s.t;have j:=BO;unfold Av;rw[AAL ⟨ah,ah,Bm ah⟩]
 have:=kK h f b (cnt_of h d) BW 0 w.Init (List.replicate w.World.AA.length []) ah ah g ak (by intro u a;simp at a;simp[a,Hr]) ⟨h.c,λu _=>by simp[Hr]⟩;simp_all
end
variable{r y z C f g:Bool}
section
variable{w:AL}
theorem We(c:w.AE.length<=16)(t:Int):∀(n j d:Nat),j<=w.AE.length->w.AE.length<n+j->d<=1000000->∃r,HQ.Aa t w n (d:Int) (j:Int)=some r/\(match(Hr (w.AE.drop j) t)[d]? with
 |some b=>∃(e:Nat)(h:e<w.AE.length),r=(e:Int)/\ZL w.AE[e]=b
 |none=>r= -1)
 |0,j,d,h1,h2,_=>ah
 |n+1,j,d,h1,h2,h3=>by
  rw[HQ.Aa];unfold HQ.L1 HQ.J1;by_cases a:j<w.AE.length
  . rw[A9 ah,CF a,AAB,EC a,kQ,Aj ah];by_cases g:w.AE[j].Thread=t
    . rw[AAL bg,AAL g];cases d with
      |zero=>grind
      |succ d=>rw[AAK an,B9 ah ah,show((d+1:Nat):Int)-1=(d:Int)from by omega,AAu];exact We c t n (j+1) d ah ah ah
    . rw[AAK bg,AAK g];exact We c t n (j+1) d ah ah h3
  . rw[Ae ah,Ez a];exact⟨_,rfl,rfl⟩
theorem VB(m:w.AE.length<=16)(l:dc)(t:Int)(hn:l.length<4611686018427387904)(j:∀k∈l,1<=k/\k<1000000)(h:gt w.Init.Count t=some (ix w.Init.Count t))(g:0<=ix w.Init.Count t/\ix w.Init.Count t<=400):∀(n i:Nat),i<=l.length->l.length<n+i->
 Er.Aa l t w n (i:Int)=some ((l.drop i).all (II (ix w.Init.Count t) (Hr w.AE t)))
 |0,i,h1,h2=>ah
 |n+1,i,h1,h2=>by
  rw[Er.Aa];unfold Er.L1 Er.J1 Er.J2;by_cases hi:i<l.length
  . have f:=j _ (AAS hi);rw[A9 ah,CF hi,AAB,h,AAB,EC hi,Aj ah,VB m l t hn j h g n (i+1) ah ah,AAy];generalize l[i]=k at f |-;generalize (l.drop (i+1)).all (II (ix w.Init.Count t) (Hr w.AE t))=q;generalize ix w.Init.Count t=c at g |-;rw[B9 ah ah];unfold II JL;by_cases p:k<c
    . simp_all
    . rw[Ae p,show decide (k<c)=false from by simp_all];obtain⟨r,o,d⟩:=We m t BW 0 (k-c).toNat ah aG ah;rw[show(((k-c).toNat:Nat):Int)=k-c from by omega,show((0:Nat):Int)=0 from rfl]at o;rw[AAj]at d;unfold HQ;rw[o,AAB,Bool.false_or];cases hb:(Hr w.AE t)[(k-c).toNat]? with
      |none=>rw[hb]at d;have a:=List.getElem?_eq_none_iff.1 hb;rw[show Cu (k-c) (Hr w.AE t).length=false from by simp[Cu];omega];simp_all
      |some b=>rw[hb]at d;obtain⟨e,s,rfl,u⟩:=d;obtain⟨a,_⟩:=AAE.1 hb;rw[show Cu (k-c) (Hr w.AE t).length=true from by simp[Cu];omega,Ae ah,CF s,AAB];have f:ix (Hr w.AE t) (k-c)=b:=(by unfold ix;rw[hb];rfl);rw[f,<- u];unfold ZL;grind
  . rw[Ae ah,Ez hi];rfl
theorem bG(d:w.AE.length<=16)(l:dc)(t:Int)(hn:l.length<4611686018427387904)(c:∀k∈l,1<=k/\k<1000000)(b:gt w.Init.Count t=some (ix w.Init.Count t))(a:0<=ix w.Init.Count t/\ix w.Init.Count t<=400):
 Er w t l=some (l.all (II (ix w.Init.Count t) (Hr w.AE t))):=by
 have:=VB d l t hn c b a BW 0 ah aG;rw[AAj]at this;exact this
theorem aJ(h:u<o+B.length):II o (B++F) u=II o B u:=by
 unfold II JL;by_cases g:u<o
 . simp[g]
 . have d:Cu (u-o) (B++F).length=true:=bn;have e:Cu (u-o) B.length=true:=bn;rw[d,e];unfold ix;grind
theorem bH(h:Ly w)(l:w.AE.length<=16)(o:∀e∈w.AE,I6 e)(g:∀u,Cu u w.World.AA.length=true->0<=ix w.Init.Count u/\ix w.Init.Count u<=400):∀(n i:Nat)(s:AB),i<=w.AE.length->w.AE.length<n+i->RB (4+i) s.Sync->CI w.Init.Count w.World.AA.length (w.AE.take i) s->
 CB.DF w n s (i:Int)=some (Vi w.World w.Init.Count (w.AE.take i) s (w.AE.drop i))
 |0,i,s,h1,h2,_,_=>ah
 |n+1,i,s,h1,h2,h3,h6=>by
  rw[CB.DF];unfold CB.L2 CB.J4;by_cases hi:i<w.AE.length
  . have j:=o _ (AAS hi);rw[A9 ah,CF hi,AAB,Pg w.World h.s s (h3.mono ah) _ j,AAB,EC hi,Vi];unfold Oe;cases hp:HG w.World s w.AE[i]with
    |false=>rfl
    |true=>
     rw[AAL rfl,AAK (c:=(!true)=true) ak,AAY];have f:=Jr hp;have a:=g _ f;have x:=h6.2 _ f;have p:=JN (w.AE.take i) w.AE[i].Thread;rw[ABS ah]at p;obtain⟨y,z⟩:=bE hp;have b:gt w.Init.Count w.AE[i].Thread=some (ix w.Init.Count w.AE[i].Thread):=CL (by rw[h.c];exact f);have key:∀D:List Int,(∀k∈D,1<=k/\k<ix s.Count w.AE[i].Thread)->D.all (II (ix w.Init.Count w.AE[i].Thread) (Hr w.AE w.AE[i].Thread))=D.all (II (ix w.Init.Count w.AE[i].Thread) (Hr (w.AE.take i) w.AE[i].Thread)):=by
      intro D r;have q:Hr w.AE w.AE[i].Thread=Hr (w.AE.take i) w.AE[i].Thread++Hr (w.AE.drop i) w.AE[i].Thread:=(by rw[<- s9,ABA]);rw[q,ABa,AAH,AAH];constructor<;>intro t k d<;>have:=t k d<;>have v:=r k d
      . rwa [aJ ah]at this
      . rwa [aJ ah]
     rw[bG l _ _ j.1 (λk d=>bg) b a,AAB,bG l _ _ j.2 (λk d=>bg) b a,AAB,key _ y,key _ z];unfold Xz;cases w.AE[i].Dw.all (II (ix w.Init.Count w.AE[i].Thread) (Hr (w.AE.take i) w.AE[i].Thread))with
     |false=>rfl
     |true=>
      cases w.AE[i].DM.all (II (ix w.Init.Count w.AE[i].Thread) (Hr (w.AE.take i) w.AE[i].Thread))with
      |false=>rfl
      |true=>rw[AAK (c:=(!true)=true) ak,AAK (c:=(!true)=true) ak,AAY,AAY,Aj ah];have m:=h6.next (wv:=w.World) f g an;rw[AAX hi]at m |-;exact bH h l o g n (i+1) _ ah ah ((h3.apply _ _ _ _ _).mono ah) m
  . rw[Ae ah,Ez hi];rfl
theorem qZ{e:Bool}:(r&&(y&&(z&&(C&&(e&&(f&&g))))))=(r&&((y&&z)&&((C&&(e&&f))&&g))):=bg
theorem Valid_eq(f:∀e∈w.AE,I6 e)(g:RB 4611686018427387904 w.Init.Sync):Gt w=some (Mx w):=by
 unfold Gt Mx;rw[Qo,AAB];cases hv:Ce w.World with
 |false=>rfl
 |true=>
  have d:=DX hv;rw[AAL rfl,AAY];have a:IX w.World w.Init=some (IG w.World w.Init):=Lp _ d _;rw[a,AAB];cases hf:IG w.World w.Init with
  |false=>rfl
  |true=>
   rw[AAL rfl,AAY];by_cases b:w.AE.length<=16
   . have h:Ly w:=WinF.l ⟨hv,hf,b⟩;rw[A9 ah,show decide (w.AE.length<=16)=true from by simp_all,AAY,XA w (by have:=d.t;have:=h.c;omega) b,AAB];unfold eU;rw[qZ,l7 h,AAB,l5 h g,AAB,lZ h,AAB];cases hc:Kg w with
     |false=>rfl
     |true=>
      rw[AAL rfl,AAY];cases(GC (λi=>Na w i (IA w i)) 0 w.Init.Sync.AA.length&&GC (λi=>Vh w i (IA w i)) 0 w.Init.Sync.AA.length)with
      |false=>rfl
      |true=>
       rw[AAL rfl,AAY];cases hL:(GC (λi=>OQ w i (ix w.Init.Sync.AF i)) 0 w.Init.Sync.AF.length&&(txW w&&GC (λi=>MB w i (IA w i)) 0 w.Init.Sync.AA.length))with
       |false=>rfl
       |true=>rw[AAD]at hL;rw[AAL rfl,AAY,kM h b f hc (RB_of h hL.1)];cases GC (ZC w) 0 w.Init.AK.length<;>rfl
   . rw[Ae ah,show decide (w.AE.length<=16)=false from by simp_all];rfl
theorem mC(d:∀e∈w.AE,I6 e)(g:RB 4611686018427387904 w.Init.Sync):CB w=some (Mx w):=by
 unfold CB Mx;rw[Js,AAB];cases hv:Ce w.World with
 |false=>rfl
 |true=>
  have b:=DX hv;rw[AAK (c:=(!true)=true) ak,AAY,Q5 _ b,AAB];cases hf:IG w.World w.Init with
  |false=>rfl
  |true=>
   rw[AAK (c:=(!true)=true) ak,AAY];by_cases a:w.AE.length<=16
   . have h:Ly w:=WinF.l ⟨hv,hf,a⟩;rw[Ae ah,show decide (w.AE.length<=16)=true from by simp_all,AAY,qH w (by have:=b.t;have:=h.c;omega) a,AAB,eH h,AAB];unfold eU;cases hc:Kg w with
     |false=>rfl
     |true=>
      rw[AAK (c:=(!true)=true) ak,AAY];cases hs:GC (λi=>Na w i (IA w i)) 0 w.Init.Sync.AA.length with
      |false=>rfl
      |true=>
       rw[AAK (c:=(!true)=true) ak,AAY,lC h g hs,AAB];unfold CB.J1;rw[lB h];cases hL:GC (λi=>OQ w i (ix w.Init.Sync.AF i)) 0 w.Init.Sync.AF.length with
       |false=>simp_all
       |true=>have f:CB.J3 w=some (Vi w.World w.Init.Count [] w.Init w.AE):=(by have:=bH h a d (cnt_of h hc) BW 0 w.Init ah aG (RB_of h hL) ⟨h.c,λu _=>by simp[Hr]⟩;rw[List.take_zero,AAj]at this;exact this);rw[f];cases GC (λi=>Vh w i (IA w i)) 0 w.Init.Sync.AA.length<;>cases txW w<;>cases GC (λi=>MB w i (IA w i)) 0 w.Init.Sync.AA.length<;>cases GC (ZC w) 0 w.Init.AK.length<;>rfl
   . rw[A9 ah,show decide (w.AE.length<=16)=false from by simp_all];rfl
end
theorem vP(wv:AD)(l:dx):∀pre s,Ex wv pre s l=(0,0)\/(Ex wv pre s l).2=12/\(pre.length:Int)<=(Ex wv pre s l).1:=by
 induction l with
 |nil=>exactλ_ _=>.inl rfl
 |cons x r ih=>
  intro pre s;unfold Ex;split
  . refine(ih (pre++[x]) _).imp id λh=>⟨h.1,?_⟩
    have:=h.2;simp at this |-;omega
  . exact .inr ⟨rfl,ak⟩
structure AT (t:CC):Prop where
 w:Ce t.World=true
 l:t.AE.length<=400
 c:Ex t.World [] (Gx t.World) t.AE=(0,0)
 e:∀e∈t.AE,I6 e
theorem AT.of(a:∀e∈t.AE,I6 e)(h:(Ix t).2=0):AT t:=by
 unfold Ix at h;split at h
 . cases h
 . split at h
   . rename_i c b;rcases vP t.World t.AE [] (Gx t.World)with hc|⟨hc,_⟩
     . exact⟨b,ah,hc,a⟩
     . rw[hc]at h;cases h
   . cases h
theorem AT.check(h:AT t):Ix t=(0,0):=by unfold Ix;rw[AAK (by have:=h.l;omega),AAL h.w,h.c]
theorem AT.poss(h:AT t)(hi:k<t.AE.length):HG t.World (He t k) t.AE[k]=true:=by
 obtain⟨_,b⟩:=nM h.w h.l h.c k ah;rw[AA7 hi,Ex]at b;split at b
 . rename_i a;rw[AAD]at a;exact a.1
 . exact absurd (ABZ Prod.snd b) (λh:(12:Int)=0=>by cases h)
theorem AT.rb:∀i,i<=t.AE.length->RB i (He t i).Sync
 |0,_=>RB.start _
 |i+1,hi=>by rw[O4 ah];exact(AT.rb i ah).apply _ _ _ _ _
theorem AT.step{t:CC}(h:AT t){i:Nat}(hi:i<t.AE.length):Oe t.World (He t i) t.AE[i]=(He t (i+1),true):=by unfold Oe;rw[AAL (h.poss hi),O4 hi]
theorem AT.vstep(h:AT t)(hi:k<t.AE.length):Bc t.World (He t k) t.AE[k]=some (He t (k+1),true):=by rw[V8 _ (DX h.w) _ ((AT.rb k ah).mono (by have:=h.l;omega)) _ (h.e _ (AAS hi)),h.step hi]
theorem AT.rstep(h:AT t)(hi:k<t.AE.length):Bj t.World (He t k) t.AE[k]=some (He t (k+1),true):=by rw[Pg _ (DX h.w) _ ((AT.rb k ah).mono (by have:=h.l;omega)) _ (h.e _ (AAS hi)),h.step hi]
theorem Wl(h:AT t)(a:k<=t.AE.length):∀(n i:Nat),i<=k->k<n+i->F7.Aa (k:Int) t n (He t i) (i:Int)=some (He t k)
 |0,i,h1,h2=>ah
 |n+1,i,h1,h2=>by
  have c:=h.l;rw[F7.Aa];unfold F7.L1;by_cases hi:i<k
  . rw[A9 ah,CF ah,AAB,h.rstep ah,AAB,Aj ah];exact Wl h a n (i+1) ah ah
  . have:i=k:=ah;subst this;rw[Ae ah];rfl
theorem after_eq(h:AT t)(a:k<=t.AE.length):F7 t (k:Int)=some (He t k):=by unfold F7;rw[Jy _ (DX h.w),AAB];exact Wl h a BW 0 ah (by have:=BO;have:=h.l;omega)
def Ev400(e:AG):Prop:=e.Dw.length<=1000/\e.DM.length<=1000
theorem nums_len:∀(D:dc)(a:Int),a<o->Fi o a D=true->(D.length:Int)+a+1<=o:=by
 intro D;induction D with
 |nil=>intro a h _;simp;omega
 |cons x r ih=>
  intro a h hn;unfold Fi at hn;simp only[AAD,AAV]at hn
  have:=ih x hn.2.1 hn.2.2;simp only[AA8];omega
theorem AT.ev(h:AT t)(m:x∈t.AE):Ev400 x:=by
 obtain⟨i,hi,rfl⟩:=ABR m;obtain⟨a,_⟩:=nM h.w h.l h.c i ah;have b:=h.poss hi;have k:=a.c _ (Jr b);have n:=JN (t.AE.take i) t.AE[i].Thread;have o:=h.l;rw[ABS ah]at n;unfold HG ES at b;simp only[AAD]at b;obtain⟨_,_,_,_,⟨⟨_,d⟩,_,f⟩,_⟩:=b;rw[k]at d f;have key:∀D:List Int,Fi ((Hr (t.AE.take i) t.AE[i].Thread).length:Int) 0 D=true->D.length<=1000:=by
  intro D g;cases D with
  |nil=>simp
  |cons e r=>
   have j:0<((Hr (t.AE.take i) t.AE[i].Thread).length:Int):=by have:=dT _ _ g e ak;omega
   have:=nums_len _ _ j g;omega
 exact⟨key _ d,key _ f⟩
def fE(k i:Nat):Nat:=(i+k-1)/k
theorem winN_in(a:0<k)(q r:Nat)(b:0<r)(c:r<=k):fE k (q*k+r)=q+1:=by unfold fE;rw[show q*k+r+k-1=k*q+(r-1+k)from by rw[AA6];omega,Nat.mul_add_div a,Nat.add_div_right _ a,Nat.div_eq_of_lt ah]
theorem winN_le(a:0<k)(i:Nat):fE k i<=i+k:=by unfold fE;exact AA5 (Nat.div_le_self _ _) ah
def OJ(t:CC)(k i:Nat):List AL:=(List.range (fE k i)).map λj=>winS t k (j*k)
theorem Zj(t:CC)(k i:Nat):(OJ t k i).length=fE k i:=by simp[OJ]
def qF(n:Nat):List.range (n+1)=List.range n++[n]:=List.range_succ
theorem slice_eq(hi:n<=pre.length):(pre.drop n).take (((if(pre.length:Int)<(n:Int)+(k:Int)then(pre.length:Int)else(n:Int)+(k:Int)).toNat)-n)=(pre.drop n).take k:=by
 split
 . rw[AAq ak,AAq an]
 . rw[show((n:Int)+(k:Int)).toNat-n=k from by omega]
def eT(t:CC)(size:Int):List AL×Int:=if(Ix t).2≠0 then([],12)else if size<1\/size>16 then([],1)else(OJ t size.toNat t.AE.length,0)
theorem VE(h:AT t)(a:0<k)(f:k<=16):∀(n j:Nat),j*k<t.AE.length+k->t.AE.length+k<n+j*k->Ep.Aa (k:Int) t n ((List.range j).map λj=>winS t k (j*k)) ((j*k:Nat):Int)=some (OJ t k t.AE.length,0)
 |0,j,h1,h2=>ah
 |n+1,j,h1,h2=>by
  have o:=h.l;rw[Ep.Aa];unfold Ep.L1;have m:j<=j*k:=Nat.le_mul_of_pos_right j a;have b:(j+1)*k=j*k+k:=ABF j k;have c:t.AE.length<=j*k->fE k t.AE.length=j:=by
   intro hi;cases j with
   |zero=>have g:t.AE.length=0:=ah;rw[g];unfold fE;exact Nat.div_eq_of_lt ah
   |succ j=>
    have p:(j+1)*k=j*k+k:=ABF j k
    have:=winN_in a j (t.AE.length-j*k) ah ah;rw[show j*k+(t.AE.length-j*k)=t.AE.length from by omega]at this;exact this
  generalize d:j*k=i at*;by_cases hi:i<t.AE.length
  . rw[A9 ah,after_eq h ah,AAB,B9 (n:=(i:Int)+(k:Int)) ah ah,AAz,slice_eq ah,AAL (by split<;>omega),BV an];have e:((List.range j).map λj=>winS t k (j*k))++[AL.mk t.World (i:Int) (He t i) ((t.AE.drop i).take k)]=(List.range (j+1)).map λj=>winS t k (j*k):=(by rw[qF,AAp,List.map_singleton,d];rfl);rw[e]
    have:=VE h a f n (j+1) ah ah;rw[b]at this;exact this
  . rw[Ae ah];unfold Ep.J2 OJ;rw[c ah]
theorem yL(t:CC)(d:∀e∈t.AE,I6 e)(n:Int):Ep t n=some (eT t n):=by
 unfold Ep eT;rw[yK t d,AAB];by_cases a:(Ix t).2=0
 . have h:=AT.of d a;rw[AAK (c:=((Ix t).2 != 0)=true) (by simp[a]),AAK (c:=(Ix t).2≠0) (by simp[a])];unfold Ep.J1;by_cases b:n<1
   . rw[A9 b,AAL rfl,AAL (.inl b)]
   . rw[Ae b];by_cases g2:n>16
     . rw[AAL (by simpa using g2),AAL (.inr g2)]
     . rw[AAK (by simpa using g2),AAK ah]
       have:=VE h (k:=n.toNat) ah ah BW 0 ah (by have:=BO;have:=h.l;omega);rw[show((n.toNat:Nat):Int)=n from by omega,Nat.zero_mul]at this;exact this
 . rw[AAL (c:=((Ix t).2 != 0)=true) (by simp[a]),AAL (c:=(Ix t).2≠0) a]
def cN:ABe:=⟨#[99]⟩
def noE:BE:=⟨0,0,⟨#[]⟩,[]⟩
def mG(T:fb)(o:Int)(s a:ABe)(i:List BE):Prop:=
 (o=1->i=[]->s∈vN)/\(o=4->s=⟨#[109]⟩\/s=⟨#[110]⟩)/\(o=5\/o=6->s=⟨#[114]⟩)/\(o=12\/o=13->T s)/\(o=14->s=⟨#[102]⟩)/\(o=15->s=⟨#[97]⟩/\a=⟨#[102]⟩)
def cm{p:Prop}(h:p:=by simp[mG]):p:=h
def bdF(o:Int)(b e:d5):Prop:=(o∉[(2:Int),3,4,5,6,7,8]->b=[])/\(o≠2->e=[])
def Hw(T:fb):Nat->AQ->Prop
 |0,_=>False
 |n+1,s=>(1<=s.Op/\s.Op<=15)/\(s.Index=[]\/s.Op=1/\s.Name=qS/\∃a,s.Index=[a]/\S8 2 a)/\(S8 2 s.Expr\/s.Op∉[(1:Int),2,3,14]/\s.Expr=noE)/\(s.Op∈[(9:Int),10,11]->s.Name=cN)/\
  s.Body.length<=4/\s.Else.length<=4/\(∀x∈s.Body,Hw T n x)/\(∀x∈s.Else,Hw T n x)/\bdF s.Op s.Body s.Else/\mG T s.Op s.Name s.Arg s.Index
structure MK (H:Nat) (m:AO):Prop where
 t:DG m.t
 h:m.held.length<=H/\H<=500
structure Ir (m m':AO):Prop where
 t:DG m'.t
 h:m'.held=m.held
variable{m D:AO}
theorem VF.keep(h:VF m D):Ir m D:=⟨h.1,by rw[h.2]⟩
theorem Ir.mk'(b:MK k m)(h:Ir m D):MK k D:=⟨h.t,by rw[h.h];exact b.h⟩
variable{E:AO}
def Ir.trans(h:Ir m D)(g:Ir D E):Ir m E:=⟨g.t,g.h.trans h.h⟩
def okL(T:fb)(k:Nat)(l:d5):Prop:=l.length<=2/\∀x∈l,Hw T k x
variable{T:fb}
theorem LQ{s:ABe}{e:BE}(h:S8 2 e)(a:s∈vN)(k:Nat):Hw T (k+1) ⟨1,0,s,⟨#[]⟩,[],e,[],[]⟩:=⟨⟨ak,ak⟩,.inl rfl,.inl h,ak,ak,ak,ak,ak,⟨λ_=>rfl,λ_=>rfl⟩,λ_ _=>a,ak,ak,ak,ak,ak⟩
theorem Pe{s a:ABe}(h:1<=o/\o<=15)(b:o∉[(1:Int),2,3,14])(c:o∈[(9:Int),10,11]->s=cN)(d:mG T o s a []):Hw T (k+1) ⟨o,u,s,a,[],noE,[],[]⟩:=
 ⟨h,.inl rfl,.inr ⟨b,rfl⟩,c,ak,ak,ak,ak,⟨λ_=>rfl,λ_=>rfl⟩,d⟩
theorem QJ{s a:ABe}(i:o∈[(2:Int),3,4,5,6,7,8])(h:1<=o/\o<=15)(d:o∉[(1:Int),2,3,14])(e:o∉[(9:Int),10,11])(f:mG T o s a []){b:d5}(g:b.length<=4)(c:∀x∈b,Hw T k x):Hw T (k+1) ⟨o,u,s,a,[],noE,b,[]⟩:=
 ⟨h,.inl rfl,.inr ⟨d,rfl⟩,λh=>absurd h e,g,ak,c,ak,⟨λh=>absurd i h,λ_=>rfl⟩,f⟩
variable{v:d4}
section
variable{T:fb}{R158:AO->ABe->Int->ABd (List AQ×AO)}{R86:AO->Int->Int->ABd (List AQ×AO)}{depth:Int}{nested:Bool}{k H:Nat}
structure O2 (T:ABe->Prop) (R158:AO->ABe->Int->ABd (List AQ×AO)) (R86:AO->Int->Int->ABd (List AQ×AO)) (depth:Int) (k H:Nat):Prop where
 d:0<=depth/\depth<100
 b:0<depth->∀m s,MK H m->CD (R158 m s (depth-1)) λr=>okL T (k+1) r.1/\Ir m r.2
 s:0<depth->∀m d n,MK H m->(d=0\/d=depth-1)->(n=1\/n=2)->CD (R86 m d n) λr=>okL T (k+1) r.1/\Ir m r.2
abbrev Good(T:fb)(k:Nat)(m:AO)(r:AQ×AO):Prop:=Hw T (k+2) r.1/\Ir m r.2
theorem b8{m:AO}(a:MK H m)(b:Bool):CD (Ay.rK m b) (Good T k m):=by unfold Ay.rK En;refine tI (λ_=>tR ⟨Pe aS aS aS cm,a.t,rfl⟩) λ_=> ?_;refine tB (KR (.inr rfl) a.t) ?_;rintro e ⟨c,d⟩;exact tR ⟨LQ c (Xq aS) _,d.keep⟩
theorem V7{m:AO}(a:MK H m)(v:d4)(b:Bool):CD (Ay.Y4 m v b) (Good T k m):=by
 unfold Ay.Y4;refine tI (λ_=> ?_) λ_=>tI (λ_=>tI (λ_=> ?_) λ_=>b8 a _) λ_=>b8 a _
 . refine tB (KR (.inr rfl) a.t) ?_;rintro e ⟨d,c⟩;exact tR ⟨⟨⟨ak,ak⟩,.inl rfl,.inl d,ak,ak,ak,ak,ak,⟨λ_=>rfl,λ_=>rfl⟩,cm⟩,c.1,by rw[c.2]⟩
 . refine tB (Gp a.t ah) ?_;rintro e ⟨_,c⟩;exact tM (b8 (k:=k) (m:={m with t:=e.2}) ⟨c,a.h⟩ _) λr h=>⟨h.1,h.2.t,h.2.h⟩
theorem b6{m:AO}(a:MK H m)(v:d4)(b:Bool):CD (Ay.Oz v m b) (Good T k m):=by unfold Ay.Oz;refine tI (λ_=> ?_) λ_=>tI (λ_=>tI (λ_=>tI (λ_=>V7 a _ _) λ_=>V7 a _ _) λ_=>V7 a _ _) λ_=>V7 a _ _;refine tB (Gp a.t ah) ?_;rintro e ⟨f,d⟩;refine tR ⟨QJ aS aS aS aS cm ak ?_,d,rfl⟩;intro x c;simp only[AAl]at c;subst c;rw[B9 ah ah];refine Pe ah ?_ (λ_=>rfl) ⟨ah,ah,ah,ah,ah,ah⟩;simp;omega
theorem cC{m:AO}(a:MK H m)(v:d4)(b:Bool):CD (Ay.J9 nested v m b) (Good T k m):=by
 unfold Ay.J9 Ii En;refine tI (λ_=> ?_) λ_=>tI (λ_=>tI (λ_=> ?_) λ_=>b6 a _ _) λ_=>b6 a _ _
 . simp only[AAB];refine tR ⟨QJ aS aS aS aS cm ak ?_,a.t,rfl⟩;intro x c;simp only[AAn,AA3,AA2]at c;rcases c with rfl|rfl
   . exact Pe aS aS (λ_=>rfl) cm
   . exact LQ (.inr (.inl ⟨rfl,rfl,Xq aS⟩)) (Xq aS) _
 . refine tB (QE (by have:=a.h;omega) _) ?_;rintro e rfl;exact b6 a _ _
theorem mQ(b:O2 T R158 R86 depth k H)(hn:nested=true->0<depth){m:AO}(a:MK H m)(v:d4)(i:g=true->0<depth):CD (Ay.J8 R86 depth m nested v g) (Good T k m):=by
 have hd:=b.d;unfold Ay.J8;refine tI (λh=> ?_) λ_=>tI (λ_=>tI (λ_=>tI (λ_=> ?_) λ_=>cC a _ _) λ_=>cC a _ _) λ_=>cC a _ _
 . refine tB (b.s (i h) _ _ _ ⟨a.t,a.h⟩ (.inr (B9 ah ah)) (.inr rfl)) ?_;rintro e ⟨c,f⟩;exact tR ⟨QJ aS aS aS aS cm (by have:=c.1;omega) c.2,f.t,f.h⟩
 . refine tB (QE (by have:=a.h;omega) _) ?_;rintro e rfl;exact cC a _ _
theorem J7_tot(d:O2 T R158 R86 depth k H)(hn:nested=true->0<depth){m:AO}(a:MK H m)(v:d4)(i:g=true->0<depth):CD (Ay.J7 R86 depth m nested v g) (Good T k m):=by unfold Ay.J7;refine tI (λh=> ?_) λ_=>tI (λ_=>tI (λh=>mQ d hn a _ λ_=>hn h) λ_=>mQ d hn a _ ak) λ_=>mQ d hn a _ ak;refine tB (Gp a.t ah) ?_;rintro b ⟨j,c⟩;refine tB (d.s (i h) {m with t:=b.2,tx:=true} _ _ ⟨c,a.h⟩ (.inl rfl) (by rw[B9 (by omega) (by omega)];omega)) ?_;rintro e ⟨c,f⟩;exact tR ⟨QJ aS aS aS aS cm (by have:=c.1;omega) c.2,f.t,f.h⟩
theorem cB(c:O2 T R158 R86 depth k H)(hn:nested=true->0<depth){m:AO}(f:MK H m)(v:d4)(j:g=true->0<depth/\(v.1=10\/v.1=11)):CD (Ay.J6 R158 R86 depth nested v m g) (Good T k m):=by have hd:=c.d;unfold Ay.J6;refine tI (λh=> ?_) λ_=>tI (λ_=>J7_tot c hn f _ hn) λ_=>J7_tot c hn f _ ak;obtain⟨i,a⟩:=j h;rw[B9 (n:=depth-1) ah ah];refine tB (c.b i m _ f) ?_;rintro e ⟨b,g2⟩;refine tR ⟨?_,g2⟩;rcases a with a|a<;>rw[a]<;>exact QJ aS aS aS aS (by first| (rw[show BA (BA ((10:Int)-10)+5)=5 from rfl];simp[mG])| (rw[show BA (BA ((11:Int)-10)+5)=6 from rfl];simp[mG])) (by have:=b.1;omega) b.2
theorem cA(f:O2 T R158 R86 depth k H)(hn:nested=true->0<depth){m:AO}(a:MK H m)(v:d4)(s:g=true->0<depth/\(v.1=8\/v.1=9)):CD (Ay.J5 R158 R86 depth nested v m g) (Good T k m):=by
 have hd:=f.d;have t:=a.h;have o:∀{c:Bool}{i:Int},(v.1==i)=true->(i=10\/i=11)->nested=true->c=true->0<depth/\(v.1=10\/v.1=11):=λp q r _=>⟨hn r,am⟩;unfold Ay.J5;refine tI (λh=> ?_) λ_=>tI (λb=>tI (λj=> ?_) λ_=>cB f hn a _ ak) λ_=>tI (λb=>tI (λj=> ?_) λ_=>cB f hn a _ ak) λ_=>cB f hn a _ ak
 . obtain⟨p,q⟩:=s h;rw[B9 (n:=depth-1) ah ah,B9 ah ah];refine tG an λx u=>tB (f.b p m _ a) ?_;rintro e ⟨l,g2⟩;exact tR ⟨QJ aS aS aS aS ⟨ak,λ_=>am,ak,ak,ak,ak⟩ (by have:=l.1;omega) l.2,g2⟩
 all_goals
  refine tB (QE ah _) ?_;rintro e rfl;exact cB f hn a _ (o b ah j)
theorem J4_tot(a:O2 T R158 R86 depth k H)(hn:nested=true->0<depth){m:AO}(l:MK H m)(q:DG v.2)(z:g=true->0<depth):CD (Ay.J4 R158 R86 depth m nested v g) (Good T k m):=by
 have hd:=a.d;have E:=l.h;have o:∀{c:Bool}{i:Int},(v.1==i)=true->(i=8\/i=9)->nested=true->c=true->0<depth/\(v.1=8\/v.1=9):=λC D u _=>⟨hn u,am⟩;have b:MK H (AO.mk v.2 m.Bb (BA (m.left-1)) m.HR m.tx m.atomic m.loop m.held):=⟨q,l.h⟩;have w:∀{r:AQ×AO},Good T k (AO.mk v.2 m.Bb (BA (m.left-1)) m.HR m.tx m.atomic m.loop m.held) r->Good T k m r:=λh=>⟨h.1,h.2.t,h.2.h⟩;unfold Ay.J4;refine tI (λh=> ?_) λ_=>tI (λj=>tI (λn=> ?_) λ_=>tM (cA a hn b _ ak) λ_=>w) λ_=>tI (λj=>tI (λn=> ?_) λ_=>tM (cA a hn b _ ak) λ_=>w) λ_=>tM (cA a hn b _ ak) λ_=>w
 . unfold Ii Jo IJ En;simp only[AAB];refine tB (a.s (z h) _ _ _ ⟨q,l.h⟩ (.inr (B9 ah ah)) (.inl rfl)) ?_;rintro e ⟨p,g2⟩
   have:=p.1;refine tC (Bm ah) (tR ⟨⟨ak,.inl rfl,.inl ?_,ak,an,ak,?_,ak,⟨λh=>absurd ak h,λ_=>rfl⟩,cm⟩,g2.t,g2.h⟩)
   . exact .inr (.inr (.inr ⟨ak,_,_,rfl,.inr (.inl ⟨rfl,rfl,Xq aS⟩),.inl ⟨rfl,rfl⟩⟩))
   . intro x f;rcases AAW.1 f with f|f
     . exact p.2 x f
     . simp only[AAl]at f;subst f;exact LQ (.inr (.inr (.inr ⟨aS,_,_,rfl,.inr (.inl ⟨rfl,rfl,Xq aS⟩),.inl ⟨rfl,rfl⟩⟩))) (Xq aS) _
 all_goals
  have y:=eq_of_beq j;rw[y];refine tG aS λx _=>tB (QE bg _) ?_;rintro e B;rw[B];exact tM (cA a hn b _ (o j ah n)) λ_=>w
theorem J2_tot(a:O2 T R158 R86 depth k H)(hn:nested=true->0<depth){m:AO}(f:MK H m)(b:DG v.2)(z:g=true->0<depth):CD (Ay.J2 R158 R86 depth m nested v g) (Good T k m):=by have hd:=a.d;unfold Ay.J2 Ay.J3;refine tI (λh=> ?_) λ_=>tI (λ_=>J4_tot a hn f b λh=>bg) λ_=>J4_tot a hn f b ak;have h:=z h;refine tB (KR (.inr rfl) (m:=AO.mk v.2 m.Bb (BA (m.left-1)) m.HR m.tx m.atomic m.loop m.held) b) ?_;rintro e ⟨o,y⟩;have p:=y.keep;have u:MK H (AO.mk v.2 m.Bb (BA (m.left-1)) m.HR m.tx m.atomic m.loop m.held):=⟨b,f.h⟩;rw[B9 (n:=depth-1) ah ah];refine tB (a.s h _ _ _ (Ir.mk' u p) (.inr rfl) (.inl rfl)) ?_;rintro w ⟨⟨w,j⟩,q⟩;refine tB (Gp q.t ah) ?_;rintro c ⟨_,l⟩;have i:=q.h.trans p.h;refine tI (λ_=> ?_) λ_=>tR ⟨⟨ak,.inl rfl,.inl o,ak,an,ak,j,ak,⟨λh=>absurd ak h,λ_=>rfl⟩,cm⟩,l,i⟩;refine tB (a.s h _ _ _ ⟨l,by rw[show _=m.held from i];exact f.h⟩ (.inr rfl) (.inl rfl)) ?_;rintro d ⟨⟨d1,x⟩,r⟩;exact tR ⟨⟨ak,.inl rfl,.inl o,ak,an,an,j,x,⟨λh=>absurd ak h,λh=>absurd rfl h⟩,cm⟩,r.t,r.h.trans i⟩
theorem mP(l:O2 T R158 R86 depth k H)(hn:nested=true->0<depth){m:AO}(f:MK H m)(q:0<=v.1)(d:DG v.2):CD (Ay.J1 R158 R86 depth m v nested) (Good T k m):=by
 have j:MK H (AO.mk v.2 m.Bb (BA (m.left-1)) m.HR m.tx m.atomic m.loop m.held):=⟨d,f.h⟩;unfold Ay.J1 En;refine tI (λh=> ?_) λ_=>tI (λ_=> ?_) λ_=>tI (λ_=> ?_) λ_=>tI (λ_=>J2_tot l hn f d λh=>bg) λ_=>J2_tot l hn f d ak
 . have h:=AAO h;refine tG an λx i=>tB (KR (.inr rfl) j.t) ?_;rintro e ⟨b,a⟩;exact tR ⟨LQ b (WJ aS i) _,a.keep.t,a.keep.h⟩
 . refine tB (Gp d ah) ?_;rintro c ⟨n,o⟩;refine tG n λx i=>tB (KR (.inr rfl) o) ?_;rintro e ⟨b,a⟩;exact tR ⟨LQ b (WJ aS i) _,a.keep.t,a.keep.h⟩
 . refine tB (KR (.inl rfl) j.t) ?_;rintro e ⟨b,a⟩;refine tB (KR (.inr rfl) a.keep.t) ?_;rintro g ⟨p,g2⟩;exact tR ⟨⟨ak,.inr ⟨rfl,rfl,_,rfl,b⟩,.inl p,ak,ak,ak,ak,ak,⟨λ_=>rfl,λ_=>rfl⟩,cm⟩,g2.keep.t,g2.keep.h.trans a.keep.h⟩
theorem lX(b:O2 T R158 R86 depth k H){m:AO}(a:MK H m):CD (Ay R158 R86 m depth) (Good T k m):=by unfold Ay;refine tB (Gp a.t ah) ?_;rintro v ⟨c,d⟩;exact tI (λh=>tI (λ_=>mP b (λ_=>bg) a c.1 d) λ_=>mP b ak a c.1 d) λ_=>mP b ak a c.1 d
end
section
variable{T:fb}
theorem bP{R:fm}(s:∀m,MK n m->CD (R m o) λr=>Hw T k r.1/\Ir m r.2)(a:MK n m)(hn:0<=u/\u<=3):
 CD (CY R m o u) λr=>((r.1.length:Int)<=u/\∀x∈r.1,Hw T k x)/\Ir m r.2:=by
 have j:=BO;have key:∀H (i:Nat) (d:AO) (l:d5),10<H+i->(i:Int)<=u->l.length<=i->(∀x∈l,Hw T k x)->Ir m d->CD (CY.Aa R o u H d l i) λr=>((r.1.length:Int)<=u/\∀x∈r.1,Hw T k x)/\Ir m r.2:=by
  intro H;induction H with
  |zero=>omega
  |succ H ih=>
   intro i d l v w y q f;have J:∀b,(b=true->(i:Int)<u)->CD (CY.J1 (CY.Aa R o u H) R o i l d b) λr=>((r.1.length:Int)<=u/\∀x∈r.1,Hw T k x)/\Ir m r.2:=by
    intro b j;unfold CY.J1 CY.J2;refine tI (λh=> ?_) λ_=>tR ⟨⟨bg,q⟩,f⟩;have h:=j h;refine tB (s _ (Ir.mk' a f)) ?_;rintro e ⟨c,p⟩;refine tC (Bm ah) ?_;rw[Aj ah];refine ih (i+1) _ _ ah ah an ?_ (f.trans p);intro x g;rcases AAW.1 g with g|g
    . grind
    . simp_all
   unfold CY.Aa CY.L1;grind
 exact key BW 0 m [] ah ah ak ak ⟨a.t,rfl⟩
theorem okS_mono:∀{s:AQ},Hw T n s->Hw T (n+1) s:=by
 induction n with
 |zero=>exactλh=>h.elim
 |succ n ih=>exactλ⟨h1,h2,h3,h4,h5,h6,h7,h8,h9⟩=>⟨h1,h2,h3,h4,h5,h6,λx a=>ih (h7 x a),λx a=>ih (h8 x a),h9⟩
theorem okS_le(h:k<=n){s:AQ}(c:Hw T k s):Hw T n s:=by
 induction h with
 |refl=>exact c
 |step _ ih=>exact okS_mono ih
theorem vI{R86:AO->Int->Int->ABd (List AQ×AO)}(b:MK n m)(i:n<500)(s:ABe)(h:∀m H,MK (n+1) m->(H=1\/H=2)->CD (R86 m o H) λr=>okL T k r.1/\Ir m r.2):CD (HO R86 m s o) λr=>okL T k r.1/\Ir m r.2:=by
 have j:=b.h;unfold HO;refine tC (Bm ah) (tB (Gp b.t ah) ?_);rintro v ⟨l,g⟩;refine tB (h (AO.mk v.2 m.Bb m.left m.HR m.tx m.atomic m.loop (m.held++[s])) _ ⟨g,an⟩ (by rw[B9 (by omega) (by omega)];omega)) ?_;rintro e ⟨c,a⟩;have f:e.2.held=m.held++[s]:=a.h;simp only[f,AAr,AA8,ABK];rw[B9 ah ah];refine tC ah (tR ⟨c,a.t,?_⟩);simp_all
theorem aW{H:Nat}(c:H<500)(d:3<=n):
 (∀m,MK H m->CD (FZ n m (0:Nat)) (Good T 0 m))/\∀m a,MK H m->0<=a/\a<=3->CD (Du (n+1) m (0:Nat) a) λr=>((r.1.length:Int)<=a/\∀x∈r.1,Hw T 2 x)/\Ir m r.2:=by
 have key:∀m,MK H m->CD (FZ n m (0:Nat)) (Good T 0 m):=by intro m b;obtain⟨n,rfl⟩:∃k,n=k+1:=⟨n-1,ah⟩;exact lX (R158:=Jn n) (R86:=Du n) (H:=H) ⟨ah,λh=>by simp at h,λh=>by simp at h⟩ b
 exact⟨key,λm a b hn=>bP (R:=FZ n) key b hn⟩
theorem made_tot(d:Nat):∀(H n:Nat),d<50->H+d<500->3*d+3<=n->
 (∀m,MK H m->CD (FZ n m d) (Good T d m))/\∀m a,MK H m->0<=a/\a<=3->CD (Du (n+1) m d a) λr=>((r.1.length:Int)<=a/\∀x∈r.1,Hw T (d+2) x)/\Ir m r.2:=by
 induction d with
 |zero=>exactλH n _ g i=>aW ah ah
 |succ d ih=>
  intro H n o g i;have sub:∀(f c:Nat)(m:AO)(e a:Int),f<=H+1->3*d+4<=c->MK f m->(e=0\/e=((d+1:Nat):Int)-1)->(a=1\/a=2)->CD (Du c m e a) λr=>okL T (d+2) r.1/\Ir m r.2:=by
   intro f c m e a l g2 b hd hn;obtain⟨c,rfl⟩:∃k,c=k+1:=⟨c-1,ah⟩;rcases hd with rfl|rfl
   . exact tM ((aW (n:=c) ah ah).2 m a b ah) λr h=>⟨⟨ah,λx j=>okS_le ah (h.1.2 x j)⟩,h.2⟩
   . rw[show((d+1:Nat):Int)-1=(d:Int)from by omega];exact tM ((ih f c ah ah ah).2 m a b ah) λr h=>⟨⟨ah,h.1.2⟩,h.2⟩
  have key:∀m,MK H m->CD (FZ n m (d+1:Nat)) (Good T (d+1) m):=by
   intro m b;obtain⟨n,rfl⟩:∃k,n=k+2:=⟨n-2,ah⟩;refine lX (R158:=Jn (n+1)) (R86:=Du (n+1)) (H:=H) (k:=d+1) ⟨ah,λ_ m s b=> ?_,λ_ m e a b hd hn=> ?_⟩ b
   . exact vI (R86:=Du n) b ah s λm a b hn=>sub (H+1) n m _ a ah ah b (.inr rfl) hn
   . grind
  exact⟨key,λm a b hn=>bP (R:=FZ n) key b hn⟩
end
section
variable{T:fb}
abbrev TT{d:Type}(o:ABd d):Prop:=CD o λ_=>True
theorem tD{p:Prop}[Decidable p]{a c:ABd b}{R:b->Prop}(d:p->CD a R)(e:¬p->CD c R):CD (if decide p=true then a else c) R:=bg
def IW{o:ABd a}{f:a->ABd b}{R:b->Prop}(h:TT o)(k:∀x,CD (f x) R):CD (o.bind f) R:=tB h λx _=>k x
theorem tE{o:ABd a}{y:a}{f:a->ABd b}{R:b->Prop}(h:o=some y)(k:CD (f y) R):CD (o.bind f) R:=am
theorem bR{l:List a}{i:Nat}{f:a->ABd b}{R:b->Prop}(h:i<l.length)(k:CD (f l[i]) R):CD ((gt l (i:Int)).bind f) R:=by rw[CF h];exact k
theorem tL{Q:a->Prop}(N:Nat){F:Nat->Int->ABd a}(e:N<1000000000000)(h:∀n (i:Nat),i<=N->(i<N->CD (F n (BA (i+1))) Q)->CD (F (n+1) i) Q):CD (F BW 0) Q:=by
 have f:=BO;have key:∀n (i:Nat),N<n+i->i<=N->CD (F n i) Q:=by
  intro n;induction n with
  |zero=>omega
  |succ n ih=>intro i c b;refine h n i b λd=> ?_;rw[Aj ah];grind
 exact key BW 0 ah ah
theorem tLk{Q:b->Prop}(N j:Nat)(I:Nat->a->Prop){F:Nat->a->Int->ABd b}(l:N<1000000000000)(o:j<=N){s0:a}(e:I j s0)(h:∀n (i:Nat) s,i<=N->I i s->(∀G,i<N->I (i+1) G->CD (F n G (BA (i+1))) Q)->CD (F (n+1) s i) Q):CD (F BW s0 j) Q:=by
 have m:=BO;have key:∀n (i:Nat) s,N<n+i->i<=N->I i s->CD (F n s i) Q:=by
  intro n;induction n with
  |zero=>omega
  |succ n ih=>intro i s f c d;refine h n i s c d λG g k=> ?_;rw[Aj ah];grind
 grind
theorem Pw{Q:b->Prop}(N:Nat)(I:Nat->a->Prop){F:Nat->a->Int->ABd b}(d:N<1000000000000){s0:a}(c:I 0 s0)(h:∀n (i:Nat) s,i<=N->I i s->(∀e,i<N->I (i+1) e->CD (F n e (BA (i+1))) Q)->CD (F (n+1) s i) Q):CD (F BW s0 0) Q:=tLk N 0 I d ah c h
def Lj(s:ABe):TT (B5 s):=⟨_,OT s,trivial⟩
def dE:Nat->BE->Prop
 |0,_=>False
 |n+1,e=>e.L.length<=2/\∀x∈e.L,dE n x
theorem S8.d:∀{e:BE},S8 n e->dE n e:=by
 induction n with
 |zero=>exactλh=>h.elim
 |succ n ih=>
  intro e h;rcases h with⟨_,h⟩|⟨_,h,_⟩|⟨_,_,a,h,c⟩|⟨_,a,b,h,c,f⟩<;>refine⟨by simp[h],?_⟩<;>rw[h]<;>simp
  all_goals simp_all
theorem Hw.e{s:AQ}(h:Hw T n s):dE 2 s.Expr:=by
 cases n with
 |zero=>exact h.elim
 |succ n=>
  rcases h.2.2.1 with h|⟨_,h⟩
  . exact h.d
  . rw[h];exact⟨by simp[noE],by simp[noE]⟩
theorem Hw.i{s:AQ}(h:Hw T n s):s.Index=[]\/∃a,s.Index=[a]/\dE 2 a:=by
 cases n with
 |zero=>exact h.elim
 |succ n=>exact h.2.1.imp id λ⟨_,_,a,h,k⟩=>⟨a,h,k.d⟩
theorem Yi(d:EX):TT (Co d):=by
 have a:∀b,TT (Co.J2 d b):=by
  intro b;unfold Co.J2 Co.J3
  repeat' first|exact tR trivial|refine tI (λ_=> ?_) λ_=> ?_
 have j1:∀b,TT (Co.J1 d b):=by
  intro b;unfold Co.J1
  repeat' first|exact tR trivial|exact a _|refine IW (Lj _) λ_=> ?_|refine tI (λ_=> ?_) λ_=> ?_
 unfold Co
 repeat' first|exact j1 _|refine IW (Lj _) λ_=> ?_|refine tI (λ_=> ?_) λ_=> ?_
theorem cD(o:Int):TT (D5 o):=by
 unfold D5 D5.J1 D5.J2 D5.J3
 repeat' first|exact tR trivial|refine tI (λ_=> ?_) λ_=> ?_
theorem Wg(d:Nat):∀(n:Nat)(e:BE),d<=n->dE d e->TT (DE n e):=by
 induction d with
 |zero=>exactλn e _ h=>h.elim
 |succ d ih=>
  intro n e hn ⟨h1,h2⟩;obtain⟨n,rfl⟩:∃k,n=k+1:=⟨n-1,ah⟩;show TT (Ca (DE n) e);have c:∀b,TT (Ca.J2 (DE n) e b):=by intro b;unfold Ca.J2;refine tI (λ_=>tR trivial) λ_=>tL e.L.length ah λm i hi k=> ?_;unfold Ca.Aa Ca.L1;refine tD (λ_=>tG ah λx a=>IW (ih n x ah (h2 x a)) λ_=>tI (λ_=>tR trivial) λ_=>k ah) λ_=>tR trivial
  have j1:∀b,TT (Ca.J1 (DE n) e b):=by
   intro b;unfold Ca.J1;refine IW (cD _) λ_=> ?_
   repeat' first|exact c _|refine IW (Lj _) λ_=> ?_|refine tI (λ_=> ?_) λ_=> ?_
  unfold Ca;grind
theorem MC(h:n<=1000):n<=BW:=aG
theorem mV{e:BE}(h:dE 2 e):TT (DE BW e):=Wg 2 _ e (MC ah) h
theorem Wh{s:AQ}{R:List AQ->ABd Bool}(d:Hw T k s)(j:TT (R s.Body))(l:TT (R s.Else)):TT (A2 R s):=by
 have r:∀b,TT (A2.J9 R s b):=by
  intro b;unfold A2.J9 A2.Oz
  repeat' first|exact tR trivial|refine IW j λ_=> ?_|refine IW l λ_=> ?_|refine tI (λ_=> ?_) λ_=> ?_
 have q:∀b,TT (A2.J8 R s b):=by
  intro b;unfold A2.J8
  repeat' grind
 have c:∀b,TT (A2.J7 R s b):=by
  intro b;unfold A2.J7
  repeat' first|exact tR trivial|exact q _|refine tI (λ_=> ?_) λ_=> ?_
 have p:∀b,TT (A2.J6 R s b):=by
  intro b;unfold A2.J6;refine tI (λ_=>IW (mV d.e) λ_=>tI (λ_=>c _) λ_=>c _) λ_=>IW ?_ λ_=>c _;unfold HX HX.J1
  repeat' first|exact tR trivial|refine tI (λ_=> ?_) λ_=> ?_
 have f:∀b,TT (A2.J5 R s b):=by
  intro b;unfold A2.J5
  repeat' first|exact tR trivial|exact p _|refine tI (λ_=> ?_) λ_=> ?_
 have o:∀b,TT (A2.J4 R s b):=by
  intro b;unfold A2.J4;rcases d.i with h|⟨a,h,g⟩<;>rw[h]
  . repeat' first|exact tR trivial|exact f _|refine tI (λ_=> ?_) λ_=> ?_|grind
  . repeat' first|exact tR trivial|exact f _|refine tI (λ_=> ?_) λ_=> ?_|refine tE (y:=a) rfl ?_|refine IW (mV g) λ_=> ?_
 have n:∀b,TT (A2.J3 R s b):=by
  intro b;unfold A2.J3
  repeat' first|exact tR trivial|exact o _|refine tI (λ_=> ?_) λ_=> ?_|refine IW (Lj _) λ_=> ?_
 have m:∀b,TT (A2.J2 R s b):=by
  intro b;unfold A2.J2
  repeat' first|exact n _|refine tI (λ_=> ?_) λ_=> ?_|refine IW (Lj _) λ_=> ?_
 have j1:∀b,TT (A2.J1 R s b):=by
  intro b;unfold A2.J1
  repeat' first|exact tR trivial|exact m _|refine tI (λ_=> ?_) λ_=> ?_
 unfold A2;grind
def S9(T:fb)(k:Nat)(l:d5):Prop:=l.length<=10/\∀x∈l,Hw T k x
theorem Hw.body{s:AQ}(h:Hw T (k+1) s):S9 T k s.Body:=⟨by have:=h.2.2.2.2.1;omega,h.2.2.2.2.2.2.1⟩
theorem Hw.els{s:AQ}(h:Hw T (k+1) s):S9 T k s.Else:=⟨by have:=h.2.2.2.2.2.1;omega,h.2.2.2.2.2.2.2.1⟩
theorem VN(d:Nat):∀(n:Nat)(l:d5),2*d+1<=n->S9 T d l->TT (Gq n l):=by
 induction d with
 |zero=>intro n l hn ⟨_,h⟩;obtain⟨n,rfl⟩:∃k,n=k+1:=⟨n-1,ah⟩;have:l=[]:=AAv.2 λx a=>(h x a).elim;subst this;show TT (Cr (Jv n) []);exact tR trivial
 |succ d ih=>intro n l hn ⟨h1,h2⟩;obtain⟨n,rfl⟩:∃k,n=k+2:=⟨n-2,ah⟩;show TT (Cr (Jv (n+1)) l);unfold Cr;refine tL l.length ah λm i hi k=> ?_;unfold Cr.Aa Cr.L1 Cr.J1;refine tD (λ_=>tG ah λx a=> ?_) λ_=>tR trivial;refine IW (Wh (R:=Gq n) (h2 x a) (ih n _ ah (h2 x a).body) (ih n _ ah (h2 x a).els)) λ_=>tI (λ_=>tR trivial) λ_=>k ah
def Ox:List ABe:=[⟨#[109,97,105,110]⟩,⟨#[116,49]⟩,⟨#[116,50]⟩,⟨#[116,51]⟩]
def ZP:List ABe:=[⟨#[97]⟩,⟨#[98]⟩]
structure MP (p:AR):Prop where
 d:Ei=some p.Decls
 t:p.AA.length<=4
 l:∀t∈p.AA,t.GA.length<=2
 b:∀t∈p.AA,S9 (λs=>s∈p.AA.map (·.Name)) 4 t.Body
 nm:∃n,1<=n/\n<=4/\p.AA.map (·.Name)=Ox.take n
 lo:∀t∈p.AA,t.GA=ZP
theorem MP.dl{p:AR}(h:MP p):p.Decls.length=9:=by have h:=h.d;unfold Ei at h;rw[<- AAG h];rfl
theorem Wi{p:AR}(h:MP p):TT (CZ p):=by
 have hd:=h.dl;have e:=h.t;have c:∀{F:df}{i:Int}(b:Bool),TT (F (BA (i+1)))->TT (CZ.J3 F i b):=by intro F i b k;unfold CZ.J3 CZ.J4;exact tI (λ_=>tR trivial) λ_=>k
 unfold CZ;refine tL 9 ah λm i hi k=> ?_;unfold CZ.Aa CZ.L1 CZ.J1;refine tD (λ_=>tG ah λx a=>IW (Yi x) λ_=>tI (λ_=>tR trivial) λ_=>k ah) λ_=>tL p.AA.length ah λm i hi k=> ?_;unfold CZ.DF CZ.L2 CZ.J5;refine tD (λ_=>tG ah λx a=>tL x.GA.length (by have:=h.l x a;omega) λm i hi d=> ?_) λ_=>tR trivial;unfold CZ.Gg CZ.L3 CZ.J2;refine tD (λ_=>tG ah λx a=>IW (Lj _) λ_=>tI (λ_=>tR trivial) λ_=>d ah) λ_=>IW (Lj _) λ_=>tI (λ_=>c _ (k ah)) λ_=>IW (VN 4 _ _ (MC ah) (h.b x a)) λ_=>c _ (k ah)
end
end Go.Abs
