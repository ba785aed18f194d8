/- What the typed programs give, in plain Lean. -/
import Derived.Test.YthmijagacgnmkaaGreatDoorWalkP
import Derived.Test.YthmijagacgnmkaaGreatDoorPlainA
import Derived.KernelRfl
set_option linter.unusedSimpArgs false
set_option linter.unusedVariables false
namespace Go.Abs
set_option maxHeartbeats 4000000
theorem RB.Kc {N M:Nat} {s:AN} (h:RB N s) (b:N≤M) (i:Int) (f:AY->AY) (c:(f (Abs.ix s.AF i)).Ax.length≤M):RB M (Abs.Kc s i f):=by
 intro x a;rcases AAs a with a|rfl
 . exact ABK (h x a) b
 . exact c
theorem RB.apply {N:Nat} {s:AN} (h:RB N s) (wv:AB) (t k o wake:Int):RB (N+1) (DN wv s t k o wake).1:=by
 have c:RB (N+1) s:=h.mono (by omega);have hi:=λi=>Nat.le_succ_of_le (h.ix i);have key:∀(p:Prop) [Decidable p] (a b:AN×Int),RB (N+1) a.1->RB (N+1) b.1->RB (N+1) (if p then a else b).1:=by intro p _ a b e f;split<;>assumption
 unfold DN
 repeat' refine key _ _ _ ?_ ?_
 all_goals first
  |exact c
  |exact h.Kc (by omega) _ _ (hi _)
  | (refine h.Kc (by omega) _ _ ?_;have:=N5 ((Abs.ix s.AF o).Ax++[t]);have:=h.ix o;simp at *;omega)
  | (refine h.Kc (by omega) _ _ (ABK (ABg _ _) (hi _)))
  |exact h.Kc (by omega) (Abs.ix wv.Ah o).Mutex (λx=>⟨-1,x.Ax⟩) (hi _)
  |exact h.Kc (by omega) (Abs.ix wv.Ah o).Mutex (λx=>⟨t,x.Ax⟩) (hi _)
  | (by_cases d:CA o 0 s.AA=[]<;>simp only[d,AAq,AAd]<;>exact c)
theorem RB.start (wv:AB):RB 0 (JE wv):=by
 intro x a
 have:=ABS a;subst this;simp
def kC (e:AE):Bool:=e.Kind==3||e.Kind==23
def Lr (l:List AE) (t:Int):List Bool:=(l.filter λe=>e.Thread==t).map kC
def KV (reads:List Bool) (k:Int):Bool:=Du k reads.length&&ix reads k
def PZ (pre:List AE) (ev:AE):Bool:=ev.DE.all (KV (Lr pre ev.Thread))&&ev.C2.all (KV (Lr pre ev.Thread))
theorem eJ.L2 (L1:Int->ABr Bool) (l:List Int) (reads:List Bool) (t:Int) (c:l.length<4611686018427387904):∀(n i:Nat),i≤l.length->l.length<n+i->An.Cf L1 l reads t n (i:Int)=if(l.drop i).all (KV reads)=true then An.J3 L1 t else some false
 |0,i,h1,h2=>by omega
 |n+1,i,h1,h2=>by
  unfold An.Cf An.L2;by_cases hi:i<l.length
  . unfold An.J2;rw[BG (by omega),Cw hi,AAP,Eu hi,Ao (by omega),eJ.L2 L1 l reads t c n (i+1) (by omega) (by omega),ABL];generalize l[i]=x;generalize (l.drop (i+1)).all (KV reads)=q;unfold KV;by_cases a:x<0
    . have:Du x reads.length=false:=(by simp[Du];omega);simp[a,this]
    . by_cases b:x≥(reads.length:Int)
      . have:Du x reads.length=false:=(by simp[Du];omega);simp[a,b,this]
      . have h:Du x reads.length=true:=(by simp[Du];omega);rw[Ad a,Ad b,C1 h,AAP,h];cases ix reads x<;>simp
  . rw[Ad (by omega),GQ hi];simp
theorem eK (reads:List Bool) (ev:AE) (b:JF ev):An reads ev=some (ev.DE.all (KV reads)&&ev.C2.all (KV reads)):=by
 unfold An;have f:=Bj;have a:∀L1 t l,l.length<4611686018427387904->An.J1 L1 reads t l=if l.all (KV reads)=true then An.J3 L1 t else some false:=by
  intro L1 t l c
  have:=eJ.L2 L1 l reads t c BU 0 (by omega) (by omega);rw[AAx]at this;exact this
 rw[Wn];generalize BU-3=m;have e:An.AZ ev reads (m+1) 2=some true:=by unfold An.AZ An.L1;rfl
 have d:An.AZ ev reads (m+2) 1=some (ev.C2.all (KV reads)):=by unfold An.AZ An.L1;rw[BG (by decide),AAZ (by decide),AAa (by decide),a _ _ _ b.2];unfold An.J3;rw[show Ay (1+1)=2 from rfl,e];cases ev.C2.all (KV reads)<;>rfl
 unfold An.AZ An.L1;rw[BG (by decide),AAa (by decide),a _ _ _ b.1];unfold An.J3;rw[show Ay (0+1)=1 from rfl,d];cases ev.DE.all (KV reads)<;>simp
def U5 (x t:Int):Int->List AE->Bool
 |_,[]=>false
 |nv,e::r=>if e.Thread=t then(nv==x&&kC e)||U5 x t (nv+1) r else U5 x t nv r
theorem rdB_cons (e:AE) (r:List AE) (t:Int):Lr (e::r) t=if e.Thread=t then kC e::Lr r t else Lr r t:=by unfold Lr;by_cases h:e.Thread=t<;>simp[h]
theorem scan_eq (x t:Int) (l:List AE):∀a:Int,U5 x t a l=KV (Lr l t) (x-a):=by
 induction l with
 |nil=>intro a;simp[U5,KV,Lr,Du];omega
 |cons e r ih=>
  intro a;unfold U5;rw[rdB_cons];by_cases h:e.Thread=t
  . rw[AAa h,AAa h,ih];unfold KV;by_cases c:x=a
    . subst c;have b:Du (x-x) (kC e::Lr r t).length=true:=(by rw[CJ];simp only[AA4];omega);have f:ix (kC e::Lr r t) (x-x)=kC e:=(by simp[ix]);have g:Du (x-(x+1)) (Lr r t).length=false:=by
       cases hq:Du (x-(x+1)) (Lr r t).length with
       |false=>rfl
       |true=>have:=CJ.1 hq;omega
      rw[b,f,g];simp
    . have d:(a==x)=false:=(by simpa usingλh=>c h.symm);have b:Du (x-a) (kC e::Lr r t).length=Du (x-(a+1)) (Lr r t).length:=(by rw[Bool.eq_iff_iff,CJ,CJ];simp;omega);rw[d,b];cases hb:Du (x-(a+1)) (Lr r t).length with
      |false=>simp
      |true=>obtain⟨i,j⟩:=CJ.1 hb;have:ix (kC e::Lr r t) (x-a)=ix (Lr r t) (x-(a+1)):=(by unfold ix;rw[show(x-a).toNat=(x-(a+1)).toNat+1 from by omega,ABH]);rw[this];simp
  . rw[AAZ h,AAZ h,ih]
theorem reads.L2 (L1:Int->ABr Bool) (i:Nat) (k:Int) (l:List AE) (a:List Int) (t x:Int) (hi:i≤l.length) (hi':i≤1000000) (g:gt a k=some x):∀(n j b:Nat) (ok:Bool),j≤i->i<n+j->b≤j->
 Cs.Cf L1 (i:Int) k l a t n (b:Int) ok (j:Int)=Cs.J3 L1 k (ok||U5 x t b ((l.take i).drop j))
 |0,j,b,ok,h1,h2,h3=>by omega
 |n+1,j,b,ok,h1,h2,h3=>by
  unfold Cs.Cf Cs.L2;by_cases o:j<i
  . have d:j<(l.take i).length:=(by simp;omega);have m:=λ(f:Nat) ok' h=>reads.L2 L1 i k l a t x hi hi' g n (j+1) f ok' (by omega) (by omega) h;unfold Cs.J1 Cs.J2;rw[BG (by omega),Cw (by omega),AAP,Eu d,Ao (i:=j) (by omega),Ao (i:=b) (by omega),g,AAP,U5];simp only[List.getElem_take,m (b+1) _ (by omega),m b _ (by omega),show((b:Int)+1)=((b+1:Nat):Int)from rfl];unfold kC;by_cases c:l[j].Thread=t
    . have e:(l[j].Thread != t)=false:=(by simp[c]);rw[e,AAa c];cases ok<;>cases(((b:Int)==x))<;>cases(l[j].Kind==3)<;>simp
    . have e:(l[j].Thread != t)=true:=(by simpa using c);rw[e,AAZ c];rfl
  . rw[Ad (by omega),List.drop_eq_nil_of_le (by simp;omega)];simp[U5]
theorem Xk (i:Nat) (l:List AE) (a:List Int) (t:Int) (hi:i≤l.length) (hi':i≤1000000) (c:a.length<4611686018427387904):∀(n k:Nat),k≤a.length->a.length<n+k->
 Cs.AZ (i:Int) l a t n (k:Int)=some ((a.drop k).all (KV (Lr (l.take i) t)))
 |0,k,h1,h2=>by omega
 |n+1,k,h1,h2=>by
  unfold Cs.AZ Cs.L1;by_cases b:k<a.length
  . have:=reads.L2 (Cs.AZ (i:Int) l a t n) i (k:Int) l a t a[k] hi hi' (Cw b) BU 0 0 false (by omega) (by have:=Bj;omega) (by omega);rw[AAx,scan_eq]at this;simp only[Int.natCast_zero,Int.sub_zero,Bool.false_or]at this;rw[BG (by omega),this,Eu b,ABL];unfold Cs.J3 Cs.J4;rw[Ao (by omega),Xk i l a t hi hi' c n (k+1) (by omega) (by omega)];cases KV (Lr (l.take i) t) a[k]<;>simp
  . rw[Ad (by omega),GQ b];rfl
theorem iD (i:Nat) (l:List AE) (a:List Int) (t:Int) (hi:i≤l.length) (hi':i≤1000000) (b:a.length<4611686018427387904):Cs l (i:Int) t a=some (a.all (KV (Lr (l.take i) t))):=by have:=Xk i l a t hi hi' b BU 0 (by omega) (by have:=Bj;omega);rw[AAx]at this;exact this
def HS (wv:AB):List AE->AD->List AE->Int×Int
 |_,_,[]=>(0,0)
 |pre,s,x::r=>if(Iv wv s x&&PZ pre x)=true then HS wv (pre++[x]) (Ex wv s x) r else((pre.length:Int),12)
def M9 (t:Ac):Int×Int:=if t.AH.length>400 then(0,2)else if Cz t.World=true then HS t.World [] (FQ t.World) t.AH else(0,1)
theorem TF {wv:AB} {s:AD} {x:AE} (h:Iv wv s x=true):Du x.Thread wv.AA.length=true:=by unfold Iv at h;simp only[AAR]at h;exact h.2.1
theorem Nu (l:List AE) (x:AE) (t:Int):Lr (l++[x]) t=if x.Thread=t then Lr l t++[kC x]else Lr l t:=by unfold Lr;rw[List.filter_append,AA3];by_cases h:x.Thread=t<;>simp[h]
theorem Nv (l:List AE) (t:Int):(Lr l t).length≤l.length:=by unfold Lr;rw[AA0];exact ABg _ _
theorem WN (t:Ac) (m:Small t.World) (h:∀e∈t.AH,JF e) (p:t.AH.length≤400):∀(n i:Nat) (s:AD) (R:List (List Bool)),i≤t.AH.length->t.AH.length<n+i->RB i s.Sync->R.length=t.World.AA.length->(∀u:Nat,u<R.length->R[u]? =some (Lr (t.AH.take i) (u:Int)))->
 Bc.AZ t n s R (i:Int)=some (HS t.World (t.AH.take i) s (t.AH.drop i))
 |0,i,s,R,h1,h2,_,_,_=>by omega
 |n+1,i,s,R,h1,h2,h3,h4,h5=>by
  unfold Bc.AZ Bc.L1;by_cases hi:i<t.AH.length
  . have k:=h _ (AAl hi);rw[BG (by omega),Cw hi,AAP,jR t.World m s (h3.mono (by omega)) _ k,AAP,Eu hi,HS,List.length_take_of_le (by omega)];unfold QK;cases hp:Iv t.World s t.AH[i]with
    |false=>rfl
    |true=>
     rw[AAa rfl,AAZ (c:=(!true)=true) (by simp),AA8];have q:=TF hp;obtain⟨o,w⟩:=CJ.1 q;have r:t.AH[i].Thread.toNat<R.length:=(by omega);have j:gt R t.AH[i].Thread=some (Lr (t.AH.take i) t.AH[i].Thread):=(by unfold gt;rw[AAa o,h5 _ r];congr 2;omega);have v:=Nv (t.AH.take i) t.AH[i].Thread;rw[List.length_take_of_le (by omega)]at v;rw[j,AAP,eK _ _ k,AAP];unfold Bc.J1;show(if(!(PZ (t.AH.take i) t.AH[i]))=true then _ else _)=_
     cases PZ (t.AH.take i) t.AH[i]with
     |false=>rfl
     |true=>
      rw[AAZ (c:=(!true)=true) (by simp),AAa rfl,j,AAP,BO (by omega),BO (by omega)];unfold Bc.J2;have l:∀b,b=kC t.AH[i]->Bc.AZ t n (Ex t.World s t.AH[i]) (R.set t.AH[i].Thread.toNat (Lr (t.AH.take i) t.AH[i].Thread++[b])) (Ay ((i:Int)+1))=some (HS t.World (t.AH.take i++[t.AH[i]]) (Ex t.World s t.AH[i]) (t.AH.drop (i+1))):=by
       rintro b rfl;rw[Ao (by omega),AAm hi];refine WN t m h p n (i+1) _ _ (by omega) (by omega) ?_ (by simpa using h4) ?_
       . exact h3.apply _ _ _ _ _
       . intro u g;rw[← AAm hi,Nu];have a:u<R.length:=(by simpa using g);by_cases d:t.AH[i].Thread=(u:Int)
         . have:t.AH[i].Thread.toNat=u:=(by omega);rw[AAa d,this,AAT a,d]
         . have:t.AH[i].Thread.toNat≠u:=(by omega);rw[AAZ d,AAW this,h5 u a]
      by_cases f:t.AH[i].Kind=3
      . rw[AAa (by simp[f])];exact l _ (by simp[kC,f])
      . rw[AAZ (by simpa using f)];exact l _ (by simp[kC,show(t.AH[i].Kind==3)=false by simpa using f])
  . rw[Ad (by omega),GQ hi];rfl
theorem wM (t:Ac) (f:∀e∈t.AH,JF e):Bc t=some (M9 t):=by
 unfold Bc M9;by_cases b:t.AH.length>400
 . rw[BG (by omega),AAa b]
 . rw[Ad (by omega),AAZ b,Yn,AAP];cases hv:Cz t.World with
   |false=>rfl
   |true=>
    have a:=DJ hv;have g:=a.t;rw[AAZ (c:=(!true)=true) (by simp),LX _ a,AAP,AAa ⟨by omega,by omega,BM (by omega)⟩,AAa rfl]
    have:=WN t a f (by omega) BU 0 (FQ t.World) (List.replicate t.World.AA.length []) (by omega) (by have:=Bj;omega) (RB.start _) (by simp) (by intro u d;simp at d;simp[d,Lr]);rw[List.take_zero,AAx]at this;exact this
theorem Uu (t:Ac) (d:Small t.World) (b:∀e∈t.AH,JF e) (f:t.AH.length≤400):∀(n i:Nat) (s:AD),i≤t.AH.length->t.AH.length<n+i->RB i s.Sync->
 D6.AZ t n s (i:Int)=some (HS t.World (t.AH.take i) s (t.AH.drop i))
 |0,i,s,h1,h2,_=>by omega
 |n+1,i,s,h1,h2,h3=>by
  unfold D6.AZ D6.L1;by_cases hi:i<t.AH.length
  . have a:=b _ (AAl hi);rw[BG (by omega),Cw hi,AAP,VY t.World d s (h3.mono (by omega)) _ a,AAP,Eu hi,HS,List.length_take_of_le (by omega)];unfold QK;cases hp:Iv t.World s t.AH[i]with
    |false=>rfl
    |true=>
     rw[AAa rfl,AAZ (c:=(!true)=true) (by simp),AA8,iD i _ _ _ (by omega) (by omega) a.1,AAP,iD i _ _ _ (by omega) (by omega) a.2,AAP];unfold PZ;cases t.AH[i].DE.all (KV (Lr (t.AH.take i) t.AH[i].Thread))with
     |false=>rfl
     |true=>
      cases t.AH[i].C2.all (KV (Lr (t.AH.take i) t.AH[i].Thread))with
      |false=>rfl
      |true=>rw[AAZ (c:=(!true)=true) (by simp),AA8,AAa rfl];unfold D6.J1;rw[AAZ (c:=(!true)=true) (by simp),Ao (by omega),AAm hi];exact Uu t d b f n (i+1) _ (by omega) (by omega) (h3.apply _ _ _ _ _)
  . rw[Ad (by omega),GQ hi];rfl
theorem jT (t:Ac) (d:∀e∈t.AH,JF e):D6 t=some (M9 t):=by
 unfold D6 M9;by_cases a:t.AH.length>400
 . rw[BG (by omega),AAa a]
 . rw[Ad (by omega),AAZ a,Lq,AAP];cases hv:Cz t.World with
   |false=>rfl
   |true=>
    have b:=DJ hv;rw[AAZ (c:=(!true)=true) (by simp),Oo _ b,AAP,AAa rfl]
    have:=Uu t b d (by omega) BU 0 (FQ t.World) (by omega) (by have:=Bj;omega) (RB.start _);rw[List.take_zero,AAx]at this;exact this
def T3 (t t':Ab):Prop:=FH t'/\t'.L=t.L/\t.At≤t'.At
theorem T3.trans {a b c:Ab} (h:T3 a b) (k:T3 b c):T3 a c:=⟨k.1,k.2.1.trans h.2.1,Int.le_trans h.2.2 k.2.2⟩
theorem Hw {t:Ab} (b:FH t) {n:Int} (hn:0<n/\n<1000):Bx (Ak t n) λr=>(0≤r.1/\r.1<n)/\T3 t r.2/\(t.At<t.L.length->t.At<r.2.At):=by
 have e:=b.l;have f:=b.a;unfold Ak Ak.J1;rw[CX (n:=t.At+1) (by omega) (by omega),CX (n:=t.At+1-1) (by omega) (by omega)];refine tI (λh=> ?_) λh=> ?_
 . have h:=AAc h;exact tI (λ_=>tR ⟨⟨by omega,hn.1⟩,⟨b,rfl,by simp⟩,λ_=>by omega⟩) λh=>by cases h
 . have d:¬t.At≥(t.L.length:Int):=(by simpa using h);refine tI (λh=>absurd (AAc h) (by omega)) λ_=> ?_;refine tG (by omega) λx c=>tC (by omega) (tR ⟨?_,⟨⟨b.l,by simp only;omega,b.u⟩,rfl,by simp only;omega⟩,λ_=>by simp only;omega⟩);have c:=b.u x c;rw[CX (by omega) (by omega)];exact⟨Int.tmod_nonneg _ c.1,Int.tmod_lt_of_pos _ hn.1⟩
def EX:AB:=(HG).getD ⟨[],[],[],[],[],[]⟩
theorem aI:HG=some EX:=by decide +kernel
theorem vR:Cz EX=true:=by decide +kernel
theorem Tl:EX.Cells.length=5:=by decide +kernel
theorem YF:EX.AF.length=3:=by decide +kernel
theorem YE:EX.AK.length=1:=by decide +kernel
theorem Tm:EX.AA.length=4:=by decide +kernel
theorem nM {b:Ab} (g:FH b) {k u:Int} (q:0≤u/\u<4):Bx (Ck b k u) λr=>(k=3∨k=4->0≤r.1/\r.1<5)/\T3 b r.2:=by
 have hn:T3 b b:=⟨g,rfl,Int.le_refl _⟩;have l:∀p,k≠3->k≠4->Bx (Ck.J5 b u p) λr=>(k=3∨k=4->0≤r.1/\r.1<5)/\T3 b r.2:=by intro p c d;unfold Ck.J5;refine tI (λ_=>tB (Hw g (by omega)) ?_) λ_=>tR ⟨λh=>by omega,hn⟩;rintro r ⟨_,h,_⟩;exact tR ⟨λh=>by omega,h⟩
 have d:∀p,k≠3->k≠4->Bx (Ck.J4 k b u p) λr=>(k=3∨k=4->0≤r.1/\r.1<5)/\T3 b r.2:=by intro p c d;unfold Ck.J4;exact tI (λ_=>tR ⟨λh=>by omega,hn⟩) λ_=>tI (λ_=>l _ c d) λ_=>l _ c d
 have c:∀p,k≠3->k≠4->Bx (Ck.J3 k b u p) λr=>(k=3∨k=4->0≤r.1/\r.1<5)/\T3 b r.2:=by
  intro p c a;unfold Ck.J3;refine tI (λ_=>tR ⟨λh=>by omega,hn⟩) λ_=> ?_
  iterate 5 refine tI (λ_=>d _ c a) λ_=> ?_
  exact d _ c a
 have j:∀p,k≠3->k≠4->Bx (Ck.J2 k b u p) λr=>(k=3∨k=4->0≤r.1/\r.1<5)/\T3 b r.2:=by
  intro p f a;unfold Ck.J2;refine tI (λ_=>tB (Hw g (by omega)) ?_) λ_=> ?_
  . rintro r ⟨_,h,_⟩;exact tR ⟨λh=>by omega,h⟩
  iterate 3 refine tI (λ_=>c _ f a) λ_=> ?_
  exact c _ f a
 have i:∀p,(p=false->k≠3/\k≠4)->Bx (Ck.J1 k b u p) λr=>(k=3∨k=4->0≤r.1/\r.1<5)/\T3 b r.2:=by
  intro p n;unfold Ck.J1;refine tI (λ_=>tB (Hw g (by omega)) ?_) λh=> ?_
  . rintro r ⟨m,h,_⟩;refine tG (by simpa using m) λx o=>tR ⟨λ_=> ?_,h⟩;simp only[AAp,ABG,ABD]at o;show 0≤x/\x<5;omega
  . obtain⟨f,a⟩:=n h;exact tI (λ_=>j _ f a) λ_=>j _ f a
 unfold Ck;refine tI (λh=>i _ λe=>by rw[h]at e;cases e) λh=>i _ λe=> ?_;simp only[ABZ]at h e;exact⟨h,e⟩
theorem U7 (s:AD) (f:s.Sync.AA.length≤500):Bx (D9 s) λr=>r.length≤s.Sync.AA.length:=by
 have e:=Bj;have key:∀n (i:Nat) (c:List Int),s.Sync.AA.length<n+i->i≤s.Sync.AA.length->c.length≤i->Bx (D9.AZ s n c i) λr=>r.length≤s.Sync.AA.length:=by
  intro n;induction n with
  |zero=>intro i c a b;omega
  |succ n ih=>intro i c a b d;unfold D9.AZ D9.L1;refine tI (λh=> ?_) λ_=>tR (by omega);have h:=AAc h;unfold D9.J1;rw[Ao (by omega)];refine tG (by omega) λx _=>tI (λ_=>tC (BM (by omega)) ?_) λ_=>ih (i+1) c (by omega) (by omega) (by omega);exact ih (i+1) _ (by omega) (by omega) (by simp;omega)
 exact key BU 0 [] (by omega) (by omega) (by simp)
theorem v8 {b:Ab} (a:FH b) {s:AD} {k o:Int} (e:s.Sync.AA.length≤500) (g:k=3->0≤o/\o<(s.Cells.length:Int)) (i:0<s.AK.length):Bx (Gj b s k o) λr=>T3 b r.2:=by
 have hn:T3 b b:=⟨a,rfl,Int.le_refl _⟩;have d:∀p,Bx (Gj.J1 k s b p) λr=>T3 b r.2:=by
  intro p;unfold Gj.J1;refine tI (λ_=>tB (Hw a (by omega)) λr h=>tR h.2.1) λ_=>tI (λ_=>tB (Hw a (by omega)) λr h=>tR h.2.1) λ_=>tI (λ_=> ?_) λ_=>tI (λ_=> ?_) λ_=>tR hn
  . refine tB (U7 s e) λl c=>tI (λh=> ?_) λ_=>tR hn;have h:=AAc h;refine tB (Hw a (by omega)) ?_;rintro r ⟨f,h,_⟩;exact tG f λx _=>tR h
  . exact tB (U7 s e) λl c=>tR hn
 unfold Gj;refine tI (λh=>tG (g (by simpa using h)) λx _=>tR hn) λ_=>tI (λ_=>tG (by omega) λx _=>tR hn) λ_=>tI (λ_=>d _) λ_=>d _
theorem jK {b:Ab} (m:FH b) {l:List Int} (u:l.length≤1000):Bx (Ei b l) λr=>r.1.length≤l.length/\T3 b r.2:=by
 have s:=Bj;have key:∀n (i:Nat) (d:Ab) (c:List Int),l.length<n+i->i≤l.length->c.length≤i->FH d->T3 b d->Bx (Ei.AZ l n d c i) λr=>r.1.length≤l.length/\T3 b r.2:=by
  intro n;induction n with
  |zero=>intro i d c o q;omega
  |succ n ih=>intro i d c o q t hd e;unfold Ei.AZ Ei.L1;refine tI (λh=> ?_) λ_=>tR ⟨by show c.length≤_;omega,e⟩;have h:=AAc h;have j:∀a f p,FH a->T3 b a->Bx (Ei.J1 (Ei.AZ l n) c i f a p) λr=>r.1.length≤l.length/\T3 b r.2:=(by intro a f p g k;unfold Ei.J1 Ei.J2;rw[Ao (by omega)];exact tI (λ_=>tC (BM (by omega)) (ih (i+1) a _ (by omega) (by omega) (by simp;omega) g k)) λ_=>ih (i+1) a c (by omega) (by omega) (by omega) g k);refine tG (by omega) λx _=>tI (λ_=>tB (Hw hd (by omega)) ?_) λ_=>j _ _ _ hd e;rintro r ⟨_,h,_⟩;exact j _ _ _ h.1 (e.trans h)
 exact key BU 0 b [] (by omega) (by omega) (by simp) m ⟨m,rfl,Int.le_refl _⟩
structure EvM (q:Ab) (r:AE×Ab):Prop where
 t:0≤r.1.Thread/\r.1.Thread<4
 d:r.1.DE.length≤1000
 f:r.1.C2.length≤1000
 a:T3 q r.2
 s:q.At<q.L.length->q.At<r.2.At
theorem sT {q:Ab} (P:FH q) {s:AD} {w:AB} {R:List (List Int)} (O:s.Sync.AA.length≤500) (W:5≤s.Cells.length) (U:5≤w.Cells.length) (N:0<s.AK.length) (V:R.length=4) (u:∀l∈R,l.length≤1000):Bx (DF q s w R) (EvM q):=by
 unfold DF Mh;refine tB (Hw P (by omega)) ?_;rintro a ⟨a0,F,I⟩;rw[AAP];refine tB (Hw F.1 (by simp)) ?_;rintro t ⟨T,E,_⟩;refine tG T λo X=> ?_;refine tB (Hw E.1 (by omega)) ?_;rintro i ⟨i0,iA,_⟩;have K:T3 q i.2:=(F.trans E).trans iA;have M:q.At<q.L.length->q.At<i.2.At:=λh=>by have:=I h;have:=E.2.2;have:=iA.2.2;omega
 have G:∀(p:Ab) (e:AE),T3 q p->(q.At<q.L.length->q.At<p.At)->e.Thread=a.1->e.DE.length≤1000->e.C2.length≤1000->Bx (DF.J6 p e) (EvM q):=λp e d b f k m=>tR ⟨by show 0≤e.Thread/\_;rw[f];exact a0,k,m,d,b⟩;have m:∀(p:Ab) (e:AE) z,T3 q p->(q.At<q.L.length->q.At<p.At)->e.Thread=a.1->e.DE.length≤1000->e.C2.length≤1000->Bx (DF.J5 e R p a z) (EvM q):=by intro p e z d b f k m;unfold DF.J5;refine tI (λ_=>tG (by omega) λx r=>tB (jK d.1 (u x r)) ?_) λ_=>G _ _ d b f k m;rintro v ⟨n,g2⟩;exact G _ _ (d.trans g2) (λh=>by have:=b h;have:=g2.2.2;omega) f k (ABK n (u x r))
 have k:∀(p:Ab) (e:AE),T3 q p->(q.At<q.L.length->q.At<p.At)->e.Thread=a.1->e.DE.length≤1000->e.C2.length≤1000->Bx (DF.J4 R a p e) (EvM q):=by intro p e d b f k g;unfold DF.J4;exact tI (λ_=>m _ _ _ d b f k g) λ_=>m _ _ _ d b f k g
 have f:∀(c:AE) (j l:Int×Ab) y,T3 q l.2->(q.At<q.L.length->q.At<l.2.At)->c.Thread=a.1->c.DE.length≤1000->c.C2.length≤1000->Bx (DF.J3 c R a j l y) (EvM q):=by intro c j l y d b f C g;unfold DF.J3;refine tI (λ_=>tG (by omega) λx r=>tB (jK d.1 (u x r)) ?_) λ_=>k _ _ d b f C g;rintro v ⟨n,g2⟩;exact k _ _ (d.trans g2) (λh=>by have:=b h;have:=g2.2.2;omega) f (ABK n (u x r)) g
 have b:∀(c:AE),c.Thread=a.1->c.DE.length≤1000->c.C2.length≤1000->Bx (DF.J2 R s a i w c) (EvM q):=by
  intro c n g2 J;unfold DF.J2;refine tB (nM iA.1 a0) ?_;rintro j ⟨j0,D⟩;refine tB (v8 D.1 O (λh=>by have:=j0 (.inl h);omega) N) ?_;intro l H;have Q:T3 q l.2:=(K.trans D).trans H;have S:q.At<q.L.length->q.At<l.2.At:=λh=>by have:=M h;have:=D.2.2;have:=H.2.2;omega
  have B:=λy=>f c j l y Q S n g2 J;refine tI (λ_=>B _) λ_=>tI (λh=> ?_) λ_=>tI (λh=> ?_) λ_=>B _
  . have:=j0 (.inl (by simpa using h));exact tG (by omega) λx _=>B _
  . have:=j0 (.inr (by simpa using h));exact tG (by omega) λx _=>B _
 unfold DF.J1;refine tI (λ_=>tI (λ_=>b _ rfl (by simp) (by simp)) λ_=>b _ rfl (by simp) (by simp)) λ_=>tI (λ_=>b _ rfl (by simp) (by simp)) λ_=>b _ rfl (by simp) (by simp)
theorem jW (wv:AB) (s:AN) (t k o wake:Int):(DN wv s t k o wake).1.AF.length=s.AF.length/\(DN wv s t k o wake).1.B6.length=s.B6.length/\(DN wv s t k o wake).1.AA.length=s.AA.length:=by
 have key:∀(p:Prop) [Decidable p] (a b:AN×Int),(a.1.AF.length=s.AF.length/\a.1.B6.length=s.B6.length/\a.1.AA.length=s.AA.length)->(b.1.AF.length=s.AF.length/\b.1.B6.length=s.B6.length/\b.1.AA.length=s.AA.length)->
  ((if p then a else b).1.AF.length=s.AF.length/\(if p then a else b).1.B6.length=s.B6.length/\(if p then a else b).1.AA.length=s.AA.length):=by
  intro p _ a b d e;split<;>assumption
 unfold DN
 repeat' refine key _ _ _ ?_ ?_
 all_goals first
  |exact⟨rfl,rfl,rfl⟩
  | (simp only[Kd,Kc,List.length_set,AA0,and_self];done)
  | (by_cases c:CA o 0 s.AA=[]<;>simp only[c,AAq,AAd,Kd,List.length_set,and_self])
theorem mH {wv:AB} {s:AD} (h:JV wv s=true) (e:AE):JV wv (Ex wv s e)=true:=by
 obtain⟨a,i,j,b⟩:=LG h;obtain⟨f,g2,g⟩:=EY a;have d:wv.Ah.all (λc=>Du c.Mutex wv.AF.length)=true:=by unfold GY at a;simp only[AAR]at a;exact a.1
 obtain⟨k,l,m⟩:=jW wv s.Sync e.Thread e.Kind e.Obj (if e.Kind=18 then e.Value else -1)
 simp only[JV,GY,Ex,AAR,AAg];refine⟨⟨d,by omega,by omega,by omega⟩,?_,?_,by simpa using b⟩<;>split<;>simp[*]
theorem jE:Small EX:=DJ vR
structure SC (N:Nat) (s:AD):Prop where
 f:JV EX s=true
 r:RB N s.Sync
theorem SC.len {N:Nat} {s:AD} (h:SC N s):s.Sync.AA.length=4/\s.Cells.length=5/\s.AK.length=1/\s.Count.length=4/\s.Sync.AF.length=3/\s.Sync.B6.length=1:=by
 obtain⟨a,d,e,g⟩:=LG h.f;obtain⟨b,g2,c⟩:=EY a
 have:=Tl;have:=YF;have:=YE;have:=Tm;omega
theorem SC.mono {N M:Nat} {s:AD} (h:SC N s) (a:N≤M):SC M s:=⟨h.f,h.r.mono a⟩
theorem SC.step {N:Nat} {s:AD} (h:SC N s) (b:N≤1000) {e:AE} (a:JF e):Bx (BZ EX s e) λr=>r.2=true->SC (N+1) r.1:=by
 rw[VY EX jE s (h.r.mono (by omega)) e a];refine tR ?_;unfold QK;split
 . exactλ_=>⟨mH h.f e,h.r.apply _ _ _ _ _⟩
 . intro h;cases h
theorem mem_set {b:Type} {l:List b} {n:Nat} {a x:b} (h:x∈l.set n a):x∈l∨x=a:=AAs h
theorem vB {b:Int} (V:b≤60):∀(n:Nat) (t:Ab) (s:AD) (c:List AE) (R:List (List Int)),FH t->(t.L.length:Int)-t.At<n->SC (c.length+20) s->c.length≤60->(∀e∈c,JF e)->R.length=4->(∀l∈R,l.length≤c.length+1)->
 Bx (Bw.Cf b EX n t s c R) λr=>r.1.length≤60/\∀e∈r.1,JF e:=by
 intro n;induction n with
 |zero=>intro t s c R C h;have:=C.a;omega
 |succ n ih=>
  intro t s c R C hn B I x p i;have K:=B.len;have F:∀u,(u=true->(c.length:Int)<b/\t.At<(t.L.length:Int))->Bx (Bw.J4 (Bw.Cf b EX n) c R s t EX u) λr=>r.1.length≤60/\∀e∈r.1,JF e:=by
   intro u Q;unfold Bw.J4 Bw.J7;refine tI (λh=> ?_) λ_=>tR ⟨I,x⟩;obtain⟨S,D⟩:=Q h;refine tB (sT C (by omega) (by omega) (by have:=Tl;omega) (by omega) p λl k=>by have:=i l k;omega) λj g=> ?_;have J:JF j.1:=⟨by have:=g.d;omega,by have:=g.f;omega⟩;refine tB (B.step (by omega) J) λv E=> ?_;have U:=g.t;have T:=g.s D;have P:=g.a.2.1;have q:(j.2.L.length:Int)-j.2.At<n:=(by rw[P];omega);refine tI (λ_=>ih _ _ _ _ g.a.1 q B I x p i) λw=> ?_;have E:=E (by simpa using w);have H:∀o,o.length=4->(∀l∈o,l.length≤c.length+2)->Bx (Bw.J6 (Bw.Cf b EX n) c j v o) λr=>r.1.length≤60/\∀e∈r.1,JF e:=by
    intro o O w;unfold Bw.J6;refine tC (BM (by omega)) (ih _ _ _ _ g.a.1 q (by have h:=E;simp only[AAz,List.length_singleton];rwa [Nat.add_right_comm]) (by simp;omega) ?_ O (by simpa using w));intro e q;rcases AAh.1 q with h|h
    . exact x e h
    . rw[AAj.1 h];exact J
   have G:∀z,Bx (Bw.J5 (Bw.Cf b EX n) c R s j v z) λr=>r.1.length≤60/\∀e∈r.1,JF e:=by
    intro z;unfold Bw.J5;refine tI (λ_=>tG (by omega) λy M=>tG (by omega) λm _=>tC (BM (by have:=i y M;omega)) (H _ (by simpa using p) λl k=> ?_)) λ_=>H R p λl k=>(by have:=i l k;omega);rcases mem_set k with h|h
    . have:=i l h;omega
    . rw[h];have:=i y M;simp;omega
   exact tI (λ_=>G _) λ_=>G _
  unfold Bw.Cf Bw.L2;refine tI (λh=>F _ λN=>⟨AAc h,AAc N⟩) λ_=>F _ λh=>by cases h
theorem play_tot {t:Ab} (G:FH t) {s:AD} (w:SC 20 s) {b:Int} (E:b≤60) (p:Bool):Bx (Bw t s EX b p) λr=>r.1.length≤60/\∀e∈r.1,JF e:=by
 have H:=Bj;have u:=w.len;have B:=Tm;have key:∀(n i:Nat) (q:Ab) (R:List (List Int)),4<n+i->i≤4->FH q->R.length=4->(∀l∈R,l.length≤1)->(∀k (f:k<R.length),i≤k->R[k]=[])->Bx (Bw.AZ p b s EX n q R i) λr=>r.1.length≤60/\∀e∈r.1,JF e:=by
  intro n;induction n with
  |zero=>intro i q R C D;omega
  |succ n ih=>
   intro i q R C D d j m o;unfold Bw.AZ Bw.L1;refine tI (λh=> ?_) λ_=> ?_
   . have h:=AAc h;simp only[ABb,B]at h;have c:∀(v:Ab) z,FH v->Bx (Bw.J1 (Bw.AZ p b s EX n) R i v z) λr=>r.1.length≤60/\∀e∈r.1,JF e:=by
      intro v z y;unfold Bw.J1 Bw.J2;rw[Ao (by omega)];refine tI (λ_=> ?_) λ_=>ih (i+1) v R (by omega) (by omega) y j m λk f h=>o k f (by omega);have hi:i<R.length:=(by omega);rw[Cw hi,AAP,o i hi (AAv _)];refine tC (BM (by simp)) (ih (i+1) v _ (by omega) (by omega) y (by simpa using j) ?_ ?_)
      . intro l g;rcases mem_set g with h|h
        . exact m l h
        . rw[h];simp
      . intro k f F;rw[List.getElem_set_ne (by simp;omega)];exact o k (by simpa using f) (by omega)
     refine tI (λ_=>tG (by omega) λx _=>tI (λ_=>tB (Hw d (by omega)) λr h=>c _ _ h.2.1.1) λ_=>c _ _ d) λ_=>c _ _ d
   . unfold Bw.J3;refine vB E BU q s [] R d (by have:=d.l;have:=d.a;omega) (by simpa using w) (by simp) (by simp) j (λl g=>by have:=m l g;simpa using this)
 unfold Bw;refine tC ⟨by omega,by omega,BM (by omega)⟩ (key BU 0 t _ (by omega) (by omega) G (by simp[B]) ?_ ?_)
 . intro l g;rw[ABS g];simp
 . intro k f _;simp
theorem Lh {b:Type} [Inhabited b] {l:List b} {i j:Int} {a:b} (hi:Du i l.length=true) (c:Du j l.length=true):ix (l.set i.toNat a) j=if j=i then a else ix l j:=by
 have hi:=CJ.1 hi;have c:=CJ.1 c;unfold ix;by_cases e:j=i
 . subst e;rw[AAa rfl,AAT (by omega)];rfl
 . rw[AAZ e,AAW (by omega)]
theorem ix_map {a c:Type} [Inhabited a] [Inhabited c] {l:List a} {j:Int} {f:a->c} (b:Du j l.length=true):ix (l.map f) j=f (ix l j):=by
 have b:=CJ.1 b;have:j.toNat<l.length:=by omega
 unfold ix;rw[AAb,AAV this];rfl
structure TI (wv:AB) (B:Int->Prop) (L:List AY) (u:Int) (x:AG):Prop where
 s:0≤x.Status/\x.Status≤5
 b:B u↔2≤x.Status
 z:u=0->x.Status≠0
 c:x.Status=3∨x.Status=4->Du x.Es wv.Ah.length=true/\(ix L (ix wv.Ah x.Es).Mutex).Bz≠u
 n:x.Status≠3->x.Status≠4->x.Es=0
 a:x.Atomic=true->2≤x.Status
structure LI (wv:AB) (B:Int->Prop) (i:Int) (x:AY):Prop where
 o:x.Bz≠ -1->B x.Bz
 w:x.Ax≠[]->(ix wv.AF i).RW=true/\x.Bz= -1
 p:x.Ax.Pairwise (· < ·)
 r:∀y∈x.Ax,B y
structure YI (wv:AB) (B:Int->Prop) (s:AN):Prop where
 t:∀u,Du u wv.AA.length=true->TI wv B s.AF u (ix s.AA u)
 l:∀i,Du i wv.AF.length=true->LI wv B i (ix s.AF i)
 x:s.Tx≠ -1->B s.Tx
 b:∀u,B u->Du u wv.AA.length=true
section
variable {wv:AB} {B:Int->Prop} {s:AN}
theorem YI.Kd (h:YI wv B s) (hn:s.AA.length=wv.AA.length) {d:Int} {f:AG->AG} (hd:Du d wv.AA.length=true) (c:TI wv B s.AF d (f (ix s.AA d))):YI wv B (Kd s d f):=by
 refine⟨λu a=> ?_,h.l,h.x,h.b⟩;show TI wv B s.AF u (ix (s.AA.set d.toNat (f (ix s.AA d))) u);rw[Lh (by rw[hn];exact hd) (by rw[hn];exact a)];by_cases e:u=d
 . rw[AAa e,e];exact c
 . rw[AAZ e];exact h.t u a
theorem YI.Kc (h:YI wv B s) (r:∀o,Du o wv.Ah.length=true->Du (ix wv.Ah o).Mutex wv.AF.length=true) (hn:s.AF.length=wv.AF.length) {i:Int} {f:AY->AY} (hi:Du i wv.AF.length=true) (v:LI wv B i (f (ix s.AF i)))
 (k:(f (ix s.AF i)).Bz= -1∨(f (ix s.AF i)).Bz=(ix s.AF i).Bz∨Du (f (ix s.AF i)).Bz wv.AA.length=true/\(ix s.AA (f (ix s.AF i)).Bz).Status=2):YI wv B (Kc s i f):=by
 refine⟨λu m=> ?_,λj p=> ?_,h.x,h.b⟩
 . have g:=h.t u m;refine⟨g.s,g.b,g.z,λd=>⟨(g.c d).1,?_⟩,g.n,g.a⟩;have d:(ix s.AA u).Status=3∨(ix s.AA u).Status=4:=d;have w:=r _ (g.c d).1;show(ix (s.AF.set i.toNat (f (ix s.AF i))) (ix wv.Ah (ix s.AA u).Es).Mutex).Bz≠u;rw[Lh (by rw[hn];exact hi) (by rw[hn];exact w)];by_cases e:(ix wv.Ah (ix s.AA u).Es).Mutex=i
   . rw[AAa e];have m:=CJ.1 m;rcases k with k|k|k
     . omega
     . rw[k,← e];exact(g.c d).2
     . intro q;rw[q]at k;omega
   . rw[AAZ e];exact(g.c d).2
 . show LI wv B j (ix (s.AF.set i.toNat (f (ix s.AF i))) j);rw[Lh (by rw[hn];exact hi) (by rw[hn];exact p)];by_cases e:j=i
   . rw[AAa e,e];exact v
   . rw[AAZ e];exact h.l j p
theorem YI.congr {a:Int->Prop} (h:YI wv B s) (b:∀u,a u↔B u):YI wv a s:=by have:a=B:=funext λu=>propext (b u);rw[this];exact h
end
theorem dF (l:List Int):(Lz l).Pairwise (· < ·):=by exact KC l
theorem W0 {wv:AB} {s:AN} (h:GY wv s=true) (t k o wake:Int):GY wv (DN wv s t k o wake).1=true:=by
  have e:wv.Ah.all (λc=>Du c.Mutex wv.AF.length)=true:=by unfold GY at h;simp only[AAR]at h;exact h.1
  have key:∀(p:Prop) [Decidable p] (a b:AN×Int),GY wv a.1=true->GY wv b.1=true->GY wv (if p then a else b).1=true:=by intro p _ a b j l;split<;>assumption
  obtain⟨f,g,i⟩:=EY h;unfold DN
  repeat' refine key _ _ _ ?_ ?_
  all_goals first
    |exact h
    | (simp[GY,Kd,Kc,e,f,g,i];done)
    | (by_cases d:CA o 0 s.AA=[]
       . simp only[d,AAq];exact h
       . simp[d,GY,Kd,e,f,g,i])
theorem mutex_of {wv:AB} {s:AN} (h:GY wv s=true):∀o,Du o wv.Ah.length=true->Du (ix wv.Ah o).Mutex wv.AF.length=true:=λ_ a=>G7 h a
theorem waits_in {wv:AB} {s:AN} (hn:s.AA.length=wv.AA.length) {o u:Int} (h:u∈CA o 0 s.AA):Du u wv.AA.length=true/\(ix s.AA u).Status=3:=by
 have key:∀(T:List AG) (i:Nat) (u:Int),u∈CA o i T->∃x,T[(u-i).toNat]? =some x/\x.Status=3:=by
  intro T;induction T with
  |nil=>intro i u h;cases h
  |cons x r ih=>
   intro i u h;unfold CA at h;have key:u∈CA o (i+1) r->∃y,(x::r)[(u-i).toNat]? =some y/\y.Status=3:=(by intro h;have e:=(Ij o r (i+1) u h).1;obtain⟨y,y1,y2⟩:=ih (i+1) u h;refine⟨y,?_,y2⟩;rw[show(u-(i:Int)).toNat=(u-((i+1:Nat):Int)).toNat+1 from by omega,ABH];exact y1);split at h
   . rename_i a;rcases AAp.1 h with rfl|h
     . refine⟨x,by simp,?_⟩;unfold I3 at a;simp only[AAR]at a;exact eq_of_beq a.1
     . exact key h
   . exact key h
 obtain⟨x,b,d⟩:=key _ _ _ h;have c:=Ij o s.AA 0 u h;have b:s.AA[u.toNat]? =some x:=by simpa using b
 refine⟨CJ.2 (by simp at c;omega),?_⟩;unfold ix;rw[b];exact d
theorem sK {wake:Int} {W:List Int} (h:W≠[]):Er wake W∈W:=by
 unfold Er;rw[AAZ h];split
 . rename_i h;simpa using h
 . cases W with
   |nil=>exact absurd rfl h
   |cons a r=>simp
theorem YI.apply {wv:AB} {B:Int->Prop} {s:AN} {t k o wake:Int} (hq:∀o,Du o wv.Ah.length=true->(ix wv.AF (ix wv.Ah o).Mutex).RW=false) (h:YI wv B s) (he:CL wv s t k o=true):YI wv (λu=>B u∨u=t) (DN wv s t k o wake).1:=by
 unfold CL at he;simp only[AAR]at he;obtain⟨hf,m,g,j⟩:=he;obtain⟨M,l2,v⟩:=EY hf;have I:=mutex_of hf;have T:=h.t t m;unfold DN;by_cases Q:k=1
 . rw[AAa Q];have hs:(ix s.AA t).Status=1:=(by simpa[Ka,Q]using j);have up:∀{u},B u->B u∨u=t:=.inl;refine⟨λu J=> ?_,λi hi=> ?_,λhx=>up (h.x hx),λu J=>J.elim (h.b u) λe=>e▸m⟩
   . show TI wv _ s.AF u (ix (s.AA.set t.toNat _) u);rw[Lh (by rw[v];exact m) (by rw[v];exact J)];have U:=h.t u J;by_cases e:u=t
     . rw[AAa e];exact⟨by simp,by simp[e],by simp,by simp,λ_ _=>T.n (by omega) (by omega),by simp⟩
     . rw[AAZ e];exact⟨U.s,by simp[e,U.b],U.z,U.c,U.n,U.a⟩
   . have L:=h.l i hi;exact⟨λh=>up (L.o h),L.w,L.p,λy q=>up (L.r y q)⟩
 rw[AAZ Q];have N:k≠17->(ix s.AA t).Status=2:=by intro C;unfold Ka at j;simp only[AAZ Q,AAZ C,AAR]at j;exact eq_of_beq j.1
 have h4:k=17->(ix s.AA t).Status=4/\(ix s.AA t).Es=o:=by intro C;unfold Ka at j;simp only[AAZ Q,AAa C,AAR]at j;exact⟨eq_of_beq j.1,eq_of_beq j.2.1⟩
 have G:B t:=T.b.2 (by
  by_cases C:k=17
  . have:=h4 C;omega
  . have:=N C;omega)
 refine YI.congr (B:=B) ?_ λu=>⟨λh=>h.elim id λe=>e▸G,.inl⟩;have own:∀{i},Du i wv.AF.length=true->(ix s.AF i).Ax=[]->k≠17->YI wv B (Abs.Kc s i λx=>⟨t,x.Ax⟩):=λhi Ry C=>
  h.Kc I M hi ⟨λ_=>G,λh=>absurd Ry h,(h.l _ hi).p,(h.l _ hi).r⟩ (.inr (.inr ⟨m,N C⟩))
 have off:∀{i},Du i wv.AF.length=true->YI wv B (Abs.Kc s i λx=>⟨-1,x.Ax⟩):=λhi=>
  h.Kc I M hi ⟨λh=>absurd rfl h,λP=>⟨((h.l _ hi).w P).1,rfl⟩,(h.l _ hi).p,(h.l _ hi).r⟩ (.inl rfl)
 by_cases k2:k=2
 . rw[AAa k2];have N:=N (by omega);dsimp only;apply h.Kd v m;exact⟨by simp,by simp[G],by simp,by simp,λ_ _=>T.n (by omega) (by omega),by simp⟩
 rw[AAZ k2];by_cases X:k=6∨k=10
 . rw[AAa X];have hi:Du o wv.AF.length=true:=(by rcases X with rfl|rfl<;>simp[B8]at g<;>exact g.1);refine own hi ?_ (by omega);rcases X with rfl|rfl
   . have E:(ix wv.AF o).RW=false:=(by simp[B8]at g;exact g.2);by_cases e:(ix s.AF o).Ax=[]
     . exact e
     . have:=(h.l o hi).w e;rw[E]at this;simp at this
   . simp[Ka]at j;exact j.2.2
 rw[AAZ X];by_cases k7:k=7∨k=11
 . rw[AAa k7];refine off ?_;rcases k7 with rfl|rfl<;>simp[B8]at g<;>exact g.1
 rw[AAZ k7];by_cases k8:k=8
 . rw[AAa k8];subst k8;simp[B8]at g;simp[Ka]at j;have L:=h.l o g.1;dsimp only;applyλx=>h.Kc I M g.1 x (.inr (.inl rfl));refine⟨L.o,λ_=>⟨g.2,j.2.1⟩,dF _,?_⟩;intro y q;have q:y∈(ix s.AF o).Ax++[t]:=(KF _ y).1 q;rcases AAh.1 q with q|q
   . exact L.r y q
   . rw[AAj.1 q];exact G
 rw[AAZ k8];by_cases k9:k=9
 . rw[AAa k9];subst k9;simp[B8]at g;have L:=h.l o g.1;dsimp only;applyλx=>h.Kc I M g.1 x (.inr (.inl rfl));exact⟨L.o,λP=>L.w λe=>P (by simp[e]),L.p.sublist List.filter_sublist,λy q=>L.r y (List.mem_filter.1 q).1⟩
 rw[AAZ k9];by_cases R:k=12
 . rw[AAa R];exact⟨h.t,h.l,λ_=>G,h.b⟩
 rw[AAZ R];by_cases S:k=13
 . rw[AAa S];exact⟨h.t,h.l,λh=>absurd rfl h,h.b⟩
 rw[AAZ S];by_cases V:k=14
 . rw[AAa V];have N:=N (by omega);dsimp only;apply h.Kd v m;exact⟨T.s,T.b,T.z,T.c,T.n,λ_=>by simp only;omega⟩
 rw[AAZ V];by_cases W:k=15
 . rw[AAa W];dsimp only;apply h.Kd v m;exact⟨T.s,T.b,T.z,T.c,T.n,λh=>by cases h⟩
 rw[AAZ W];by_cases K:k=16
 . rw[AAa K];have H:Du o wv.Ah.length=true:=(by simpa[B8,K]using g);have d:=I o H;dsimp only;apply(off d).Kd v m;refine⟨by simp,by simp[G],by simp,λ_=>⟨H,?_⟩,by simp,by simp⟩;show(ix (s.AF.set _ _) _).Bz≠t;rw[Lh (by rw[M];exact d) (by rw[M];exact d),AAa rfl]
   have:=CJ.1 m;simp only;omega
 rw[AAZ K];by_cases C:k=17
 . rw[AAa C];have H:Du o wv.Ah.length=true:=(by simpa[B8,C]using g);have d:=I o H;have q:=h.Kd v m (f:=λx=>⟨2,0,x.Atomic⟩) ⟨by simp,by simp[G],by simp,by simp,by simp,by simp⟩;refine q.Kc I M (f:=λx=>⟨t,x.Ax⟩) d ⟨λ_=>G,λP=> ?_,(h.l _ d).p,(h.l _ d).r⟩ (.inr (.inr ⟨m,?_⟩))
   . have E:=((h.l _ d).w P).1;rw[hq o H]at E;cases E
   . show(ix (s.AA.set t.toNat _) t).Status=2;rw[Lh (by rw[v];exact m) (by rw[v];exact m),AAa rfl]
 rw[AAZ C];by_cases SA:k=18
 . rw[AAa SA];by_cases hW:CA o 0 s.AA=[]
   . simp only[hW,AAq];exact h
   . simp only[hW,AAd];obtain⟨d1,Z⟩:=waits_in v (sK (wake:=wake) hW);have D:=h.t _ d1;apply h.Kd v d1;exact⟨by simp[IY],by simp[IY];exact D.b.2 (by omega),by simp[IY],λ_=>D.c (.inl Z),by simp[IY],by simp[IY]⟩
 rw[AAZ SA];by_cases gJ:k=19
 . rw[AAa gJ];refine⟨λu J=> ?_,h.l,h.x,h.b⟩;show TI wv B s.AF u (ix (s.AA.map (Iu o)) u);rw[ix_map (by rw[v];exact J)];have U:=h.t u J;unfold Iu;by_cases E:I3 (ix s.AA u) o=true
   . have Z:(ix s.AA u).Status=3:=(by unfold I3 at E;simp only[AAR]at E;exact eq_of_beq E.1);rw[AAa E];exact⟨by simp[IY],by simp[IY];exact U.b.2 (by omega),by simp[IY],λ_=>U.c (.inl Z),by simp[IY],by simp[IY]⟩
   . rw[AAZ E];exact U
 rw[AAZ gJ];by_cases F:k=20
 . rw[AAa F];have H:Du o wv.AA.length=true:=(by simpa[B8,F]using g);have O:=h.t o H;have hs:(ix s.AA o).Status=0:=(by simp[Ka,F]at j;exact j.2.2);have nb:¬B o:=λh=>(by have:=O.b.1 h;omega);dsimp only;apply h.Kd v H;exact⟨by simp,by simp[nb],by simp,by simp,λ_ _=>O.n (by omega) (by omega),λh=>by have:=O.a h;omega⟩
 rw[AAZ F];by_cases QT:k=22
 . rw[AAa QT];exact⟨h.t,h.l,h.x,h.b⟩
 rw[AAZ QT];exact h
def begB (wv:AB) (c:List Int) (u:Int):Prop:=Du u wv.AA.length=true/\1≤ix c u
structure WI (wv:AB) (pre:List AE) (s:AD):Prop where
 f:JV wv s=true
 c:∀u,Du u wv.AA.length=true->ix s.Count u=((Lr pre u).length:Int)
 m:s.Count.sum=(pre.length:Int)
 y:YI wv (begB wv s.Count) s.Sync
 d:∀i,Du i wv.AK.length=true->ix s.Sync.B6 i=false->ix s.AK i=0
theorem sum_set {l:List Int}:∀{i:Nat} {x:Int},i<l.length->(l.set i x).sum=l.sum+(x-l.getD i 0):=by
 induction l with
 |nil=>intro i x h;simp at h
 |cons a r ih=>
  intro i x h;cases i with
  |zero=>simp;omega
  |succ i=>have:=ih (i:=i) (x:=x) (by simpa using h);simp only[List.set_cons_succ,List.sum_cons,List.getD_cons_succ,this];omega
theorem XM {b:Type} [Inhabited b] {n:Nat} {a:b} {i:Int} (h:Du i n=true):ix (List.replicate n a) i=a:=by have:=CJ.1 h;unfold ix;rw[List.getElem?_replicate,AAa (by omega)];rfl
theorem Px {wv:AB} (h:Cz wv=true):wv.Ah.all (OE wv)=true/\1≤wv.AA.length:=by
 unfold Cz at h;simp only[AAR,AAk]at h;obtain⟨a,h⟩:=h;refine⟨?_,by omega⟩;split at h
 . simp only[AAR]at h;exact h.1.2
 . cases h
theorem RA {wv:AB} (h:Cz wv=true):∀o,Du o wv.Ah.length=true->(ix wv.AF (ix wv.Ah o).Mutex).RW=false:=by
 intro o c;have b:=(Px h).1
 have:=CJ.1 c;have a:o.toNat<wv.Ah.length:=by omega
 have:=AAX.1 b (ix wv.Ah o) (by unfold ix;rw[AAV a];exact AAl a);unfold OE at this;simp only[AAR,ABA]at this;exact this.2
theorem WI.start {wv:AB} (h:Cz wv=true):WI wv [] (FQ wv):=by
 have l:=DJ h;have b:=RA h;have j:=(Px h).2;have d:∀u,¬begB wv (FQ wv).Count u:=λu ⟨a,k⟩=>by have:ix (FQ wv).Count u=0:=XM a;omega
 have f:wv.Ah.all (λc=>Du c.Mutex wv.AF.length)=true:=by
  have b:=(Px h).1;refine AAX.2 λx g=> ?_
  have:=AAX.1 b x g;unfold OE at this;simp only[AAR]at this;exact this.1
 refine⟨?_,λu a=>XM a,?_,⟨λu a=> ?_,λi hi=> ?_,λh=>absurd rfl h,λu a=>a.1⟩,λi hi _=>XM hi⟩
 . unfold JV GY FQ JE;simp[f]
 . show(List.replicate wv.AA.length (0:Int)).sum=0;induction wv.AA.length with
   |zero=>rfl
   |succ n ih=>rw[List.replicate_succ,List.sum_cons,ih];rfl
 . show TI wv _ _ u (ix ((List.replicate wv.AA.length (⟨0,0,false⟩:AG)).set (0:Int).toNat ⟨1,0,false⟩) u);rw[Lh (CJ.2 (by simp;omega)) (by simpa using a)];by_cases e:u=0
   . rw[AAa e];exact⟨by simp,by simp[d],by simp,by simp,by simp,by simp⟩
   . rw[AAZ e,XM a];exact⟨by simp,by simp[d],λh=>absurd h e,by simp,by simp,by simp⟩
 . show LI wv _ i (ix (List.replicate wv.AF.length (⟨-1,[]⟩:AY)) i);rw[XM hi];exact⟨by simp,by simp,by simp,by simp⟩
theorem WI.next {wv:AB} {f:List AE} {s:AD} {e:AE} (G:∀o,Du o wv.Ah.length=true->(ix wv.AF (ix wv.Ah o).Mutex).RW=false) (h:WI wv f s) (J:f.length≤100000) (F:Iv wv s e=true):WI wv (f++[e]) (Ex wv s e):=by
 have l:=F;unfold Iv at l;simp only[AAR]at l;obtain⟨E,n,t,_,_,_⟩:=l;obtain⟨f1,f2,f3,f4⟩:=LG E;obtain⟨K,B,L⟩:=EY f1;have H:=Nv f e.Thread;have w:=h.c e.Thread n;have z:Ay (ix s.Count e.Thread+1)=((Lr f e.Thread).length:Int)+1:=by rw[w,CX (by omega) (by omega)]
 have r:∀u,Du u wv.AA.length=true->ix (Ex wv s e).Count u=if u=e.Thread then((Lr f e.Thread).length:Int)+1 else ix s.Count u:=by intro u j;show ix (s.Count.set e.Thread.toNat _) u=_;rw[Lh (by rw[f4];exact n) (by rw[f4];exact j),z]
 refine⟨?_,λu j=> ?_,?_,?_,λi hi hd=> ?_⟩
 . have:=W0 f1 e.Thread e.Kind e.Obj (if e.Kind=18 then e.Value else -1)
   unfold JV Ex;simp only[this,AA8,List.length_set,f4,ABC,Bool.and_true,AAR,AAg];constructor
   . split<;>simp[f2]
   . split<;>simp[f3]
 . rw[r u j,Nu];by_cases g:u=e.Thread
   . rw[AAa g,AAa g.symm];simp[g]
   . rw[AAZ g,AAZ (λh=>g h.symm),h.c u j]
 . show(s.Count.set e.Thread.toNat _).sum=_;have hi:=CJ.1 n;have:ix s.Count e.Thread=s.Count.getD e.Thread.toNat 0:=(by unfold ix;rw[List.getD_eq_getElem?_getD];rfl);rw[sum_set (by omega),h.m,z,← this,w];simp;omega
 . refine(h.y.apply G t (wake:=if e.Kind=18 then e.Value else -1)).congr λu=> ?_
   constructor
   . rintro⟨j,q⟩;rw[r u j]at q;by_cases g:u=e.Thread
     . exact .inr g
     . rw[AAZ g]at q;exact .inl ⟨j,q⟩
   . rintro(⟨j,q⟩|rfl)
     . refine⟨j,?_⟩;rw[r u j];split<;>omega
     . refine⟨n,?_⟩;rw[r _ n,AAa rfl];omega
 . unfold CL at t;simp only[AAR]at t;obtain⟨_,_,v,H⟩:=t;have C:(DN wv s.Sync e.Thread e.Kind e.Obj (if e.Kind=18 then e.Value else -1)).1.B6=if e.Kind=22 then s.Sync.B6.set e.Obj.toNat true else s.Sync.B6:=by
    unfold DN;by_cases k:e.Kind=22
    . simp[k]
    . rw[AAZ k,AAZ k];have key:∀(p:Prop) [Decidable p] (a b:AN×Int),a.1.B6=s.Sync.B6->b.1.B6=s.Sync.B6->(if p then a else b).1.B6=s.Sync.B6:=by intro p _ a b v I;split<;>assumption
      repeat' refine key _ _ _ ?_ ?_
      all_goals first
       |rfl
       | (by_cases D:CA e.Obj 0 s.Sync.AA=[]<;>simp only[D,AAq,AAd]<;>rfl)
   have hd:ix (if e.Kind=22 then s.Sync.B6.set e.Obj.toNat true else s.Sync.B6) i=false:=by rw[← C];exact hd
   show ix (if e.Kind=22 then s.AK.set e.Obj.toNat e.Value else s.AK) i=0
   by_cases k:e.Kind=22
   . rw[AAa k]at hd ⊢;have x:Du e.Obj wv.AK.length=true:=(by simpa[B8,k]using v);rw[Lh (by rw[B];exact x) (by rw[B];exact hi)]at hd;rw[Lh (by rw[f3];exact x) (by rw[f3];exact hi)];by_cases g:i=e.Obj
     . rw[AAa g]at hd;cases hd
     . rw[AAZ g]at hd ⊢;exact h.d i hi hd
   . rw[AAZ k]at hd ⊢;exact h.d i hi hd
def kY (f:Nat->Bool):Nat->Nat->Bool
 |_,0=>true
 |i,k+1=>f i&&kY f (i+1) k
def bL (c:List Int) (t:Int):Bool:=Du t c.length&&decide (1≤ix c t)
def countsW (w:BQ):Bool:=kY (λi=>decide (0≤ix w.Init.Count i)&&decide (ix w.Init.Count i≤400)) 0 w.Init.Count.length&&(w.Start==w.Init.Count.sum&&decide (w.Init.Count.sum+w.AH.length≤400))
def waitsW (x:AG):Bool:=x.Status==3||x.Status==4
def statW (w:BQ) (i:Nat) (x:AG):Bool:=
 (decide (0≤x.Status)&&decide (x.Status≤5))&&((decide (x.Status≤1)==(ix w.Init.Count i==0))&&(!(i==0&&x.Status==0)&&(if waitsW x=true then Du x.Es w.World.Ah.length else x.Es==0)))
def ownW (w:BQ) (i:Nat) (x:AG):Bool:= !waitsW x||(ix w.Init.Sync.AF (ix w.World.Ah x.Es).Mutex).Bz != (i:Int)
def atomW (w:BQ) (i:Nat) (x:AG):Bool:= !x.Atomic||bL w.Init.Count i
def gZ (c:List Int):Int->List Int->Bool
 |_,[]=>true
 |last,t::r=>decide (last<t)&&(bL c t&&gZ c t r)
def lockW (w:BQ) (i:Nat) (x:AY):Bool:=(x.Bz== -1||bL w.Init.Count x.Bz)&&((x.Ax.isEmpty||((ix w.World.AF i).RW&&x.Bz== -1))&&gZ w.Init.Count (-1) x.Ax)
def txW (w:BQ):Bool:=w.Init.Sync.Tx== -1||bL w.Init.Count w.Init.Sync.Tx
def futW (w:BQ) (i:Nat):Bool:=ix w.Init.Sync.B6 i||ix w.Init.AK i==0
def isNew (c:Int) (reads:List Bool) (k:Int):Bool:=decide (k<c)||KV reads (k-c)
def readsW (c:List Int) (pre:List AE) (x:AE):Bool:=x.DE.all (isNew (ix c x.Thread) (Lr pre x.Thread))&&x.C2.all (isNew (ix c x.Thread) (Lr pre x.Thread))
def posW (wv:AB) (c:List Int):List AE->AD->List AE->Bool
 |_,_,[]=>true
 |pre,s,x::r=>Iv wv s x&&(readsW c pre x&&posW wv c (pre++[x]) (Ex wv s x) r)
abbrev thrW (w:BQ) (i:Nat):AG:=ix w.Init.Sync.AA i
def stateW (w:BQ):Bool:=countsW w&&(kY (λi=>statW w i (thrW w i)) 0 w.Init.Sync.AA.length&&(kY (λi=>ownW w i (thrW w i)) 0 w.Init.Sync.AA.length&&
 (kY (λi=>lockW w i (ix w.Init.Sync.AF i)) 0 w.Init.Sync.AF.length&&(txW w&&(kY (λi=>atomW w i (thrW w i)) 0 w.Init.Sync.AA.length&&kY (futW w) 0 w.Init.AK.length)))))
def validW (w:BQ):Bool:=Cz w.World&&(JV w.World w.Init&&(decide (w.AH.length≤16)&&(stateW w&&posW w.World w.Init.Count [] w.Init w.AH)))
def K8 (t:Ac) (n:Nat):AD:=(t.AH.take n).foldl (Ex t.World) (FQ t.World)
theorem Oy {t:Ac} {n:Nat} (h:n<t.AH.length):K8 t (n+1)=Ex t.World (K8 t n) t.AH[n]:=by unfold K8;rw[← AAm h,List.foldl_append];rfl
theorem xD {t:Ac} (d:Cz t.World=true) (g:t.AH.length≤400) (e:HS t.World [] (FQ t.World) t.AH=(0,0)):∀n,n≤t.AH.length->WI t.World (t.AH.take n) (K8 t n)/\HS t.World (t.AH.take n) (K8 t n) (t.AH.drop n)=(0,0):=by
 have f:=RA d;intro n;induction n with
 |zero=>intro _;exact⟨WI.start d,e⟩
 |succ n ih=>
  intro hn;obtain⟨a,b⟩:=ih (by omega);rw[ABQ (by omega),HS]at b;split at b
  . rename_i c;rw[AAR]at c;rw[Oy (by omega),← AAm (by omega)];exact⟨a.next f (by simp;omega) c.1,b⟩
  . exact absurd (ABl Prod.snd b) (λh:(12:Int)=0=>by cases h)
structure WinF (w:BQ):Prop where
 v:Cz w.World=true
 f:JV w.World w.Init=true
 e:w.AH.length≤16
structure WinL (w:BQ):Prop where
 s:Small w.World
 l:w.Init.Sync.AF.length=w.World.AF.length
 d:w.Init.Sync.B6.length=w.World.AK.length
 t:w.Init.Sync.AA.length=w.World.AA.length
 u:w.Init.AK.length=w.World.AK.length
 c:w.Init.Count.length=w.World.AA.length
 m:∀o,Du o w.World.Ah.length=true->Du (ix w.World.Ah o).Mutex w.World.AF.length=true
theorem WinF.l {w:BQ} (h:WinF w):WinL w:=by obtain⟨f1,f2,f3,f4⟩:=LG h.f;obtain⟨b,c,d⟩:=EY f1;exact⟨DJ h.v,b,c,d,f3,f4,λo a=>G7 f1 a⟩
theorem nums_in {c:Int}:∀(D:List Int) (a:Int),FO c a D=true->∀k∈D,a<k/\k<c:=by
 intro D;induction D with
 |nil=>intro _ _ k b;cases b
 |cons x r ih=>
  intro a h k b;unfold FO at h;simp only[AAR,AAk]at h;rcases AAp.1 b with rfl|b
  . exact⟨h.1,h.2.1⟩
  . have:=ih x h.2.2 k b;exact⟨by omega,this.2⟩
def CI (c:List Int) (nt:Nat) (pre:List AE) (s:AD):Prop:=s.Count.length=nt/\∀u,Du u nt=true->ix s.Count u=ix c u+((Lr pre u).length:Int)
theorem CI.next {wv:AB} {c:List Int} {nt:Nat} {a:List AE} {s:AD} (h:CI c nt a s) {x:AE} (b:Du x.Thread nt=true) (f:∀u,Du u nt=true->0≤ix c u/\ix c u≤400) (m:a.length≤1000):CI c nt (a++[x]) (Ex wv s x):=by
 refine⟨by simpa[Ex]using h.1,λu d=> ?_⟩;obtain⟨i,j⟩:=CJ.1 b;obtain⟨k,l⟩:=CJ.1 d;rw[Nu];show ix (s.Count.set x.Thread.toNat (Ay (ix s.Count x.Thread+1))) u=_;have n:=f _ b;have g:=h.2 _ b;have hn:=Nv a x.Thread;by_cases e:x.Thread=u
 . subst e;rw[AAa rfl];unfold ix;rw[AAT (by have:=h.1;omega)];show Ay (ix s.Count x.Thread+1)=ix c x.Thread+_;rw[g,CX (by omega) (by omega)];simp only[AAz,AA4,ABM];omega
 . rw[AAZ e,← h.2 u d];unfold ix;rw[AAW (by omega)]
section
variable {w:BQ}
end
theorem sI (wv:AB) (l:List AE):∀a s,HS wv a s l=(0,0)∨(HS wv a s l).2=12/\(a.length:Int)≤(HS wv a s l).1:=by
 induction l with
 |nil=>exactλ_ _=>.inl rfl
 |cons x r ih=>
  intro a s;unfold HS;split
  . refine(ih (a++[x]) _).imp id λh=>⟨h.1,?_⟩
    have:=h.2;simp at this ⊢;omega
  . exact .inr ⟨rfl,by simp⟩
structure AT (t:Ac):Prop where
 w:Cz t.World=true
 l:t.AH.length≤400
 c:HS t.World [] (FQ t.World) t.AH=(0,0)
 e:∀e∈t.AH,JF e
theorem AT.of {t:Ac} (a:∀e∈t.AH,JF e) (h:(M9 t).2=0):AT t:=by
 unfold M9 at h;split at h
 . cases h
 . split at h
   . rename_i c b;rcases sI t.World t.AH [] (FQ t.World)with hc|⟨hc,_⟩
     . exact⟨b,by omega,hc,a⟩
     . rw[hc]at h;cases h
   . cases h
theorem AT.check {t:Ac} (h:AT t):M9 t=(0,0):=by unfold M9;rw[AAZ (by have:=h.l;omega),AAa h.w,h.c]
theorem AT.poss {t:Ac} (h:AT t) {i:Nat} (hi:i<t.AH.length):Iv t.World (K8 t i) t.AH[i]=true:=by
 obtain⟨_,b⟩:=xD h.w h.l h.c i (by omega);rw[ABQ hi,HS]at b;split at b
 . rename_i a;rw[AAR]at a;exact a.1
 . exact absurd (ABl Prod.snd b) (λh:(12:Int)=0=>by cases h)
theorem AT.rb {t:Ac}:∀i,i≤t.AH.length->RB i (K8 t i).Sync
 |0,_=>RB.start _
 |i+1,hi=>by rw[Oy (by omega)];exact(AT.rb i (by omega)).apply _ _ _ _ _
theorem AT.step {t:Ac} (h:AT t) {i:Nat} (hi:i<t.AH.length):QK t.World (K8 t i) t.AH[i]=(K8 t (i+1),true):=by unfold QK;rw[AAa (h.poss hi),Oy hi]
def Ev400 (e:AE):Prop:=e.DE.length≤1000/\e.C2.length≤1000
theorem nums_len {c:Int}:∀(D:List Int) (a:Int),a<c->FO c a D=true->(D.length:Int)+a+1≤c:=by
 intro D;induction D with
 |nil=>intro a h _;simp;omega
 |cons x r ih=>
  intro a h hn;unfold FO at hn;simp only[AAR,AAk]at hn
  have:=ih x hn.2.1 hn.2.2;simp only[AA4];omega
theorem AT.ev {t:Ac} (h:AT t) {e:AE} (m:e∈t.AH):Ev400 e:=by
 obtain⟨i,hi,rfl⟩:=List.getElem_of_mem m;obtain⟨a,_⟩:=xD h.w h.l h.c i (by omega);have b:=h.poss hi;have k:=a.c _ (TF b);have n:=Nv (t.AH.take i) t.AH[i].Thread;have o:=h.l;rw[List.length_take_of_le (by omega)]at n;unfold Iv Ej at b;simp only[AAR]at b;obtain⟨_,_,_,_,⟨⟨_,d⟩,_,f⟩,_⟩:=b;rw[k]at d f;have key:∀D:List Int,FO ((Lr (t.AH.take i) t.AH[i].Thread).length:Int) 0 D=true->D.length≤1000:=by
  intro D g;cases D with
  |nil=>simp
  |cons x r=>
   have j:0<((Lr (t.AH.take i) t.AH[i].Thread).length:Int):=by have:=nums_in _ _ g x (by simp);omega
   have:=nums_len _ _ j g;omega
 exact⟨key _ d,key _ f⟩
def cN:ABs:=⟨#[99]⟩
def noE:A7:=⟨0,0,⟨#[]⟩,[]⟩
def kE (T:ABs->Prop) (o:Int) (s a:ABs) (i:List A7):Prop:=
 (o=1->i=[]->s∈vN)/\(o=4->s=⟨#[109]⟩∨s=⟨#[110]⟩)/\(o=5∨o=6->s=⟨#[114]⟩)/\(o=12∨o=13->T s)/\(o=14->s=⟨#[102]⟩)/\(o=15->s=⟨#[97]⟩/\a=⟨#[102]⟩)
def bdF (o:Int) (b e:List AP):Prop:=(o∉[(2:Int),3,4,5,6,7,8]->b=[])/\(o≠2->e=[])
def ID (T:ABs->Prop):Nat->AP->Prop
 |0,_=>False
 |n+1,s=>(1≤s.Op/\s.Op≤15)/\(s.Index=[]∨s.Op=1/\s.Name=qS/\∃a,s.Index=[a]/\S5 2 a)/\(S5 2 s.Expr∨s.Op∉[(1:Int),2,3,14]/\s.Expr=noE)/\(s.Op∈[(9:Int),10,11]->s.Name=cN)/\
  s.Body.length≤4/\s.Else.length≤4/\(∀x∈s.Body,ID T n x)/\(∀x∈s.Else,ID T n x)/\bdF s.Op s.Body s.Else/\kE T s.Op s.Name s.Arg s.Index
structure MK (H:Nat) (m:AO):Prop where
 t:FH m.t
 h:m.held.length≤H/\H≤500
structure Iq (m m':AO):Prop where
 t:FH m'.t
 h:m'.held=m.held
theorem U4.keep {m a:AO} (h:U4 m a):Iq m a:=⟨h.1,by rw[h.2]⟩
theorem Iq.mk' {H:Nat} {m a:AO} (b:MK H m) (h:Iq m a):MK H a:=⟨h.t,by rw[h.h];exact b.h⟩
theorem Iq.trans {a b c:AO} (h:Iq a b) (g:Iq b c):Iq a c:=⟨g.t,g.h.trans h.h⟩
def okL (T:ABs->Prop) (k:Nat) (l:List AP):Prop:=l.length≤2/\∀x∈l,ID T k x
theorem LS {T:ABs->Prop} {s:ABs} {e:A7} (h:S5 2 e) (a:s∈vN) (k:Nat):ID T (k+1) ⟨1,0,s,⟨#[]⟩,[],e,[],[]⟩:=⟨⟨by simp,by simp⟩,.inl rfl,.inl h,by simp,by simp,by simp,by simp,by simp,⟨λ_=>rfl,λ_=>rfl⟩,λ_ _=>a,by simp,by simp,by simp,by simp,by simp⟩
theorem PX {T:ABs->Prop} {o l:Int} {s a:ABs} (h:1≤o/\o≤15) (b:o∉[(1:Int),2,3,14]) (c:o∈[(9:Int),10,11]->s=cN) (d:kE T o s a []) {k:Nat}:ID T (k+1) ⟨o,l,s,a,[],noE,[],[]⟩:=
 ⟨h,.inl rfl,.inr ⟨b,rfl⟩,c,by simp,by simp,by simp,by simp,⟨λ_=>rfl,λ_=>rfl⟩,d⟩
theorem QD {T:ABs->Prop} {o l:Int} {s a:ABs} (i:o∈[(2:Int),3,4,5,6,7,8]) (h:1≤o/\o≤15) (d:o∉[(1:Int),2,3,14]) (e:o∉[(9:Int),10,11]) (f:kE T o s a []) {k:Nat} {b:List AP} (g:b.length≤4) (c:∀x∈b,ID T k x):ID T (k+1) ⟨o,l,s,a,[],noE,b,[]⟩:=
 ⟨h,.inl rfl,.inr ⟨d,rfl⟩,λh=>absurd h e,g,by simp,c,by simp,⟨λh=>absurd i h,λ_=>rfl⟩,f⟩
section
variable {T:ABs->Prop} {R158:AO->ABs->Int->ABr (List AP×AO)} {R86:AO->Int->Int->ABr (List AP×AO)} {depth:Int} {nested:Bool} {k H:Nat}
structure Ox (T:ABs->Prop) (R158:AO->ABs->Int->ABr (List AP×AO)) (R86:AO->Int->Int->ABr (List AP×AO)) (depth:Int) (k H:Nat):Prop where
 d:0≤depth/\depth<100
 b:0<depth->∀m s,MK H m->Bx (R158 m s (depth-1)) λr=>okL T (k+1) r.1/\Iq m r.2
 s:0<depth->∀m d n,MK H m->(d=0∨d=depth-1)->(n=1∨n=2)->Bx (R86 m d n) λr=>okL T (k+1) r.1/\Iq m r.2
abbrev Good (T:ABs->Prop) (k:Nat) (m:AO) (r:AP×AO):Prop:=ID T (k+2) r.1/\Iq m r.2
theorem bB {m:AO} (a:MK H m) (b:Bool):Bx (Au.xO m b) (Good T k m):=by unfold Au.xO Em;refine tI (λ_=>tR ⟨PX (by decide) (by decide) (by decide) (by simp[kE]),a.t,rfl⟩) λ_=> ?_;refine tB (KS (.inr rfl) a.t) ?_;rintro e ⟨c,d⟩;exact tR ⟨LS c (Xb (by decide)) _,d.keep⟩
theorem Vz {m:AO} (a:MK H m) (v:Int×Ab) (b:Bool):Bx (Au.eC m v b) (Good T k m):=by
 unfold Au.eC;refine tI (λ_=> ?_) λ_=>tI (λ_=>tI (λ_=> ?_) λ_=>bB a _) λ_=>bB a _
 . refine tB (KS (.inr rfl) a.t) ?_;rintro e ⟨d,c⟩;exact tR ⟨⟨⟨by simp,by simp⟩,.inl rfl,.inl d,by simp,by simp,by simp,by simp,by simp,⟨λ_=>rfl,λ_=>rfl⟩,by simp[kE]⟩,c.1,by rw[c.2]⟩
 . refine tB (Gr a.t (by omega)) ?_;rintro e ⟨_,c⟩;exact tM (bB (k:=k) (m:={m with t:=e.2}) ⟨c,a.h⟩ _) λr h=>⟨h.1,h.2.t,h.2.h⟩
theorem aZ {m:AO} (a:MK H m) (v:Int×Ab) (b:Bool):Bx (Au.Rw v m b) (Good T k m):=by unfold Au.Rw;refine tI (λ_=> ?_) λ_=>tI (λ_=>tI (λ_=>tI (λ_=>Vz a _ _) λ_=>Vz a _ _) λ_=>Vz a _ _) λ_=>Vz a _ _;refine tB (Gr a.t (by omega)) ?_;rintro e ⟨f,d⟩;refine tR ⟨QD (by decide) (by decide) (by decide) (by decide) (by simp[kE]) (by simp) ?_,d,rfl⟩;intro x c;simp only[AAj]at c;subst c;rw[CX (by omega) (by omega)];refine PX (by omega) ?_ (λ_=>rfl) ⟨by omega,by omega,by omega,by omega,by omega,by omega⟩;simp;omega
theorem bE {m:AO} (a:MK H m) (v:Int×Ab) (b:Bool):Bx (Au.J9 nested v m b) (Good T k m):=by
 unfold Au.J9 Ii Em;refine tI (λ_=> ?_) λ_=>tI (λ_=>tI (λ_=> ?_) λ_=>aZ a _ _) λ_=>aZ a _ _
 . simp only[AAP];refine tR ⟨QD (by decide) (by decide) (by decide) (by decide) (by simp[kE]) (by simp) ?_,a.t,rfl⟩;intro x c;simp only[AAp,ABG,ABD]at c;rcases c with rfl|rfl
   . exact PX (by decide) (by decide) (λ_=>rfl) (by simp[kE])
   . exact LS (.inr (.inl ⟨rfl,rfl,Xb (by decide)⟩)) (Xb (by decide)) _
 . refine tB (P8 (by have:=a.h;omega) _) ?_;rintro e rfl;exact aZ a _ _
theorem kQ (g:Ox T R158 R86 depth k H) (hn:nested=true->0<depth) {m:AO} (a:MK H m) (v:Int×Ab) {b:Bool} (i:b=true->0<depth):Bx (Au.J8 R86 depth m nested v b) (Good T k m):=by
 have hd:=g.d;unfold Au.J8;refine tI (λh=> ?_) λ_=>tI (λ_=>tI (λ_=>tI (λ_=> ?_) λ_=>bE a _ _) λ_=>bE a _ _) λ_=>bE a _ _
 . refine tB (g.s (i h) _ _ _ ⟨a.t,a.h⟩ (.inr (CX (by omega) (by omega))) (.inr rfl)) ?_;rintro e ⟨c,f⟩;exact tR ⟨QD (by decide) (by decide) (by decide) (by decide) (by simp[kE]) (by have:=c.1;omega) c.2,f.t,f.h⟩
 . refine tB (P8 (by have:=a.h;omega) _) ?_;rintro e rfl;exact bE a _ _
theorem xR (d:Ox T R158 R86 depth k H) (hn:nested=true->0<depth) {m:AO} (a:MK H m) (v:Int×Ab) {b:Bool} (i:b=true->0<depth):Bx (Au.J7 R86 depth m nested v b) (Good T k m):=by unfold Au.J7;refine tI (λh=> ?_) λ_=>tI (λ_=>tI (λh=>kQ d hn a _ λ_=>hn h) λ_=>kQ d hn a _ (by simp)) λ_=>kQ d hn a _ (by simp);refine tB (Gr a.t (by omega)) ?_;rintro g ⟨j,c⟩;refine tB (d.s (i h) {m with t:=g.2,tx:=true} _ _ ⟨c,a.h⟩ (.inl rfl) (by rw[CX (by omega) (by omega)];omega)) ?_;rintro e ⟨c,f⟩;exact tR ⟨QD (by decide) (by decide) (by decide) (by decide) (by simp[kE]) (by have:=c.1;omega) c.2,f.t,f.h⟩
theorem bD (c:Ox T R158 R86 depth k H) (hn:nested=true->0<depth) {m:AO} (f:MK H m) (v:Int×Ab) {b:Bool} (j:b=true->0<depth/\(v.1=10∨v.1=11)):Bx (Au.J6 R158 R86 depth nested v m b) (Good T k m):=by have hd:=c.d;unfold Au.J6;refine tI (λh=> ?_) λ_=>tI (λ_=>xR c hn f _ hn) λ_=>xR c hn f _ (by simp);obtain⟨i,a⟩:=j h;rw[CX (n:=depth-1) (by omega) (by omega)];refine tB (c.b i m _ f) ?_;rintro e ⟨g,g2⟩;refine tR ⟨?_,g2⟩;rcases a with a|a<;>rw[a]<;>exact QD (by decide) (by decide) (by decide) (by decide) (by first| (rw[show Ay (Ay ((10:Int)-10)+5)=5 from rfl];simp[kE])| (rw[show Ay (Ay ((11:Int)-10)+5)=6 from rfl];simp[kE])) (by have:=g.1;omega) g.2
theorem bC (f:Ox T R158 R86 depth k H) (hn:nested=true->0<depth) {m:AO} (a:MK H m) (v:Int×Ab) {b:Bool} (s:b=true->0<depth/\(v.1=8∨v.1=9)):Bx (Au.J5 R158 R86 depth nested v m b) (Good T k m):=by
 have hd:=f.d;have u:=a.h;have o:∀{c:Bool} {i:Int},(v.1==i)=true->(i=10∨i=11)->nested=true->c=true->0<depth/\(v.1=10∨v.1=11):=λg q r _=>⟨hn r,by have:=eq_of_beq g;omega⟩;unfold Au.J5;refine tI (λh=> ?_) λ_=>tI (λj=>tI (λl=> ?_) λ_=>bD f hn a _ (by simp)) λ_=>tI (λj=>tI (λl=> ?_) λ_=>bD f hn a _ (by simp)) λ_=>bD f hn a _ (by simp)
 . obtain⟨g,q⟩:=s h;rw[CX (n:=depth-1) (by omega) (by omega),CX (by omega) (by omega)];refine tG (by simp;omega) λx t=>tB (f.b g m _ a) ?_;rintro e ⟨p,g2⟩;exact tR ⟨QD (by decide) (by decide) (by decide) (by decide) ⟨by simp,λ_=>by simpa using t,by simp,by simp,by simp,by simp⟩ (by have:=p.1;omega) p.2,g2⟩
 all_goals
  refine tB (P8 (by omega) _) ?_;rintro e rfl;exact bD f hn a _ (o j (by omega) l)
theorem xQ (a:Ox T R158 R86 depth k H) (hn:nested=true->0<depth) {m:AO} (l:MK H m) {v:Int×Ab} (q:FH v.2) {b:Bool} (B:b=true->0<depth):Bx (Au.J4 R158 R86 depth m nested v b) (Good T k m):=by
 have hd:=a.d;have E:=l.h;have o:∀{c:Bool} {i:Int},(v.1==i)=true->(i=8∨i=9)->nested=true->c=true->0<depth/\(v.1=8∨v.1=9):=λu D y _=>⟨hn y,by have:=eq_of_beq u;omega⟩;have g:MK H (AO.mk v.2 m.BX (Ay (m.left-1)) m.HY m.tx m.atomic m.loop m.held):=⟨q,l.h⟩;have w:∀{r:AP×AO},Good T k (AO.mk v.2 m.BX (Ay (m.left-1)) m.HY m.tx m.atomic m.loop m.held) r->Good T k m r:=λh=>⟨h.1,h.2.t,h.2.h⟩;unfold Au.J4;refine tI (λh=> ?_) λ_=>tI (λj=>tI (λn=> ?_) λ_=>tM (bC a hn g _ (by simp)) λ_=>w) λ_=>tI (λj=>tI (λn=> ?_) λ_=>tM (bC a hn g _ (by simp)) λ_=>w) λ_=>tM (bC a hn g _ (by simp)) λ_=>w
 . unfold Ii Jq IJ Em;simp only[AAP];refine tB (a.s (B h) _ _ _ ⟨q,l.h⟩ (.inr (CX (by omega) (by omega))) (.inl rfl)) ?_;rintro e ⟨p,g2⟩
   have:=p.1;refine tC (BM (by omega)) (tR ⟨⟨by simp,.inl rfl,.inl ?_,by simp,by simp;omega,by simp,?_,by simp,⟨λh=>absurd (by simp) h,λ_=>rfl⟩,by simp[kE]⟩,g2.t,g2.h⟩)
   . exact .inr (.inr (.inr ⟨by simp,_,_,rfl,.inr (.inl ⟨rfl,rfl,Xb (by decide)⟩),.inl ⟨rfl,rfl⟩⟩))
   . intro x f;rcases AAh.1 f with f|f
     . exact p.2 x f
     . simp only[AAj]at f;subst f;exact LS (.inr (.inr (.inr ⟨by decide,_,_,rfl,.inr (.inl ⟨rfl,rfl,Xb (by decide)⟩),.inl ⟨rfl,rfl⟩⟩))) (Xb (by decide)) _
 all_goals
  have z:=eq_of_beq j;rw[z];refine tG (by decide) λx _=>tB (P8 (by simpa using by omega) _) ?_;rintro e C;rw[C];exact tM (bC a hn g _ (o j (by omega) n)) λ_=>w
theorem xP (a:Ox T R158 R86 depth k H) (hn:nested=true->0<depth) {m:AO} (f:MK H m) {v:Int×Ab} (g:FH v.2) {b:Bool} (z:b=true->0<depth):Bx (Au.J2 R158 R86 depth m nested v b) (Good T k m):=by have hd:=a.d;unfold Au.J2 Au.J3;refine tI (λh=> ?_) λ_=>tI (λ_=>xQ a hn f g λh=>by simpa using h) λ_=>xQ a hn f g (by simp);have h:=z h;refine tB (KS (.inr rfl) (m:=AO.mk v.2 m.BX (Ay (m.left-1)) m.HY m.tx m.atomic m.loop m.held) g) ?_;rintro e ⟨o,y⟩;have p:=y.keep;have u:MK H (AO.mk v.2 m.BX (Ay (m.left-1)) m.HY m.tx m.atomic m.loop m.held):=⟨g,f.h⟩;rw[CX (n:=depth-1) (by omega) (by omega)];refine tB (a.s h _ _ _ (Iq.mk' u p) (.inr rfl) (.inl rfl)) ?_;rintro w ⟨⟨w,j⟩,q⟩;refine tB (Gr q.t (by omega)) ?_;rintro c ⟨_,l⟩;have i:=q.h.trans p.h;refine tI (λ_=> ?_) λ_=>tR ⟨⟨by simp,.inl rfl,.inl o,by simp,by simp;omega,by simp,j,by simp,⟨λh=>absurd (by simp) h,λ_=>rfl⟩,by simp[kE]⟩,l,i⟩;refine tB (a.s h _ _ _ ⟨l,by rw[show _=m.held from i];exact f.h⟩ (.inr rfl) (.inl rfl)) ?_;rintro d ⟨⟨d1,x⟩,r⟩;exact tR ⟨⟨by simp,.inl rfl,.inl o,by simp,by simp;omega,by simp;omega,j,x,⟨λh=>absurd (by simp) h,λh=>absurd rfl h⟩,by simp[kE]⟩,r.t,r.h.trans i⟩
theorem kN (l:Ox T R158 R86 depth k H) (hn:nested=true->0<depth) {m:AO} (f:MK H m) {v:Int×Ab} (q:0≤v.1) (d:FH v.2):Bx (Au.J1 R158 R86 depth m v nested) (Good T k m):=by
 have j:MK H (AO.mk v.2 m.BX (Ay (m.left-1)) m.HY m.tx m.atomic m.loop m.held):=⟨d,f.h⟩;unfold Au.J1 Em;refine tI (λh=> ?_) λ_=>tI (λ_=> ?_) λ_=>tI (λ_=> ?_) λ_=>tI (λ_=>xP l hn f d λh=>by simpa using h) λ_=>xP l hn f d (by simp)
 . have h:=AAc h;refine tG (by simp;omega) λx i=>tB (KS (.inr rfl) j.t) ?_;rintro e ⟨b,a⟩;exact tR ⟨LS b (V6 (by decide) i) _,a.keep.t,a.keep.h⟩
 . refine tB (Gr d (by omega)) ?_;rintro c ⟨n,o⟩;refine tG n λx i=>tB (KS (.inr rfl) o) ?_;rintro e ⟨b,a⟩;exact tR ⟨LS b (V6 (by decide) i) _,a.keep.t,a.keep.h⟩
 . refine tB (KS (.inl rfl) j.t) ?_;rintro e ⟨b,a⟩;refine tB (KS (.inr rfl) a.keep.t) ?_;rintro g ⟨p,g2⟩;exact tR ⟨⟨by simp,.inr ⟨rfl,rfl,_,rfl,b⟩,.inl p,by simp,by simp,by simp,by simp,by simp,⟨λ_=>rfl,λ_=>rfl⟩,by simp[kE]⟩,g2.keep.t,g2.keep.h.trans a.keep.h⟩
theorem jM (b:Ox T R158 R86 depth k H) {m:AO} (a:MK H m):Bx (Au R158 R86 m depth) (Good T k m):=by unfold Au;refine tB (Gr a.t (by omega)) ?_;rintro v ⟨c,d⟩;exact tI (λh=>tI (λ_=>kN b (λ_=>by simpa using h) a c.1 d) λ_=>kN b (by simp) a c.1 d) λ_=>kN b (by simp) a c.1 d
end
section
variable {T:ABs->Prop}
theorem aM {R:AO->Int->ABr (AP×AO)} {a:Int} {k H:Nat} (w:∀m,MK H m->Bx (R m a) λr=>ID T k r.1/\Iq m r.2) {m:AO} (p:MK H m) {c:Int} (hn:0≤c/\c≤3):
 Bx (CM R m a c) λr=>((r.1.length:Int)≤c/\∀x∈r.1,ID T k x)/\Iq m r.2:=by
 have o:=Bj;have key:∀n (i:Nat) (f:AO) (l:List AP),10<n+i->(i:Int)≤c->l.length≤i->(∀x∈l,ID T k x)->Iq m f->Bx (CM.AZ R a c n f l i) λr=>((r.1.length:Int)≤c/\∀x∈r.1,ID T k x)/\Iq m r.2:=by
  intro n;induction n with
  |zero=>intro i f l u v;omega
  |succ n ih=>
   intro i f l u v y j g;have J:∀b,(b=true->(i:Int)<c)->Bx (CM.J1 (CM.AZ R a c n) R a i l f b) λr=>((r.1.length:Int)≤c/\∀x∈r.1,ID T k x)/\Iq m r.2:=by
    intro b o;unfold CM.J1 CM.J2;refine tI (λh=> ?_) λ_=>tR ⟨⟨by simp only;omega,j⟩,g⟩;have h:=o h;refine tB (w _ (Iq.mk' p g)) ?_;rintro e ⟨q,s⟩;refine tC (BM (by omega)) ?_;rw[Ao (by omega)];refine ih (i+1) _ _ (by omega) (by omega) (by simp;omega) ?_ (g.trans s);intro x d;rcases AAh.1 d with d|d
    . exact j x d
    . simp only[AAj]at d;subst d;exact q
   unfold CM.AZ CM.L1;exact tI (λh=>tI (λ_=>J _ λ_=>by simpa using h) λ_=>J _ λ_=>by simpa using h) λ_=>J _ (by simp)
 exact key BU 0 m [] (by omega) (by omega) (by simp) (by simp) ⟨p.t,rfl⟩
theorem okS_mono {n:Nat}:∀{s:AP},ID T n s->ID T (n+1) s:=by
 induction n with
 |zero=>exactλh=>h.elim
 |succ n ih=>exactλ⟨h1,h2,h3,h4,h5,h6,h7,h8,h9⟩=>⟨h1,h2,h3,h4,h5,h6,λx a=>ih (h7 x a),λx a=>ih (h8 x a),h9⟩
theorem okS_le {a b:Nat} (h:a≤b) {s:AP} (c:ID T a s):ID T b s:=by
 induction h with
 |refl=>exact c
 |step _ ih=>exact okS_mono ih
theorem sE {R86:AO->Int->Int->ABr (List AP×AO)} {d:Int} {k H:Nat} {m:AO} (b:MK H m) (i:H<500) (s:ABs)
 (h:∀m n,MK (H+1) m->(n=1∨n=2)->Bx (R86 m d n) λr=>okL T k r.1/\Iq m r.2):Bx (HV R86 m s d) λr=>okL T k r.1/\Iq m r.2:=by
 have j:=b.h;unfold HV;refine tC (BM (by omega)) (tB (Gr b.t (by omega)) ?_);rintro v ⟨l,g⟩;refine tB (h (AO.mk v.2 m.BX m.left m.HY m.tx m.atomic m.loop (m.held++[s])) _ ⟨g,by simp;omega⟩ (by rw[CX (by omega) (by omega)];omega)) ?_;rintro e ⟨c,a⟩;have f:e.2.held=m.held++[s]:=a.h;simp only[f,AAz,AA4,ABM];rw[CX (by omega) (by omega)];refine tC (by omega) (tR ⟨c,a.t,?_⟩);show(m.held++[s]).take _=m.held;rw[show(((m.held.length+(0+1):Nat):Int)-1).toNat=m.held.length from by omega,List.take_left]
theorem Z7 {H n:Nat} (c:H<500) (d:3≤n):
 (∀m,MK H m->Bx (FV n m (0:Nat)) (Good T 0 m))/\∀m a,MK H m->0≤a/\a≤3->Bx (Dl (n+1) m (0:Nat) a) λr=>((r.1.length:Int)≤a/\∀x∈r.1,ID T 2 x)/\Iq m r.2:=by
 have key:∀m,MK H m->Bx (FV n m (0:Nat)) (Good T 0 m):=by intro m b;obtain⟨n,rfl⟩:∃k,n=k+1:=⟨n-1,by omega⟩;exact jM (R158:=Jp n) (R86:=Dl n) (H:=H) ⟨by omega,λh=>by simp at h,λh=>by simp at h⟩ b
 exact⟨key,λm a b hn=>aM (R:=FV n) key b hn⟩
theorem made_tot (d:Nat):∀(H n:Nat),d<50->H+d<500->3*d+3≤n->
 (∀m,MK H m->Bx (FV n m d) (Good T d m))/\∀m a,MK H m->0≤a/\a≤3->Bx (Dl (n+1) m d a) λr=>((r.1.length:Int)≤a/\∀x∈r.1,ID T (d+2) x)/\Iq m r.2:=by
 induction d with
 |zero=>exactλH n _ g i=>Z7 (by omega) (by omega)
 |succ d ih=>
  intro H n o g i;have sub:∀(f c:Nat) (m:AO) (e a:Int),f≤H+1->3*d+4≤c->MK f m->(e=0∨e=((d+1:Nat):Int)-1)->(a=1∨a=2)->Bx (Dl c m e a) λr=>okL T (d+2) r.1/\Iq m r.2:=by
   intro f c m e a l g2 b hd hn;obtain⟨c,rfl⟩:∃k,c=k+1:=⟨c-1,by omega⟩;rcases hd with rfl|rfl
   . exact tM ((Z7 (n:=c) (by omega) (by omega)).2 m a b (by omega)) λr h=>⟨⟨by have:=h.1.1;omega,λx j=>okS_le (by omega) (h.1.2 x j)⟩,h.2⟩
   . rw[show((d+1:Nat):Int)-1=(d:Int)from by omega];exact tM ((ih f c (by omega) (by omega) (by omega)).2 m a b (by omega)) λr h=>⟨⟨by have:=h.1.1;omega,h.1.2⟩,h.2⟩
  have key:∀m,MK H m->Bx (FV n m (d+1:Nat)) (Good T (d+1) m):=by
   intro m b;obtain⟨n,rfl⟩:∃k,n=k+2:=⟨n-2,by omega⟩;refine jM (R158:=Jp (n+1)) (R86:=Dl (n+1)) (H:=H) (k:=d+1) ⟨by omega,λ_ m s b=> ?_,λ_ m e a b hd hn=> ?_⟩ b
   . exact sE (R86:=Dl n) b (by omega) s λm a b hn=>sub (H+1) n m _ a (by omega) (by omega) b (.inr rfl) hn
   . exact sub H (n+1) m e a (by omega) (by omega) b hd hn
  exact⟨key,λm a b hn=>aM (R:=FV n) key b hn⟩
end
section
variable {T:ABs->Prop}
abbrev TT {α:Type} (o:ABr α):Prop:=Bx o λ_=>True
theorem tD {c:Type} {p:Prop} [Decidable p] {a b:ABr c} {R:c->Prop} (d:p->Bx a R) (e:¬p->Bx b R):Bx (if decide p=true then a else b) R:=by
 by_cases h:p
 . simpa[h]using d h
 . simpa[h]using e h
theorem IX {a b:Type} {o:ABr a} {f:a->ABr b} {R:b->Prop} (h:TT o) (k:∀x,Bx (f x) R):Bx (o.bind f) R:=tB h λx _=>k x
theorem tE {a b:Type} {o:ABr a} {y:a} {f:a->ABr b} {R:b->Prop} (h:o=some y) (k:Bx (f y) R):Bx (o.bind f) R:=by rw[h];exact k
theorem aO {a b:Type} {l:List a} {i:Nat} {f:a->ABr b} {R:b->Prop} (h:i<l.length) (k:Bx (f l[i]) R):Bx ((gt l (i:Int)).bind f) R:=by rw[Cw h];exact k
theorem tL {b:Type} {Q:b->Prop} (N:Nat) {F:Nat->Int->ABr b} (e:N<1000000000000) (h:∀n (i:Nat),i≤N->(i<N->Bx (F n (Ay (i+1))) Q)->Bx (F (n+1) i) Q):Bx (F BU 0) Q:=by
 have f:=Bj;have key:∀n (i:Nat),N<n+i->i≤N->Bx (F n i) Q:=by
  intro n;induction n with
  |zero=>intro i c a;omega
  |succ n ih=>intro i c a;refine h n i a λd=> ?_;rw[Ao (by omega)];exact ih (i+1) (by omega) d
 exact key BU 0 (by omega) (by omega)
theorem tLk {σ c:Type} {Q:c->Prop} (N j:Nat) (I:Nat->σ->Prop) {F:Nat->σ->Int->ABr c} (m:N<1000000000000) (l:j≤N) {s0:σ} (d:I j s0)
 (h:∀n (i:Nat) s,i≤N->I i s->(∀a,i<N->I (i+1) a->Bx (F n a (Ay (i+1))) Q)->Bx (F (n+1) s i) Q):Bx (F BU s0 j) Q:=by
 have o:=Bj;have key:∀n (i:Nat) s,N<n+i->i≤N->I i s->Bx (F n s i) Q:=by
  intro n;induction n with
  |zero=>intro i s e b;omega
  |succ n ih=>intro i s e b f;refine h n i s b f λa g k=> ?_;rw[Ao (by omega)];exact ih (i+1) a (by omega) g k
 exact key BU j s0 (by omega) l d
theorem Pr {σ b:Type} {Q:b->Prop} (N:Nat) (I:Nat->σ->Prop) {F:Nat->σ->Int->ABr b} (d:N<1000000000000) {s0:σ} (c:I 0 s0)
 (h:∀n (i:Nat) s,i≤N->I i s->(∀a,i<N->I (i+1) a->Bx (F n a (Ay (i+1))) Q)->Bx (F (n+1) s i) Q):Bx (F BU s0 0) Q:=tLk N 0 I d (by omega) c h
theorem Lm (s:ABs):TT (Bu s):=⟨_,OL s,trivial⟩
def dE:Nat->A7->Prop
 |0,_=>False
 |n+1,e=>e.L.length≤2/\∀x∈e.L,dE n x
theorem S5.d {n:Nat}:∀{e:A7},S5 n e->dE n e:=by
 induction n with
 |zero=>exactλh=>h.elim
 |succ n ih=>
  intro e h;rcases h with⟨_,h⟩|⟨_,h,_⟩|⟨_,_,a,h,c⟩|⟨_,a,b,h,c,f⟩<;>refine⟨by simp[h],?_⟩<;>rw[h]<;>simp
  . exact ih c
  . exact⟨ih c,ih f⟩
theorem ID.e {n:Nat} {s:AP} (h:ID T n s):dE 2 s.Expr:=by
 cases n with
 |zero=>exact h.elim
 |succ n=>
  rcases h.2.2.1 with h|⟨_,h⟩
  . exact h.d
  . rw[h];exact⟨by simp[noE],by simp[noE]⟩
theorem ID.i {n:Nat} {s:AP} (h:ID T n s):s.Index=[]∨∃a,s.Index=[a]/\dE 2 a:=by
 cases n with
 |zero=>exact h.elim
 |succ n=>exact h.2.1.imp id λ⟨_,_,a,h,k⟩=>⟨a,h,k.d⟩
theorem YP (d:ET):TT (Ca d):=by
 have a:∀b,TT (Ca.J2 d b):=by
  intro b;unfold Ca.J2 Ca.J3
  repeat' first|exact tR trivial|refine tI (λ_=> ?_) λ_=> ?_
 have j1:∀b,TT (Ca.J1 d b):=by
  intro b;unfold Ca.J1
  repeat' first|exact tR trivial|exact a _|refine IX (Lm _) λ_=> ?_|refine tI (λ_=> ?_) λ_=> ?_
 unfold Ca
 repeat' first|exact j1 _|refine IX (Lm _) λ_=> ?_|refine tI (λ_=> ?_) λ_=> ?_
theorem bF (o:Int):TT (D1 o):=by
 unfold D1 D1.J1 D1.J2 D1.J3
 repeat' first|exact tR trivial|refine tI (λ_=> ?_) λ_=> ?_
theorem WZ (d:Nat):∀(n:Nat) (e:A7),d≤n->dE d e->TT (C7 n e):=by
 induction d with
 |zero=>exactλn e _ h=>h.elim
 |succ d ih=>
  intro n e hn ⟨h1,h2⟩;obtain⟨n,rfl⟩:∃k,n=k+1:=⟨n-1,by omega⟩;show TT (CO (C7 n) e);have c:∀b,TT (CO.J2 (C7 n) e b):=by intro b;unfold CO.J2;refine tI (λ_=>tR trivial) λ_=>tL e.L.length (by omega) λm i hi k=> ?_;unfold CO.AZ CO.L1;refine tD (λ_=>tG (by omega) λx a=>IX (ih n x (by omega) (h2 x a)) λ_=>tI (λ_=>tR trivial) λ_=>k (by omega)) λ_=>tR trivial
  have j1:∀b,TT (CO.J1 (C7 n) e b):=by
   intro b;unfold CO.J1;refine IX (bF _) λ_=> ?_
   repeat' first|exact c _|refine IX (Lm _) λ_=> ?_|refine tI (λ_=> ?_) λ_=> ?_
  unfold CO;exact tI (λ_=>j1 _) λ_=>j1 _
theorem MI {n:Nat} (h:n≤1000):n≤BU:=by have:=Bj;omega
theorem kV {e:A7} (h:dE 2 e):TT (C7 BU e):=WZ 2 _ e (MI (by omega)) h
theorem Wa {k:Nat} {s:AP} {R:List AP->ABr Bool} (d:ID T k s) (j:TT (R s.Body)) (l:TT (R s.Else)):TT (Az R s):=by
 have r:∀b,TT (Az.J9 R s b):=by
  intro b;unfold Az.J9 Az.Rw
  repeat' first|exact tR trivial|refine IX j λ_=> ?_|refine IX l λ_=> ?_|refine tI (λ_=> ?_) λ_=> ?_
 have q:∀b,TT (Az.J8 R s b):=by
  intro b;unfold Az.J8
  repeat' first|exact r _|refine tI (λ_=> ?_) λ_=> ?_
 have c:∀b,TT (Az.J7 R s b):=by
  intro b;unfold Az.J7
  repeat' first|exact tR trivial|exact q _|refine tI (λ_=> ?_) λ_=> ?_
 have p:∀b,TT (Az.J6 R s b):=by
  intro b;unfold Az.J6;refine tI (λ_=>IX (kV d.e) λ_=>tI (λ_=>c _) λ_=>c _) λ_=>IX ?_ λ_=>c _;unfold Hc Hc.J1
  repeat' first|exact tR trivial|refine tI (λ_=> ?_) λ_=> ?_
 have f:∀b,TT (Az.J5 R s b):=by
  intro b;unfold Az.J5
  repeat' first|exact tR trivial|exact p _|refine tI (λ_=> ?_) λ_=> ?_
 have o:∀b,TT (Az.J4 R s b):=by
  intro b;unfold Az.J4;rcases d.i with h|⟨a,h,g⟩<;>rw[h]
  . repeat' first|exact tR trivial|exact f _|refine tI (λ_=> ?_) λ_=> ?_|contradiction
  . repeat' first|exact tR trivial|exact f _|refine tI (λ_=> ?_) λ_=> ?_|refine tE (y:=a) rfl ?_|refine IX (kV g) λ_=> ?_
 have n:∀b,TT (Az.J3 R s b):=by
  intro b;unfold Az.J3
  repeat' first|exact tR trivial|exact o _|refine tI (λ_=> ?_) λ_=> ?_|refine IX (Lm _) λ_=> ?_
 have m:∀b,TT (Az.J2 R s b):=by
  intro b;unfold Az.J2
  repeat' first|exact n _|refine tI (λ_=> ?_) λ_=> ?_|refine IX (Lm _) λ_=> ?_
 have j1:∀b,TT (Az.J1 R s b):=by
  intro b;unfold Az.J1
  repeat' first|exact tR trivial|exact m _|refine tI (λ_=> ?_) λ_=> ?_
 unfold Az;exact tI (λ_=>j1 _) λ_=>j1 _
def S6 (T:ABs->Prop) (k:Nat) (l:List AP):Prop:=l.length≤10/\∀x∈l,ID T k x
theorem ID.body {k:Nat} {s:AP} (h:ID T (k+1) s):S6 T k s.Body:=⟨by have:=h.2.2.2.2.1;omega,h.2.2.2.2.2.2.1⟩
theorem ID.els {k:Nat} {s:AP} (h:ID T (k+1) s):S6 T k s.Else:=⟨by have:=h.2.2.2.2.2.1;omega,h.2.2.2.2.2.2.2.1⟩
theorem VB (d:Nat):∀(n:Nat) (l:List AP),2*d+1≤n->S6 T d l->TT (Gs n l):=by
 induction d with
 |zero=>intro n l hn ⟨_,h⟩;obtain⟨n,rfl⟩:∃k,n=k+1:=⟨n-1,by omega⟩;have:l=[]:=ABE.2 λx a=>(h x a).elim;subst this;show TT (Ce (Jt n) []);exact tR trivial
 |succ d ih=>intro n l hn ⟨h1,h2⟩;obtain⟨n,rfl⟩:∃k,n=k+2:=⟨n-2,by omega⟩;show TT (Ce (Jt (n+1)) l);unfold Ce;refine tL l.length (by omega) λm i hi k=> ?_;unfold Ce.AZ Ce.L1 Ce.J1;refine tD (λ_=>tG (by omega) λx a=> ?_) λ_=>tR trivial;refine IX (Wa (R:=Gs n) (h2 x a) (ih n _ (by omega) (h2 x a).body) (ih n _ (by omega) (h2 x a).els)) λ_=>tI (λ_=>tR trivial) λ_=>k (by omega)
def MG:List ABs:=[⟨#[109,97,105,110]⟩,⟨#[116,49]⟩,⟨#[116,50]⟩,⟨#[116,51]⟩]
def Y4:List ABs:=[⟨#[97]⟩,⟨#[98]⟩]
structure MP (p:AQ):Prop where
 d:Eg=some p.Decls
 t:p.AA.length≤4
 l:∀t∈p.AA,t.GG.length≤2
 b:∀t∈p.AA,S6 (λs=>s∈p.AA.map (·.Name)) 4 t.Body
 nm:∃n,1≤n/\n≤4/\p.AA.map (·.Name)=MG.take n
 lo:∀t∈p.AA,t.GG=Y4
theorem MP.dl {p:AQ} (h:MP p):p.Decls.length=9:=by have h:=h.d;unfold Eg at h;rw[← AAU h];rfl
theorem Wb {p:AQ} (h:MP p):TT (CN p):=by
 have hd:=h.dl;have e:=h.t;have c:∀{F:Int->ABr Bool} {i:Int} (b:Bool),TT (F (Ay (i+1)))->TT (CN.J3 F i b):=by intro F i b k;unfold CN.J3 CN.J4;exact tI (λ_=>tR trivial) λ_=>k
 unfold CN;refine tL 9 (by omega) λm i hi k=> ?_;unfold CN.AZ CN.L1 CN.J1;refine tD (λ_=>tG (by omega) λx a=>IX (YP x) λ_=>tI (λ_=>tR trivial) λ_=>k (by omega)) λ_=>tL p.AA.length (by omega) λm i hi k=> ?_;unfold CN.Cf CN.L2 CN.J5;refine tD (λ_=>tG (by omega) λx a=>tL x.GG.length (by have:=h.l x a;omega) λm i hi d=> ?_) λ_=>tR trivial;unfold CN.Hz CN.L3 CN.J2;refine tD (λ_=>tG (by omega) λx a=>IX (Lm _) λ_=>tI (λ_=>tR trivial) λ_=>d (by omega)) λ_=>IX (Lm _) λ_=>tI (λ_=>c _ (k (by omega))) λ_=>IX (VB 4 _ _ (MI (by omega)) (h.b x a)) λ_=>c _ (k (by omega))
end
section
variable {T:ABs->Prop}
theorem Q4 (l:List ET) (s:ABs) (a:l.length<1000000):Bx (Cj l s) λr=> -1≤r/\r<l.length:=by unfold Cj;refine tL l.length (by omega) λn i hi k=> ?_;unfold Cj.AZ Cj.L1 Cj.J1;exact tD (λ_=>tG (by omega) λx _=>tI (λ_=>tR (by omega)) λ_=>k (by omega)) λ_=>tR (by omega)
theorem LH (l:List Cd) (s:ABs) (a:l.length<1000000):Bx (Cg l s) λr=> -1≤r/\r<l.length:=by unfold Cg;refine tL l.length (by omega) λn i hi k=> ?_;unfold Cg.AZ Cg.L1 Cg.J1;exact tD (λ_=>tG (by omega) λx _=>tI (λ_=>tR (by omega)) λ_=>k (by omega)) λ_=>tR (by omega)
theorem Zj {p:AQ} (h:MP p):TT (Hf p.Decls):=by have hd:=h.dl;have key:Bx (Eg.bind Hf) λ_=>True:=⟨(0,0),by decide +kernel,trivial⟩;rw[h.d]at key;exact key
theorem U6 {p:AQ} (h:MP p):TT (B3 p):=by
 have hd:=h.dl;have g:=h.t;have j1:∀{F:Int->ABr (Int×Int)} {i:Int} {x:Cd} (b:Bool),TT (F (Ay (i+1)))->TT (B3.J1 F i x b):=by intro F i x b k;unfold B3.J1;exact tI (λ_=>tR trivial) λ_=>k
 have c:∀{F:Int->ABr (Int×Int)} {i:Int} {x:Cd} (b:Bool),TT (F (Ay (i+1)))->TT (B3.J3 F i x b):=by intro F i x b k;unfold B3.J3;exact tI (λ_=>tR trivial) λ_=>k
 unfold B3;refine tL p.AA.length (by omega) λn i hi k=> ?_;unfold B3.AZ B3.L1 B3.J2;refine tD (λ_=>tG (by omega) λx a=>tB (Q4 _ _ (by omega)) λ_ _=>tI (λ_=>j1 _ (k (by omega))) λ_=>tC (by omega) (tB (LH _ _ (by simp;omega)) λ_ _=>j1 _ (k (by omega)))) λ_=> ?_;refine tL p.AA.length (by omega) λn i hi k=> ?_;unfold B3.Cf B3.L2;refine tD (λ_=>tG (by omega) λx a=>tI (λ_=>tR trivial) λ_=>tL x.GG.length (by have:=h.l x a;omega) λm j e d=> ?_) λ_=>tR trivial;have f:=h.l x a;unfold B3.Hz B3.L3 B3.J4;refine tD (λ_=>tG (by omega) λy o=>tB (Q4 _ _ (by omega)) λ_ _=>tI (λ_=>c _ (d (by omega))) λ_=>tB (LH _ _ (by omega)) λ_ _=>tI (λ_=>c _ (d (by omega))) λ_=>tC (by omega) (tB (NY _ _ (by simp;omega)) λ_ _=>c _ (d (by omega)))) λ_=>k (by omega)
theorem q9 (d:Nat):∀(n:Nat) (l:List AP),d+1≤n->S6 T d l->TT (Gc n l):=by
 induction d with
 |zero=>intro n l hn ⟨_,h⟩;obtain⟨n,rfl⟩:∃k,n=k+1:=⟨n-1,by omega⟩;have:l=[]:=ABE.2 λx a=>(h x a).elim;subst this;show TT (Cp (Gc n) []);exact tR trivial
 |succ d ih=>intro n l hn ⟨h1,h2⟩;obtain⟨n,rfl⟩:∃k,n=k+1:=⟨n-1,by omega⟩;show TT (Cp (Gc n) l);unfold Cp;refine Pr l.length (λ_ _=>True) (F:=λn s i=>Cp.AZ _ l n s i) (by omega) trivial λm i s hi _ k=> ?_;unfold Cp.AZ Cp.L1 Cp.J1;exact tD (λ_=>tG (by omega) λx a=>IX (ih n _ (by omega) (h2 x a).body) λ_=>IX (ih n _ (by omega) (h2 x a).els) λ_=>k _ (by omega) trivial) λ_=>tR trivial
theorem nC {wv:BE} (h:wv.GH.length≤100) (a b:Int) (s:ABs):Bx (BP wv a b s) λr=>r.2=wv:=by
 have j1:∀{F:Int->ABr (Bool×BE)} {i:Int} (b:Bool),Bx (F (Ay (i+1))) (λr=>r.2=wv)->Bx (BP.J1 F i wv b) λr=>r.2=wv:=by intro F i b k;unfold BP.J1;exact tI (λ_=>tR rfl) λ_=>k
 unfold BP;refine tL wv.GH.length (by omega) λn i hi k=> ?_;unfold BP.AZ BP.L1 BP.J2;refine tD (λ_=>tG (by omega) λx c=> ?_) λ_=>tR rfl
 repeat' first|exact j1 _ (k (by omega))|refine tI (λ_=> ?_) λ_=> ?_
theorem kR {p:AQ} (h:MP p) (t:Int) (s:ABs):TT (Ea p t s):=by
 have hd:=h.dl;have d:=h.t;have j1:∀b,TT (Ea.J1 p s b):=by
  intro b;unfold Ea.J1;refine tI (λ_=>tR trivial) λ_=>tB (Q4 _ _ (by omega)) λv e=>tD (λ_=>tB (LH _ _ (by omega)) λ_ _=>tI (λ_=>tR trivial) λ_=>tR trivial) λ_=>tG (by omega) λx _=> ?_;have c:∀b,TT (Ea.J2 p v b):=by intro b;unfold Ea.J2;exact tI (λ_=>tG (by omega) λ_ _=>tR trivial) λ_=>tR trivial
  repeat' first|exact tR trivial|exact c _|refine tI (λ_=> ?_) λ_=> ?_
 unfold Ea;exact tD (λ_=>tD (λ_=>tG (by omega) λx a=>tB (NY _ _ (by have:=h.l x a;omega)) λ_ _=>j1 _) λ_=>j1 _) λ_=>j1 _
theorem K6 {p:AQ} (h:MP p) (t:Int) (s:ABs) (a b:Int):TT (DL p t s a b):=by
 unfold DL DL.J1;refine IX (kR h t s) λ_=> ?_
 repeat' first|exact tR trivial|refine tI (λ_=> ?_) λ_=> ?_
theorem rF (d:Nat):∀(n:Nat) (e:A7),d≤n->dE d e->TT (Ju n e):=by
 induction d with
 |zero=>exactλn e _ h=>h.elim
 |succ d ih=>intro n e hn ⟨h1,h2⟩;obtain⟨n,rfl⟩:∃k,n=k+1:=⟨n-1,by omega⟩;show TT (FF (Ju n) e);unfold FF;refine Pr e.L.length (λ_ _=>True) (F:=λn (s:Int×Int) i=>FF.AZ _ e n s.1 s.2 i) (by omega) (s0:=(1,0)) trivial λm i s hi _ k=> ?_;unfold FF.AZ FF.L1 FF.J1;exact tD (λ_=>tG (by omega) λx a=>IX (ih n x (by omega) (h2 x a)) λv=>k (_,_) (by omega) trivial) λ_=>tR trivial
theorem uT {p:AQ} (h:MP p) (t:Int) (d:Nat):∀(n:Nat) (e:A7),d≤n->dE d e->TT (Im n p t e):=by
 induction d with
 |zero=>exactλn e _ h=>h.elim
 |succ d ih=>
  intro n e hn ⟨h1,h2⟩;obtain⟨n,rfl⟩:∃k,n=k+1:=⟨n-1,by omega⟩;show TT (D3 (Im n) p t e);have j1:∀r,TT (D3.J1 (Im n) e p t r):=by intro r;unfold D3.J1;refine Pr e.L.length (λ_ _=>True) (F:=λm s i=>D3.AZ _ e p t m s i) (by omega) trivial λm i s hi _ k=> ?_;unfold D3.AZ D3.L1 D3.J2 D3.J3;exact tD (λ_=>tI (λ_=>tG (by omega) λx a=>IX (ih n x (by omega) (h2 x a)) λv=>k _ (by omega) trivial) λ_=>tR trivial) λ_=>tI (λh=>by cases h) λ_=>tR trivial
  unfold D3;exact tI (λ_=>IX (K6 h _ _ _ _) λ_=>j1 _) λ_=>tI (λ_=>IX (K6 h _ _ _ _) λ_=>j1 _) λ_=>j1 _
theorem dZ {p:AQ} (h:MP p) (t:Int) {e:A7} (a:dE 2 e):TT (E4 p t e):=by
 have j1:∀b,TT (E4.J1 e p t b):=by intro b;unfold E4.J1;exact tI (λ_=>tR trivial) λ_=>IX (uT h t 2 _ e (MI (by omega)) a) λ_=>tR trivial
 unfold E4;exact IX (kV a) λ_=>tI (λ_=>tR trivial) λ_=>IX (rF 2 _ e (MI (by omega)) a) λ_=>tI (λ_=>j1 _) λ_=>j1 _
theorem Nt (a b:Int):TT (E5 a b):=by unfold E5;exact tI (λ_=>tR trivial) λ_=>tR trivial
theorem IK (b:Bool):TT (Bs b):=by unfold Bs;exact tI (λ_=>tR trivial) λ_=>tR trivial
structure WK (p:AQ) (A K:Nat) (wv:BE):Prop where
 p:wv.p=p
 a:wv.GH.length=A
 s:wv.Lx.length≤K
 t:wv.YO.length≤K
theorem WK.mono {p:AQ} {A K L:Nat} {wv:BE} (h:WK p A K wv) (b:K≤L):WK p A L wv:=⟨h.p,h.a,by have:=h.s;omega,by have:=h.t;omega⟩
theorem one_tot {p:AQ} (h:MP p) {A K:Nat} {wv:BE} (f:WK p A K wv) (H:A≤100) (J:K≤900000) {k:Nat} {s:AP} (o:ID T (k+1) s):Bx (BC wv s) λr=>WK p A (K+1) r.2:=by
 have hd:=h.dl;have n:=h.t;have m:=f.a;have F:=f.s;have G:=f.t;obtain rfl:=f.p;have W:WK wv.p A (K+1) wv:=f.mono (by omega);have I:=λa b s=>nC (wv:=wv) (by omega) a b s;have E:=dZ h wv.BX o.e;have j:∀(b:Bool) e,Bx (BC.xO s (b,wv) wv e) λr=>WK wv.p A (K+1) r.2:=by intro b e;unfold BC.xO;exact tC (BM (by simp only;omega)) (IX E λ_=>IX (Nt _ _) λ_=>tR ⟨rfl,m,W.s,by simp;omega⟩)
 have g:∀(b c:Bool) e,Bx (BC.eC e s (b,wv) wv c) λr=>WK wv.p A (K+1) r.2:=by intro b c e;unfold BC.eC;exact tI (λ_=>j _ _) λ_=>j _ _
 have q:∀(b:Bool) e,Bx (BC.Rw s (b,wv) wv e) λr=>WK wv.p A (K+1) r.2:=by intro b e;unfold BC.Rw;exact tI (λ_=>tB (NY _ _ (by simp only;omega)) λ_ _=>g _ _ _) λ_=>g _ _ _
 have D:∀(b c:Bool),Bx (BC.J8 s (b,wv) c) λr=>WK wv.p A (K+1) r.2:=by intro b c;unfold BC.J8;exact tI (λ_=>tR W) λ_=>tB (NY _ _ (by simp only;omega)) λ_ _=>tI (λ_=>tR W) λ_=>tC (BM (by simp only;omega)) (tR ⟨rfl,m,by simp;omega,W.t⟩)
 have z:s.Op∈[(9:Int),10,11]->Bx (Cj wv.p.Decls s.Name) λr=>0≤r/\r<9:=by
  intro B;rw[o.2.2.2.1 B];have key:Eg.bind (λl=>Cj l cN)=some 7:=by decide +kernel
  rw[h.d]at key;exact⟨7,key,by omega⟩
 have C:∀(b c d t:Bool),(t=true->s.Op∈[(9:Int),10,11])->Bx (BC.J6 s (b,wv) (c,wv) (d,wv) wv t) λr=>WK wv.p A (K+1) r.2:=by
  intro b c d t v;unfold BC.J6 BC.J7 BC.J9;refine tI (λn=>IX (K6 h _ _ _ _) λ_=>tI (λ_=>tR W) λ_=>tB (z (v n)) λ_ _=>tG (by omega) λx _=>tB (I _ _ _) ?_) λ_=> ?_
  . rintro⟨e,_⟩ rfl
    repeat' first|exact tR W|refine IX (IK _) λ_=> ?_|refine tI (λ_=> ?_) λ_=> ?_
  . repeat' first|exact tR W|refine IX (K6 h _ _ _ _) λ_=> ?_|refine IX (IK _) λ_=> ?_|refine IX (Nt _ _) λ_=> ?_|exact D _ _|exact q _ _|refine tB (LH _ _ (by omega)) λ_ _=> ?_|refine tI (λ_=> ?_) λ_=> ?_
 have u:∀(b c d t:Bool),Bx (BC.J3 s (b,wv) (c,wv) (d,wv) wv t) λr=>WK wv.p A (K+1) r.2:=by
  intro b c d t;unfold BC.J3 BC.J4 BC.J5;refine tI (λn=>IX (K6 h _ _ _ _) λ_=>tI (λ_=>IX (IK _) λ_=>IX (Nt _ _) λ_=>tR W) λ_=>tB (I _ _ _) ?_) λ_=> ?_
  . rintro⟨e,_⟩ rfl;exact IX (IK _) λ_=>IX (Nt _ _) λ_=>tR W
  . repeat' first|exact tR W|refine IX (IK _) λ_=> ?_|exact C _ _ _ _ (λh=>by simp_all)|refine tI (λ_=> ?_) λ_=> ?_
 have j1:∀(b c d t:Bool),Bx (BC.J1 s (b,wv) (c,wv) (d,wv) wv t) λr=>WK wv.p A (K+1) r.2:=by intro b c d t;unfold BC.J1 BC.J2;refine tI (λn=>IX E λ_=>tR W) λ_=>tI (λ_=>IX (K6 h _ _ _ _) λ_=>tI (λ_=>IX (IK _) λ_=>IX (Nt _ _) λ_=>tR W) λ_=>tB (I _ _ _) ?_) λ_=>tI (λ_=>u _ _ _ _) λ_=>u _ _ _ _;rintro⟨e,_⟩ rfl;exact IX (IK _) λ_=>IX (Nt _ _) λ_=>tR W
 unfold BC;refine tB (I _ _ _) ?_;rintro⟨b,w⟩ e;obtain rfl:wv=w:=e.symm;refine tB (I _ _ _) ?_;rintro⟨c,w⟩ e;obtain rfl:wv=w:=e.symm;refine tB (I _ _ _) ?_;rintro⟨d,w⟩ e;obtain rfl:wv=w:=e.symm;refine tI (λ_=> ?_) λ_=>tI (λ_=>j1 _ _ _ _) λ_=>j1 _ _ _ _;refine tI (λ_=>IX (K6 h _ _ _ _) λ_=>IX E λ_=>IX (Nt _ _) λ_=>tR W) λhi=>IX (K6 h _ _ _ _) λ_=> ?_;rcases o.i with e|⟨a,e,m⟩
 . rw[e]at hi;cases hi
 . rw[e];exact tE (y:=a) rfl (IX (dZ h wv.BX m) λ_=>IX E λ_=>IX (Nt _ _) λ_=>IX (Nt _ _) λ_=>tR W)
def HT:Nat->Nat
 |0=>0
 |d+1=>1+20*HT d
theorem oT {p:AQ} (h:MP p) (d:Nat):∀(n A K:Nat) (wv:BE) (l:List AP),d+1≤n->A+d≤50->K+10*HT d≤900000->WK p A K wv->S6 T d l->Bx (Eb n wv l) λr=>WK p A (K+10*HT d) r.2.2:=by
 induction d with
 |zero=>intro n A K wv l hn B C b ⟨_,h⟩;obtain⟨n,rfl⟩:∃k,n=k+1:=⟨n-1,by omega⟩;have:l=[]:=ABE.2 λx j=>(h x j).elim;subst this;show Bx (Bv (Eb n) wv []) _;exact tR b
 |succ d ih=>
  intro n A K wv l hn B C b ⟨h1,h2⟩;obtain⟨n,rfl⟩:∃k,n=k+1:=⟨n-1,by omega⟩;show Bx (Bv (Eb n) wv l) _;unfold Bv;have H:HT (d+1)=1+20*HT d:=rfl;refine Pr l.length (λi wv=>WK p A (K+i*HT (d+1)) wv) (F:=λn s i=>Bv.AZ _ l n s i) (by omega) (by simpa using b) λm i s hi q k=> ?_;have J:i*HT (d+1)≤10*HT (d+1):=ABF _ (by omega);have o:∀{w},WK p A (K+i*HT (d+1)) w->WK p A (K+10*HT (d+1)) w:=λh=>h.mono (by omega);unfold Bv.AZ Bv.L1 Bv.J3;refine tD (λE=>tG (by omega) λx j=>tB (one_tot h q (by omega) (by omega) (h2 x j)) λv f=> ?_) λ_=>tR (o q);have G:(i+1)*HT (d+1)≤10*HT (d+1):=ABF _ (by omega);have I:(i+1)*HT (d+1)=i*HT (d+1)+HT (d+1):=ABk _ _;have u:∀(w:BE) (e c:Int),WK p (A+1) (K+(i+1)*HT (d+1)) w->Bx (Bv.J2 (Bv.AZ (Eb n) l m) i w e c) λr=>WK p A (K+10*HT (d+1)) r.2.2:=by intro w e c b;have D:=b.a;unfold Bv.J2;rw[CX (n:=(w.GH.length:Int)-1) (by omega) (by omega)];have y:WK p A (K+(i+1)*HT (d+1)) (BE.mk w.p w.BX (w.GH.take ((w.GH.length:Int)-1).toNat) w.Lx w.YO):=⟨b.p,by simp;omega,b.s,b.t⟩;exact tC (by omega) (tI (λ_=>tR (y.mono (by omega))) λ_=>k _ (by omega) y)
  have j1:∀e,Bx (Bv.J1 (Bv.AZ (Eb n) l m) (Eb n) i v x e) λr=>WK p A (K+10*HT (d+1)) r.2.2:=by intro e;have D:=f.a;unfold Bv.J1;refine tI (λ_=>tR (f.mono (by omega))) λ_=>tC (BM (by omega)) (tG (by simp;omega) λ_ _=> ?_);refine tB (ih n (A+1) (K+i*HT (d+1)+1) _ _ (by omega) (by omega) (by omega) ⟨f.p,by simp;omega,f.s,f.t⟩ (h2 x j).body) λL g=> ?_;refine tI (λ_=> ?_) λ_=>u _ _ _ (g.mono (by omega));exact tB (ih n (A+1) _ _ _ (by omega) (by omega) (by omega) g (h2 x j).els) λM z=>u _ _ _ (z.mono (by omega))
  exact tI (λ_=>j1 _) λ_=>j1 _
theorem Zg {p:AQ} (h:MP p):TT (A2 p):=by have hd:=h.dl;have j:=h.t;have g:HT 4=8421:=rfl;unfold A2;refine IX (Wb h) λ_=>tI (λ_=>tR trivial) λ_=>IX (Zj h) λ_=>tI (λ_=>tR trivial) λ_=>tI (λ_=>tR trivial) λ_=>IX (U6 h) λ_=>tI (λ_=>tR trivial) λ_=> ?_;refine Pr p.AA.length (λ_ _=>True) (F:=λn s i=>A2.AZ p n s i) (by omega) trivial λm i s hi _ k=> ?_;unfold A2.AZ A2.L1 A2.J1;refine tD (λ_=>tG (by omega) λx d=>IX (q9 4 _ _ (MI (by omega)) (h.b x d)) λ_=>k _ (by omega) trivial) λ_=>tI (λ_=>tR trivial) λ_=> ?_;refine Pr p.AA.length (λi w=>WK p 0 (i*84210) w) (F:=λn s i=>A2.Cf p n s i) (by omega) ⟨rfl,rfl,by simp,by simp⟩ λm i s hi c k=> ?_;unfold A2.Cf A2.L2 A2.J2;refine tD (λf=>tG (by omega) λx d=> ?_) λ_=>tR trivial;refine tB (oT h 4 _ 0 (i*84210) _ _ (MI (by omega)) (by omega) (by omega) ⟨c.p,c.a,c.s,c.t⟩ (h.b x d)) λv e=>tI (λ_=>tR trivial) λ_=>k _ (by omega) (e.mono (by omega))
end
section
variable {T:ABs->Prop}
structure MK1 (N i:Nat) (m:AO) (p:AQ):Prop where
 t:FH m.t
 h:m.held=[]
 d:Eg=some p.Decls
 n:p.AA.length=i
 b:∀t∈p.AA,S6 (λs=>s∈MG.take N) 4 t.Body
 nm:p.AA.map (·.Name)=MG.take i
 lo:∀t∈p.AA,t.GG=Y4
theorem take_thr {i:Nat} (h:i<MG.length):MG.take i++[MG[i]]=MG.take (i+1):=AAm h
abbrev MPO (p:AQ):Prop:=MP p/\∃l,A2 p=some (0,l)
theorem eE {l:List Int} (S:l.length≤4000000000000000000) (U:∀x∈l,0≤x/\x<256):Bx (Bn l) MPO:=by
 have hd:∃D,Eg=some D:=⟨_,rfl⟩;obtain⟨D,r⟩:=hd;have I:MG.length=4:=rfl;unfold Bn;refine tE r (tB (Gr (t:=⟨l,0⟩) ⟨S,by simp,U⟩ (by omega)) ?_);rintro⟨v,G⟩ ⟨V,u⟩;simp only at V u;have N:Ay (2+v)=2+v:=CX (by omega) (by omega);refine Pr (2+v).toNat (λi (s:AO×AQ)=>MK1 (2+v).toNat i s.1 s.2) (F:=λn s i=>Bn.AZ (v,G) n s.1 s.2 i) (by omega) (s0:=(_,_)) ⟨u,rfl,r,rfl,by simp,rfl,by simp⟩ λn i s hi f k=> ?_;unfold Bn.AZ Bn.L1;simp only[N]
 -- the end
 have W:¬(i:Int)<2+v->Bx (Bn.J5 s.2) MPO:=by
  intro kB;have hi:i=(2+v).toNat:=by omega
  have M:MP s.2:=⟨f.d,by have:=f.n;omega,λt C=>by rw[f.lo t C];simp[Y4],by rw[f.nm,hi];exact f.b,⟨i,by omega,by omega,f.nm⟩,f.lo⟩;unfold Bn.J5 Jq Em;obtain⟨q,B,_⟩:=Zg M;refine tE B (tI (λ_=>tE r ?_) λh=>tR ⟨M,q.2,B.trans (ABl some (Prod.ext (by simpa using h) rfl))⟩);simp only[AAP];have key:Eg.bind (λD=>A2 ⟨D,[⟨⟨#[109,97,105,110]⟩,0,[⟨#[97]⟩,⟨#[98]⟩],[⟨1,0,⟨#[120]⟩,⟨#[]⟩,[],⟨1,1,⟨#[]⟩,[]⟩,[],[]⟩]⟩]⟩)=some (0,0):=by decide +kernel
  rw[r,AAP]at key;refine tR ⟨⟨r,by simp,by simp,?_,⟨1,by omega,by omega,rfl⟩,by simp[Y4]⟩,0,key⟩;simp only[AAj,forall_eq];refine⟨by simp,?_⟩;simp only[AAj,forall_eq];exact LS (.inl ⟨rfl,rfl⟩) (Xb (by decide)) _
 have E:∀m t,(hi:i<(2+v).toNat)->FH m.t->m.held=[]->(t.GG=Y4/\t.Name=MG[i]'(by omega))->S6 (λs=>s∈MG.take (2+v).toNat) 4 t.Body->Bx (Bn.J3 (λm p i=>Bn.AZ (v,G) n m p i) i s.2 m t) MPO:=by
  intro m t j o H w I;unfold Bn.J3 Bn.J4;have hn:=f.n;refine tC (BM (by omega)) (k (m,_) j ⟨o,H,f.d,by simp;omega,?_,?_,?_⟩)
  . simp only[AAh,AAj];rintro x (e|rfl)
    . exact f.b x e
    . exact I
  . simp only[AA3,f.nm,AAi,AA1,w.2];exact take_thr _
  . simp only[AAh,AAj];rintro x (e|rfl)
    . exact f.lo x e
    . exact w.1
 have j1:∀t,(hi:i<(2+v).toNat)->(t.GG=Y4/\t.Name=MG[i]'(by omega))->t.Body.length≤3->(∀x∈t.Body,ID (λs=>s∈MG.take (2+v).toNat) 4 x)->Bx (Bn.J1 (λm p i=>Bn.AZ (v,G) n m p i) i s.1 s.2 t) MPO:=by
  intro t j o H w;have L:s.1.held=[]:=f.h;unfold Bn.J1;refine tB (Gr f.t (by omega)) λa R=> ?_;rw[CX (n:=1+a.1) (by omega) (by omega)];have J:=Bj;obtain⟨Q,z⟩:∃n,BU=n+1:=⟨BU-1,by omega⟩;rw[z];refine tB ((made_tot (T:=λs=>s∈MG.take (2+v).toNat) 2 0 Q (by omega) (by omega) (by omega)).2 (AO.mk a.2 i s.1.left s.1.HY s.1.tx s.1.atomic s.1.loop s.1.held) (1+a.1) ⟨R.2,by rw[show _=s.1.held from rfl,L];simp⟩ (by omega)) λb J=> ?_;obtain⟨⟨Z,g2⟩,y⟩:=J;have g:b.2.held=[]:=y.h.trans L;have g0:∀x∈t.Body++b.1,ID (λs=>s∈MG.take (2+v).toNat) 4 x:=λx e=>(AAh.1 e).elim (w x) (g2 x);refine tC (BM (by omega)) (tI (λ_=>tB (Gr y.t (by omega)) λc K=> ?_) λ_=> ?_)<;>unfold Bn.J2
  . refine tI (λ_=>tC (BM (by simp;omega)) (E _ _ j K.2 g o ⟨by simp;omega,?_⟩)) λ_=>E _ _ j K.2 g o ⟨by simp;omega,g0⟩;intro x e;rcases AAh.1 e with e|e
    . exact g0 x e
    . rw[AAj.1 e];refine PX (by decide) (by decide) (by decide) ⟨by simp,by simp,by simp,λ_=> ?_,by simp,by simp⟩;exact List.mem_take_iff_getElem.2 ⟨1,by omega,rfl⟩
  . exact tI (λh=>by cases h) λ_=>E _ _ j y.t g o ⟨by simp;omega,g0⟩
 refine tD (λh=>aO (l:=MG) (by omega) (tI (λ_=> ?_) λ_=>j1 _ (by omega) ⟨rfl,rfl⟩ (by simp) (by simp))) W;refine tLk (2+v).toNat 1 (λk (t:Cd)=>(t.GG=Y4/\t.Name=MG[i]'(by omega))/\t.Body.length+1≤k/\∀x∈t.Body,ID (λs=>s∈MG.take (2+v).toNat) 4 x) (F:=λn t k=>Bn.Cf _ _ _ _ _ n t k) (by omega) (by omega) ⟨⟨rfl,rfl⟩,by simp,by simp⟩ λm q t B C X=> ?_;obtain⟨O,t2,P⟩:=C;unfold Bn.Cf Bn.L2;simp only[N];refine tD (λ_=>aO (l:=MG) (by omega) (tC (BM (by omega)) (X _ (by omega) ⟨O,by simp;omega,?_⟩))) λ_=>j1 _ (by omega) O (by omega) P;intro x e;rcases AAh.1 e with e|e
 . exact P x e
 . rw[AAj.1 e];refine PX (by decide) (by decide) (by simp) ⟨by simp,by simp,by simp,λ_=> ?_,by simp,by simp⟩;exact List.mem_take_iff_getElem.2 ⟨q,by omega,rfl⟩
theorem dW {l:List Int} (a:l.length≤1000):Bx (EZ l) λr=>r.length≤l.length:=by unfold EZ;refine Pr l.length (λi (s:List Cv)=>s.length≤i) (F:=λn s i=>EZ.AZ l n s i) (by omega) (by simp) λn i s hi b k=> ?_;unfold EZ.AZ EZ.L1 EZ.J1;exact tD (λ_=>tG (by omega) λx _=>tC (BM (by omega)) (k _ (by omega) (by simp;omega))) λ_=>tR (by omega)
theorem vV (d:Nat):∀(n K:Nat) (o:List Dp) (t a:Int) (l:List AP),d+1≤n->K+10*HT d≤900000->o.length≤K->S6 T d l->Bx (Gd n o t a l) λr=>r.1.length≤K+10*HT d:=by
 induction d with
 |zero=>intro n K o t a l hn e b ⟨_,h⟩;obtain⟨n,rfl⟩:∃k,n=k+1:=⟨n-1,by omega⟩;have:l=[]:=ABE.2 λx c=>(h x c).elim;subst this;show Bx (Cq (Gd n) o t a []) _;exact tR b
 |succ d ih=>intro n K o t a l hn e b ⟨h1,h2⟩;obtain⟨n,rfl⟩:∃k,n=k+1:=⟨n-1,by omega⟩;show Bx (Cq (Gd n) o t a l) _;unfold Cq;have p:HT (d+1)=1+20*HT d:=rfl;refine Pr l.length (λi (s:List Dp×Int)=>s.1.length≤K+i*HT (d+1)) (F:=λm s i=>Cq.AZ _ l t m s.1 s.2 i) (s0:=(o,a)) (by omega) (by simpa using b) λm i s hi y k=> ?_;have u:i*HT (d+1)≤10*HT (d+1):=ABF _ (by omega);unfold Cq.AZ Cq.L1 Cq.J1;refine tD (λg=>tG (by omega) λx c=>tC (BM (by omega)) ?_) λ_=>tR (by simp only;omega);have j:(i+1)*HT (d+1)≤10*HT (d+1):=ABF _ (by omega);have q:(i+1)*HT (d+1)=i*HT (d+1)+HT (d+1):=ABk _ _;refine tB (ih n (K+i*HT (d+1)+1) _ _ _ _ (by omega) (by omega) (by simp;omega) (h2 x c).body) λv f=> ?_;refine tB (ih n _ _ _ _ _ (by omega) (by omega) f (h2 x c).els) λw b=>k (_,_) (by omega) (by simp only;omega)
structure MW (w:AB):Prop where
 q:Bx (Bb w qS) λr=>0≤r/\r<w.Cells.length
 c:w.Cells.length≤100
 l:w.AF.length≤100
 d:w.Ah.length≤100
 f:w.AK.length≤100
 t:w.AA.length≤4
def LA:List DT:=[⟨⟨#[120]⟩,0,0,false,0⟩,⟨⟨#[121]⟩,0,0,false,1⟩,⟨⟨#[118]⟩,0,0,true,0⟩,⟨⟨#[113]⟩,0,2,false,0⟩,⟨⟨#[113]⟩,1,2,false,0⟩]
theorem ZW {p:AQ} (h:MP p) (j:∃l,A2 p=some (0,l)):Bx (Bm p) MW:=by
 obtain⟨l,j⟩:=j;have B:=h.t;have z:HT 4=8421:=rfl;unfold Bm;refine tE j (tI (λh=>by cases h) λ_=> ?_);have key:∀D T,Eg=some D->Bm.AZ ⟨D,T⟩ BU (AB.mk [] [] [] [] [] []) 0=Bm.J4 ⟨D,T⟩ ⟨LA,[⟨⟨#[109]⟩,false⟩,⟨⟨#[110]⟩,false⟩,⟨⟨#[114]⟩,true⟩],[⟨⟨#[99]⟩,0⟩],[⟨#[102]⟩],[],[]⟩:=by
  intro D T m;unfold Eg at m;obtain rfl:=AAU m
  kernel_rfl
 rw[show Bm.AZ p BU (AB.mk [] [] [] [] [] []) 0=_ from key p.Decls p.AA h.d];unfold Bm.J4;rw[show AQ.mk p.Decls p.AA=p from rfl];refine Pr p.AA.length (λi w=>w.BF.length≤i*84210/\w.AA.length=i/\w.Cells=LA/\w.AF.length=3/\w.Ah.length=1/\w.AK.length=1) (F:=λn s i=>Bm.Hz _ n s i) (by omega) ⟨by simp,rfl,rfl,rfl,rfl,rfl⟩ λn i w hi e k=> ?_;obtain⟨q,E,g,r,u,y⟩:=e;unfold Bm.Hz Bm.L3 Bm.J5;refine tD (λ_=>tG (by omega) λx o=>tC (BM (by omega)) (tB (vV 4 _ (i*84210) _ _ _ _ (MI (by omega)) (by omega) q (h.b x o)) λv C=>k _ (by omega) ⟨by simp only;omega,by simp;omega,g,r,u,y⟩)) λ_=>tR ⟨?_,by rw[g];decide,by omega,by omega,by omega,by omega⟩;rw[g];have a:∀w:AB,w.Cells=LA->Bb w qS=some 3:=by
  intro w e;obtain⟨c,l,d,f,t,s⟩:=w;simp only at e;subst e
  kernel_rfl
 exact⟨3,a w g,by omega,by decide⟩
end
section
variable {T:ABs->Prop}
structure GS (g:A6) (n:Nat) (r:A6):Prop where
 w:r.w=g.w
 l:r.locals=g.locals
 a:g.out.length≤r.out.length
 b:r.out.length≤g.out.length+n
structure GB (g:A6) (n:Nat):Prop where
 w:MW g.w
 l:g.locals.length≤2
 n:g.out.length+n≤8000000
theorem GS.refl (g:A6) (n:Nat):GS g n g:=⟨rfl,rfl,by omega,by omega⟩
theorem GS.trans {g h r:A6} {m n k:Nat} (a:GS g m h) (b:GS h n r) (c:m+n≤k):GS g k r:=⟨b.w.trans a.w,b.l.trans a.l,by have:=a.a;have:=b.a;omega,by have:=a.b;have:=b.b;omega⟩
theorem GB.next {g h:A6} {m n k:Nat} (a:GB g k) (s:GS g m h) (c:m+n≤k):GB h n:=⟨by rw[s.w];exact a.w,by rw[s.l];exact a.l,by have:=s.b;have:=a.n;omega⟩
theorem GB.less {g:A6} {n k:Nat} (a:GB g k) (b:n≤k):GB g n:=a.next (GS.refl g 0) (by omega)
theorem QF {g:A6} (h:GB g 1) (i:Aa):Bx (A3 g i) λr=>GS g 1 r/\r.out.length=g.out.length+1:=by have:=h.n;unfold A3;exact tC (BM (by omega)) (tR ⟨⟨rfl,rfl,by simp,by simp⟩,by simp⟩)
theorem IM {g:A6} (h:GB g 1) (i:Aa):Bx ((A3 g i).bind λv=>some v) (GS g 1):=tB (QF h i) λ_ h=>tR h.1
theorem WM {w:AB} (h:MW w) (s:ABs):TT (Bb w s):=by have a:=h.c;unfold Bb;refine tL w.Cells.length (by omega) λn i hi k=> ?_;unfold Bb.AZ Bb.L1 Bb.J1;exact tD (λ_=>tG (by omega) λx _=>tI (λ_=>tR trivial) λ_=>k (by omega)) λ_=>tR trivial
theorem nH {w:AB} (h:MW w) (s:ABs):TT (Dn w.AF s):=by have a:=h.l;unfold Dn;refine tL w.AF.length (by omega) λn i hi k=> ?_;unfold Dn.AZ Dn.L1 Dn.J1;exact tD (λ_=>tG (by omega) λx _=>tI (λ_=>tR trivial) λ_=>k (by omega)) λ_=>tR trivial
theorem zL {g:A6} (h:MW g.w) (s:ABs):Bx (CG g s) λr=>r.2=g:=by have a:=h.d;unfold CG;refine tL g.w.Ah.length (by omega) λn i hi k=> ?_;unfold CG.AZ CG.L1 CG.J1;exact tD (λ_=>tG (by omega) λx _=>tI (λ_=>tR rfl) λ_=>k (by omega)) λ_=>tR rfl
theorem fA {w:AB} (h:MW w) {s:ABs} (b:s=qS) {a:Type} {f:Int->DT->ABr a} {Q:a->Prop} (k:∀i c,Bx (f i c) Q):Bx ((Bb w s).bind λi=>(gt w.Cells i).bind (f i)) Q:=by rw[b];exact tB h.q λi hi=>tG hi λc _=>k i c
theorem wB (d:Nat):∀(n:Nat) (g:A6) (e:A7) (r:Int),d≤n->S5 d e->GB g (3^d)->Bx (Cb n g e r) (GS g (3^d)):=by
 induction d with
 |zero=>exactλn g e r _ h=>h.elim
 |succ d ih=>
  intro n g e r hn z j;obtain⟨n,rfl⟩:∃k,n=k+1:=⟨n-1,by omega⟩;have F:3^(d+1)=3*3^d:=by rw[Nat.pow_succ];omega
  have E:0<3^d:=Nat.pow_pos (by omega);show Bx (GN (Cb n) g e r) _;have up:∀{r},GS g 1 r->GS g (3^(d+1)) r:=λh=>h.trans (GS.refl _ 0) (by omega);unfold GN;rcases z with⟨f,_⟩|⟨f,_⟩|⟨f,t,a,p,q⟩|⟨f,a,b,p,q,x⟩
  . simp only[f];exact tI (λ_=>tM (IM (j.less (by omega)) _) λ_=>up) λh=>by cases h
  . simp only[f];refine tI (λh=>by cases h) λ_=>tI (λ_=>tB (NY _ _ (by have:=j.l;omega)) λ_ _=>tI (λ_=>tM (IM (j.less (by omega)) _) λ_=>up) λ_=> ?_) λh=>(by cases h);exact IX (WM j.w _) λ_=>tM (IM (j.less (by omega)) _) λ_=>up
  . simp only[f,p];refine tI (λh=>by cases h) λ_=>tI (λh=>by cases h) λ_=>tI (λ_=>tE (y:=a) rfl ?_) λh=>(by cases h);refine tB (ih n g a r (by omega) q (j.less (by omega))) λv m=> ?_;have o:GB v 1:=j.next m (by omega);exact fA o.w t λi c=>tM (IM o _) λ_ h=>m.trans h (by omega)
  . have B:e.Op≠1:=λh=>(by rw[h]at f;simp at f);have C:e.Op≠2:=λh=>(by rw[h]at f;simp at f);have D:e.Op≠3:=λh=>(by rw[h]at f;simp at f);rw[AAZ (by simpa using B),AAZ (by simpa using C),AAZ (by simpa using D),p];refine tI (λh=>by cases h) λ_=>tE (y:=a) rfl (tB (ih n g a r (by omega) q (j.less (by omega))) λv m=>tE (y:=b) rfl (tB (ih n v b _ (by omega) x (j.next m (by omega))) λu s=> ?_));exact tM (IM (j.next (m.trans s (AAv _)) (by omega)) _) λ_ h=>(m.trans s (AAv _)).trans h (by omega)
theorem Tu {g:A6} {e:A7} (a:S5 2 e) (b:GB g 9) (r:Int):Bx (Cb BU g e r) (GS g 9):=wB 2 _ g e r (MI (by omega)) a b
theorem lI {g:A6} (e:GB g 30) {k:Nat} {s:AP} (j:ID T (k+1) s) (o:s.Op=1):Bx (FW g s) (GS g 30):=by
 have f:S5 2 s.Expr:=j.2.2.1.resolve_right λh=>h.1 (by simp[o]);unfold FW;rcases j.2.1 with h|⟨_,p,a,h,n⟩
 . rw[h];refine tI (λh=>by cases h) λ_=>tB (Tu f (e.less (by omega)) _) λv d=> ?_;have b:GB v 1:=e.next d (by omega);refine tB (NY _ _ (by have:=b.l;omega)) λ_ _=>tI (λ_=>tM (IM b _) λ_ h=>d.trans h (by omega)) λ_=>IX (WM b.w _) λ_=>tM (IM b _) λ_ h=>d.trans h (by omega)
 . rw[h];refine tI (λ_=>tE (y:=a) rfl ?_) λh=>(by cases h);refine tB (Tu n (e.less (by omega)) _) λv d=>tB (Tu f (e.next d (by omega)) _) λu m=> ?_;have b:GB u 1:=e.next (d.trans m (AAv _)) (by omega);exact fA b.w p λi c=>tM (IM b _) λ_ h=>(d.trans m (AAv _)).trans h (by omega)
def cg:Nat->Nat
 |0=>0
 |d+1=>40+20*cg d
theorem GS.site {g r:A6} {n:Nat} (h:GS g n r) (a b:Int):GS g n ⟨r.w,r.locals,r.out,a,b⟩:=⟨h.w,h.l,h.a,h.b⟩
theorem GS.set {g r:A6} {n:Nat} (h:GS g n r) (i:Nat) (x:Aa) (a b:Int):GS g n ⟨r.w,r.locals,r.out.set i x,a,b⟩:=⟨h.w,h.l,by simpa using h.a,by simpa using h.b⟩
section
variable {R:A6->List AP->ABr A6} {g:A6} {s:AP} {n:Nat}
theorem lF (d:GB g (n+2)) (i:∀g,GB g n->Bx (R g s.Body) (GS g n)) (a b c:Int):Bx (C6 R g s a b c) (GS g (n+2)):=by unfold C6;refine tB (QF (d.less (by omega)) _) λv f=>tB (i v (d.next f.1 (by omega))) λu j=> ?_;have e:GS g (n+1) ⟨u.w,u.locals,u.out,g.site,u.next⟩:=(f.1.trans j (by omega)).site _ _;exact tM (IM (d.next e (by omega)) _) λ_ h=>e.trans h (by omega)
theorem bN (b:GB g (2*n+11)) (r:S5 2 s.Expr) (q:∀g,GB g n->Bx (R g s.Body) (GS g n)) (p:∀g,GB g n->Bx (R g s.Else) (GS g n)):Bx (Ch R g s) (GS g (2*n+11)):=by
 unfold Ch;refine tB (Tu r (b.less (by omega)) _) λv j=>tB (QF (b.next j (by omega)) _) λu i=> ?_;have e:GS g 10 u:=j.trans i.1 (by omega);refine tB (q u (b.next e (by omega))) λx k=> ?_;have f:GS g (n+10) x:=e.trans k (by omega);have t:=i.2;have w:=k.a;have d:=f.site g.site x.next;refine tI (λ_=>tB (QF (b.next d (by omega)) _) λy c=>tG ?_ λ_ _=>tR ?_) λ_=>tI (λ_=>tG ?_ λ_ _=>tR ?_) λ_=>tB (QF (b.next d (by omega)) _) λy c=>tG ?_ λ_ _=> ?_
 . have:=c.2;simp only at this;omega
 . exact((d.trans c.1 (AAv _)).set _ _ _ _).trans (GS.refl _ 0) (by omega)
 . omega
 . exact(f.set _ _ _ _).trans (GS.refl _ 0) (by omega)
 . have:=c.2;simp only at this;omega
 . have h:=(d.trans c.1 (AAv _)).set v.out.length (Aa.mk (‹Aa›).Op (‹Aa›).A (y.out.length:Int) (‹Aa›).C (‹Aa›).N (‹Aa›).Site) y.site y.next;refine tB (p _ (b.next h (by omega))) λz l=>tG ?_ λ_ _=>tR (((h.trans l (AAv _)).set _ _ _ _).trans (GS.refl _ 0) (by omega));have m:=c.2;have o:=l.a;simp only[List.length_set]at m o;omega
variable {R1:A6->AP->ABr A6} {R2:A6->AP->Int->Int->Int->ABr A6}
theorem tO (hn:30≤n) (j:GB g n) {k:Nat} (o:ID T (k+1) s) (u:S5 2 s.Expr->∀g,GB g n->Bx (R1 g s) (GS g n)) (x:∀g a b c,GB g n->Bx (R2 g s a b c) (GS g n)):Bx (CR R1 R2 g s) (GS g n):=by
  have D:=j.l;have C:=j.w.f;have E:=j.w.t;have d:GB (A6.mk g.w g.locals g.out g.next (Ay (g.next+1))) n:=j.next ((GS.refl g 0).site _ _) (by omega);have up:∀{r},GS (A6.mk g.w g.locals g.out g.next (Ay (g.next+1))) n r->GS g n r:=λh=>⟨h.w,h.l,h.a,h.b⟩;have e:∀{m r},m≤n->GS (A6.mk g.w g.locals g.out g.next (Ay (g.next+1))) m r->GS g n r:=λz h=>up (h.trans (GS.refl _ 0) z);have A:∀a b c,Bx ((R2 (A6.mk g.w g.locals g.out g.next (Ay (g.next+1))) s a b c).bind λv=>some v) (GS g n):=λa b c=>tB (x _ a b c d) λ_ h=>tR (up h);have P:∀i,Bx ((A3 (A6.mk g.w g.locals g.out g.next (Ay (g.next+1))) i).bind λv=>some v) (GS g n):=λi=>tM (IM (d.less (by omega)) i) λ_ h=>e (by omega) h;have j1:∀b,(b=true->s.Op∈[(2:Int),3])->Bx (CR.J1 R1 R2 g s b) (GS g n):=by
    intro b y;unfold CR.J1;refine tI (λh=>tB (u (o.2.2.1.resolve_right λq=>q.1 ?_) _ d) λ_ h=>tR (up h)) λ_=> ?_
    . have:=y h;simp at this ⊢;omega
    repeat' first
      |exact A _ _ _
      |exact P _
      |exact tR (up (GS.refl _ _))
      |refine tI (λB=>tB (Tu (o.2.2.1.resolve_right λq=>q.1 (by have:=eq_of_beq B;simp[this])) (d.less (by omega)) _) λv p=>tB (NY _ _ (by rw[p.w];simp only;omega)) λ_ _=>tM (IM (d.next p (by omega)) _) λ_ h=>e (by omega) (p.trans h (AAv _))) λ_=> ?_
      |refine tI (λ_=> ?_) λ_=> ?_
      |refine IX (nH j.w _) λ_=> ?_
      | (refine tB (zL d.w _) ?_
         rintro⟨i,w⟩ rfl)
      |refine tB (NY _ _ (by omega)) λ_ _=> ?_
  unfold CR;refine tI (λh=>tB (lI (d.less (by omega)) o (eq_of_beq h)) λ_ h=>tR (e (by omega) h)) λ_=>tI (λh=>j1 _ λ_=> ?_) λ_=>j1 _ λh=> ?_
  . simp[eq_of_beq h]
  . simp[eq_of_beq h]
end
theorem W8 (d:Nat):∀(n:Nat) (g:A6) (l:List AP),3*d+1≤n->GB g (10*cg d)->S6 T d l->Bx (DM n g l) (GS g (10*cg d)):=by
 induction d with
 |zero=>intro n g l hn e ⟨_,h⟩;obtain⟨n,rfl⟩:∃k,n=k+1:=⟨n-1,by omega⟩;have:l=[]:=ABE.2 λx f=>(h x f).elim;subst this;show Bx (B0 (OR n) g []) _;exact tR (GS.refl _ _)
 |succ d ih=>
  intro n g l hn e ⟨h1,h2⟩;obtain⟨n,rfl⟩:∃k,n=k+3:=⟨n-3,by omega⟩;show Bx (B0 (CR (Ch (DM n)) (C6 (DM n))) g l) _;have w:cg (d+1)=40+20*cg d:=rfl;unfold B0;refine Pr l.length (λi s=>GS g (i*cg (d+1)) s) (F:=λm s i=>B0.AZ _ l m s i) (by omega) (GS.refl _ _) λm i s hi j k=> ?_;have y:i*cg (d+1)≤10*cg (d+1):=ABF _ (by omega);unfold B0.AZ B0.L1;refine tD (λt=>tG (by omega) λx f=> ?_) λ_=>tR (j.trans (GS.refl _ 0) (by omega));have u:(i+1)*cg (d+1)≤10*cg (d+1):=ABF _ (by omega);have p:(i+1)*cg (d+1)=i*cg (d+1)+cg (d+1):=ABk _ _;have o:∀g,GB g (10*cg d)->Bx (DM n g x.Body) (GS g (10*cg d)):=λg e=>ih n g _ (by omega) e (h2 x f).body;have q:∀g,GB g (10*cg d)->Bx (DM n g x.Else) (GS g (10*cg d)):=λg e=>ih n g _ (by omega) e (h2 x f).els;refine tB (tO (n:=cg (d+1)) (by omega) (e.next j (by omega)) (h2 x f) (λp g e=> ?_) λg a b c e=> ?_) λv r=>k _ (by omega) (j.trans r (by omega))
  . exact tM (bN (n:=10*cg d) (e.less (by omega)) p o q) λ_ h=>h.trans (GS.refl _ 0) (by omega)
  . exact tM (lF (n:=10*cg d) (e.less (by omega)) o a b c) λ_ h=>h.trans (GS.refl _ 0) (by omega)
def rg (i:Aa):List Int:=(AW i).getD []
theorem GZ (i:Aa):AW i=some (rg i)/\(rg i).length≤3:=by
 have key:Bx (AW i) λr=>r.length≤3:=by
  unfold AW AW.J1 AW.J2 AW.J3
  repeat' first|exact tR (by simp)|refine tI (λ_=> ?_) λ_=> ?_
 obtain⟨r,a,b⟩:=key;unfold rg;rw[a];exact⟨rfl,b⟩
structure CK (c:BL):Prop where
 n:c.AA.length≤4
 i:∀t∈c.AA,t.Bg.length≤8000000
theorem fH {p:AQ} (h:MP p):Bx (As p) λr=>CK r.1:=by
 have a:=h.t;have L:cg 4=336840:=rfl;unfold As;obtain⟨v,c,_⟩:=Zg h;refine tE c (tI (λ_=>tR ⟨by simp,by simp⟩) λf=>tB (ZW h ⟨v.2,?_⟩) λw H=> ?_)
 . rw[c];have:v.1=0:=(by simpa using f);rw[← this]
 refine Pr p.AA.length (λi (s:BL×Int)=>s.1.World=w/\s.1.AA.length=i/\∀t∈s.1.AA,t.Bg.length≤8000000) (F:=λn s i=>As.AZ p n s.1 s.2 i) (s0:=(_,_)) (by omega) ⟨rfl,rfl,by simp⟩ λn i s hi E k=> ?_;obtain⟨j,N,o⟩:=E;unfold As.AZ As.L1 As.J4;refine tD (λ_=>tG (by omega) λx g=> ?_) λ_=>tR ⟨by simp only;omega,o⟩;have C:=h.l x g;have g0:GB (A6.mk s.1.World x.GG [] 0 s.2) 4000000:=⟨by rw[j];exact H,C,by simp⟩;refine tB (W8 4 _ _ _ (MI (by omega)) (g0.less (by omega)) (h.b x g)) λv c=> ?_;refine tB (QF (g0.next (c.site (-1) v.next) (by omega)) _) λu G=> ?_;have e:=G.2;have B:=c.b;simp only[ABM]at e B;refine Pr u.out.length (λ_ (t:Av)=>t.Bg=u.out) (F:=λn t k=>As.Cf _ _ _ _ _ n t k) (by omega) rfl λm q t D a I=> ?_;unfold As.Cf As.L2 As.J2 As.J3;refine tD (λ_=>tG (by omega) λy _=> ?_) λ_=>tC (BM (by omega)) (k (_,_) (by omega) ⟨j,by simp;omega,?_⟩)
 . obtain⟨K,M⟩:=GZ y;refine tE K (Pr (rg y).length (λ_ (t:Av)=>t.Bg=u.out) (F:=λn t k=>As.Hz _ _ _ n t k) (by omega) a λm q t D a J=> ?_);unfold As.Hz As.L3 As.J1;exact tD (λ_=>tG (by omega) λ_ _=>J _ (by omega) a) λ_=>I _ (by omega) a
 . intro z d;rcases AAh.1 d with d|d
   . exact o z d
   . rw[AAj.1 d,a];omega
end
end Go.Abs
