/- What the typed programs give, in plain Lean. -/
import Derived.Test.YtdadohkcmclilaaGreatDoorPlainA
import Derived.Shelf.Slices.SearchI
set_option linter.unusedSimpArgs false
set_option linter.unusedVariables false
namespace Go.Abs
set_option maxHeartbeats 4000000
theorem RB.Ki {N M:Nat} {s:AQ} (h:RB N s) (b:N≤M) (i:Int) (f:AX->AX) (c:(f (Abs.ix s.AG i)).Aj.length≤M):RB M (Abs.Ki s i f):=by
 intro x a;rcases AAm a with a|rfl
 . exact ABF (h x a) b
 . exact c
theorem RB.apply {N:Nat} {s:AQ} (h:RB N s) (wv:AD) (t k o wake:Int):RB (N+1) (EA wv s t k o wake).1:=by
 have c:RB (N+1) s:=h.mono (by omega);have hi:=λi=>Nat.le_succ_of_le (h.ix i);have key:∀(p:Prop) [Decidable p] (a b:AQ×Int),RB (N+1) a.1->RB (N+1) b.1->RB (N+1) (if p then a else b).1:=by intro p _ a b e f;split<;>assumption
 unfold EA
 repeat' refine key _ _ _ ?_ ?_
 all_goals first
  |exact c
  |exact h.Ki (by omega) _ _ (hi _)
  | (refine h.Ki (by omega) _ _ ?_;have:=aJ ((Abs.ix s.AG o).Aj++[t]);have:=h.ix o;simp at *;omega)
  | (refine h.Ki (by omega) _ _ (ABF (List.length_filter_le _ _) (hi _)))
  |exact h.Ki (by omega) (Abs.ix wv.Af o).Mutex (λx=>⟨-1,x.Aj⟩) (hi _)
  |exact h.Ki (by omega) (Abs.ix wv.Af o).Mutex (λx=>⟨t,x.Aj⟩) (hi _)
  | (by_cases d:CD o 0 s.AA=[]<;>simp only[d,AAo,AAY]<;>exact c)
theorem RB.start (wv:AD):RB 0 (Jh wv):=by
 intro x a
 have:=ABO a;subst this;simp
def dW (e:AK):Bool:=e.Kind==3||e.Kind==23
def Jj (l:List AK) (t:Int):List Bool:=(l.filter λe=>e.Thread==t).map dW
def KF (reads:List Bool) (k:Int):Bool:=ED k reads.length&&ix reads k
def O6 (pre:List AK) (ev:AK):Bool:=ev.EI.all (KF (Jj pre ev.Thread))&&ev.Dr.all (KF (Jj pre ev.Thread))
theorem cA.L2 (L1:Int->ABh Bool) (l:List Int) (reads:List Bool) (t:Int) (c:l.length<4611686018427387904):∀(n i:Nat),i≤l.length->l.length<n+i->Am.DI L1 l reads t n (i:Int)=if(l.drop i).all (KF reads)=true then Am.J3 L1 t else some false
 |0,i,h1,h2=>by omega
 |n+1,i,h1,h2=>by
  unfold Am.DI Am.L2;by_cases hi:i<l.length
  . unfold Am.J2;rw[A2 (by omega),B8 hi,AAF,Ej hi,Ai (by omega),cA.L2 L1 l reads t c n (i+1) (by omega) (by omega),AA6];generalize l[i]=x;generalize (l.drop (i+1)).all (KF reads)=q;unfold KF;by_cases a:x<0
    . have:ED x reads.length=false:=(by simp[ED];omega);simp[a,this]
    . by_cases b:x≥(reads.length:Int)
      . have:ED x reads.length=false:=(by simp[ED];omega);simp[a,b,this]
      . have h:ED x reads.length=true:=(by simp[ED];omega);rw[Ad a,Ad b,Cd h,AAF,h];cases ix reads x<;>simp
  . rw[Ad (by omega),Fe hi];simp
theorem cB (reads:List Bool) (ev:AK) (b:OO ev):Am reads ev=some (ev.EI.all (KF reads)&&ev.Dr.all (KF reads)):=by
 unfold Am;have f:=Bn;have a:∀L1 t l,l.length<4611686018427387904->Am.J1 L1 reads t l=if l.all (KF reads)=true then Am.J3 L1 t else some false:=by
  intro L1 t l c
  have:=cA.L2 L1 l reads t c Bg 0 (by omega) (by omega);rw[AAe]at this;exact this
 rw[V5];generalize Bg-3=m;have e:Am.AZ ev reads (m+1) 2=some true:=by unfold Am.AZ Am.L1;rfl
 have d:Am.AZ ev reads (m+2) 1=some (ev.Dr.all (KF reads)):=by unfold Am.AZ Am.L1;rw[A2 (by decide),AAO (by decide),AAP (by decide),a _ _ _ b.2];unfold Am.J3;rw[show Aq (1+1)=2 from rfl,e];cases ev.Dr.all (KF reads)<;>rfl
 unfold Am.AZ Am.L1;rw[A2 (by decide),AAP (by decide),a _ _ _ b.1];unfold Am.J3;rw[show Aq (0+1)=1 from rfl,d];cases ev.EI.all (KF reads)<;>simp
def Xz (x t:Int):Int->List AK->Bool
 |_,[]=>false
 |nv,e::r=>if e.Thread=t then(nv==x&&dW e)||Xz x t (nv+1) r else Xz x t nv r
theorem rdB_cons (e:AK) (r:List AK) (t:Int):Jj (e::r) t=if e.Thread=t then dW e::Jj r t else Jj r t:=by unfold Jj;by_cases h:e.Thread=t<;>simp[h]
theorem scan_eq (x t:Int) (l:List AK):∀a:Int,Xz x t a l=KF (Jj l t) (x-a):=by
 induction l with
 |nil=>intro a;simp[Xz,KF,Jj,ED];omega
 |cons e r ih=>
  intro a;unfold Xz;rw[rdB_cons];by_cases h:e.Thread=t
  . rw[AAP h,AAP h,ih];unfold KF;by_cases c:x=a
    . subst c;have b:ED (x-x) (dW e::Jj r t).length=true:=(by rw[Bh];simp only[AAx];omega);have f:ix (dW e::Jj r t) (x-x)=dW e:=(by simp[ix]);have g:ED (x-(x+1)) (Jj r t).length=false:=by
       cases hq:ED (x-(x+1)) (Jj r t).length with
       |false=>rfl
       |true=>have:=Bh.1 hq;omega
      rw[b,f,g];simp
    . have d:(a==x)=false:=(by simpa usingλh=>c h.symm);have b:ED (x-a) (dW e::Jj r t).length=ED (x-(a+1)) (Jj r t).length:=(by rw[Bool.eq_iff_iff,Bh,Bh];simp;omega);rw[d,b];cases hb:ED (x-(a+1)) (Jj r t).length with
      |false=>simp
      |true=>obtain⟨i,j⟩:=Bh.1 hb;have:ix (dW e::Jj r t) (x-a)=ix (Jj r t) (x-(a+1)):=(by unfold ix;rw[show(x-a).toNat=(x-(a+1)).toNat+1 from by omega,AA2]);rw[this];simp
  . rw[AAO h,AAO h,ih]
theorem reads.L2 (L1:Int->ABh Bool) (i:Nat) (k:Int) (l:List AK) (a:List Int) (t x:Int) (hi:i≤l.length) (hi':i≤1000000) (f:gt a k=some x):∀(n j b:Nat) (ok:Bool),j≤i->i<n+j->b≤j->
 DX.DI L1 (i:Int) k l a t n (b:Int) ok (j:Int)=DX.J3 L1 k (ok||Xz x t b ((l.take i).drop j))
 |0,j,b,ok,h1,h2,h3=>by omega
 |n+1,j,b,ok,h1,h2,h3=>by
  unfold DX.DI DX.L2;by_cases o:j<i
  . have m:j<(l.take i).length:=(by simp;omega);have g:=λ(d:Nat) ok' h=>reads.L2 L1 i k l a t x hi hi' f n (j+1) d ok' (by omega) (by omega) h;unfold DX.J1 DX.J2;rw[A2 (by omega),B8 (by omega),AAF,Ej m,Ai (i:=j) (by omega),Ai (i:=b) (by omega),f,AAF,Xz];simp only[List.getElem_take,g (b+1) _ (by omega),g b _ (by omega),show((b:Int)+1)=((b+1:Nat):Int)from rfl];unfold dW;by_cases c:l[j].Thread=t
    . have e:(l[j].Thread != t)=false:=(by simp[c]);rw[e,AAP c];cases ok<;>cases(((b:Int)==x))<;>cases(l[j].Kind==3)<;>simp
    . have e:(l[j].Thread != t)=true:=(by simpa using c);rw[e,AAO c];rfl
  . rw[Ad (by omega),List.drop_eq_nil_of_le (by simp;omega)];simp[Xz]
theorem reads_loop (i:Nat) (l:List AK) (a:List Int) (t:Int) (hi:i≤l.length) (hi':i≤1000000) (c:a.length<4611686018427387904):∀(n k:Nat),k≤a.length->a.length<n+k->
 DX.AZ (i:Int) l a t n (k:Int)=some ((a.drop k).all (KF (Jj (l.take i) t)))
 |0,k,h1,h2=>by omega
 |n+1,k,h1,h2=>by
  unfold DX.AZ DX.L1;by_cases b:k<a.length
  . have:=reads.L2 (DX.AZ (i:Int) l a t n) i (k:Int) l a t a[k] hi hi' (B8 b) Bg 0 0 false (by omega) (by have:=Bn;omega) (by omega);rw[AAe,scan_eq]at this;simp only[Int.natCast_zero,Int.sub_zero,Bool.false_or]at this;rw[A2 (by omega),this,Ej b,AA6];unfold DX.J3 DX.J4;rw[Ai (by omega),reads_loop i l a t hi hi' c n (k+1) (by omega) (by omega)];cases KF (Jj (l.take i) t) a[k]<;>simp
  . rw[Ad (by omega),Fe b];rfl
theorem reads_eq (i:Nat) (l:List AK) (a:List Int) (t:Int) (hi:i≤l.length) (hi':i≤1000000) (b:a.length<4611686018427387904):DX l (i:Int) t a=some (a.all (KF (Jj (l.take i) t))):=by have:=reads_loop i l a t hi hi' b Bg 0 (by omega) (by have:=Bn;omega);rw[AAe]at this;exact this
def GM (wv:AD):List AK->AB->List AK->Int×Int
 |_,_,[]=>(0,0)
 |pre,s,x::r=>if(JL wv s x&&O6 pre x)=true then GM wv (pre++[x]) (Fu wv s x) r else((pre.length:Int),12)
def Iy (t:BN):Int×Int:=if t.AE.length>400 then(0,2)else if Ct t.World=true then GM t.World [] (Ft t.World) t.AE else(0,1)
theorem Kx {wv:AD} {s:AB} {x:AK} (h:JL wv s x=true):ED x.Thread wv.AA.length=true:=by unfold JL at h;simp only[AAH]at h;exact h.2.1
theorem LQ (l:List AK) (x:AK) (t:Int):Jj (l++[x]) t=if x.Thread=t then Jj l t++[dW x]else Jj l t:=by unfold Jj;rw[List.filter_append,AAv];by_cases h:x.Thread=t<;>simp[h]
theorem KA (l:List AK) (t:Int):(Jj l t).length≤l.length:=by unfold Jj;rw[AAn];exact List.length_filter_le _ _
theorem Vo (t:BN) (l:Small t.World) (g:∀e∈t.AE,OO e) (p:t.AE.length≤400):∀(n i:Nat) (s:AB) (R:List (List Bool)),i≤t.AE.length->t.AE.length<n+i->RB i s.Sync->R.length=t.World.AA.length->(∀u:Nat,u<R.length->R[u]? =some (Jj (t.AE.take i) (u:Int)))->
 CJ.AZ t n s R (i:Int)=some (GM t.World (t.AE.take i) s (t.AE.drop i))
 |0,i,s,R,h1,h2,_,_,_=>by omega
 |n+1,i,s,R,h1,h2,h3,h4,h5=>by
  unfold CJ.AZ CJ.L1;by_cases hi:i<t.AE.length
  . have j:=g _ (AAW hi);rw[A2 (by omega),B8 hi,AAF,Zb t.World l s (h3.mono (by omega)) _ j,AAF,Ej hi,GM,List.length_take_of_le (by omega)];unfold Ud;cases hp:JL t.World s t.AE[i]with
    |false=>rfl
    |true=>
     rw[AAP rfl,AAO (c:=(!true)=true) (by simp),AAd];have q:=Kx hp;obtain⟨m,w⟩:=Bh.1 q;have r:t.AE[i].Thread.toNat<R.length:=(by omega);have h:gt R t.AE[i].Thread=some (Jj (t.AE.take i) t.AE[i].Thread):=(by unfold gt;rw[AAP m,h5 _ r];congr 2;omega);have o:=KA (t.AE.take i) t.AE[i].Thread;rw[List.length_take_of_le (by omega)]at o;rw[h,AAF,cB _ _ j,AAF];unfold CJ.J1;show(if(!(O6 (t.AE.take i) t.AE[i]))=true then _ else _)=_
     cases O6 (t.AE.take i) t.AE[i]with
     |false=>rfl
     |true=>
      rw[AAO (c:=(!true)=true) (by simp),AAP rfl,h,AAF,BO (by omega),BO (by omega)];unfold CJ.J2;have k:∀b,b=dW t.AE[i]->CJ.AZ t n (Fu t.World s t.AE[i]) (R.set t.AE[i].Thread.toNat (Jj (t.AE.take i) t.AE[i].Thread++[b])) (Aq ((i:Int)+1))=some (GM t.World (t.AE.take i++[t.AE[i]]) (Fu t.World s t.AE[i]) (t.AE.drop (i+1))):=by
       rintro b rfl;rw[Ai (by omega),AAX hi];refine Vo t l g p n (i+1) _ _ (by omega) (by omega) ?_ (by simpa using h4) ?_
       . exact h3.apply _ _ _ _ _
       . intro u v;rw[← AAX hi,LQ];have a:u<R.length:=(by simpa using v);by_cases d:t.AE[i].Thread=(u:Int)
         . have:t.AE[i].Thread.toNat=u:=(by omega);rw[AAP d,this,AAK a,d]
         . have:t.AE[i].Thread.toNat≠u:=(by omega);rw[AAO d,AAM this,h5 u a]
      by_cases f:t.AE[i].Kind=3
      . rw[AAP (by simp[f])];exact k _ (by simp[dW,f])
      . rw[AAO (by simpa using f)];exact k _ (by simp[dW,show(t.AE[i].Kind==3)=false by simpa using f])
  . rw[Ad (by omega),Fe hi];rfl
theorem Check_eq (t:BN) (f:∀e∈t.AE,OO e):CJ t=some (Iy t):=by
 unfold CJ Iy;by_cases b:t.AE.length>400
 . rw[A2 (by omega),AAP b]
 . rw[Ad (by omega),AAO b,QO,AAF];cases hv:Ct t.World with
   |false=>rfl
   |true=>
    have a:=DB hv;have g:=a.t;rw[AAO (c:=(!true)=true) (by simp),Me _ a,AAF,AAP ⟨by omega,by omega,B9 (by omega)⟩,AAP rfl]
    have:=Vo t a f (by omega) Bg 0 (Ft t.World) (List.replicate t.World.AA.length []) (by omega) (by have:=Bn;omega) (RB.start _) (by simp) (by intro u d;simp at d;simp[d,Jj]);rw[List.take_zero,AAe]at this;exact this
theorem uO (t:BN) (d:Small t.World) (b:∀e∈t.AE,OO e) (f:t.AE.length≤400):∀(n i:Nat) (s:AB),i≤t.AE.length->t.AE.length<n+i->RB i s.Sync->
 Gt.AZ t n s (i:Int)=some (GM t.World (t.AE.take i) s (t.AE.drop i))
 |0,i,s,h1,h2,_=>by omega
 |n+1,i,s,h1,h2,h3=>by
  unfold Gt.AZ Gt.L1;by_cases hi:i<t.AE.length
  . have a:=b _ (AAW hi);rw[A2 (by omega),B8 hi,AAF,rStep_eq t.World d s (h3.mono (by omega)) _ a,AAF,Ej hi,GM,List.length_take_of_le (by omega)];unfold Ud;cases hp:JL t.World s t.AE[i]with
    |false=>rfl
    |true=>
     rw[AAP rfl,AAO (c:=(!true)=true) (by simp),AAd,reads_eq i _ _ _ (by omega) (by omega) a.1,AAF,reads_eq i _ _ _ (by omega) (by omega) a.2,AAF];unfold O6;cases t.AE[i].EI.all (KF (Jj (t.AE.take i) t.AE[i].Thread))with
     |false=>rfl
     |true=>
      cases t.AE[i].Dr.all (KF (Jj (t.AE.take i) t.AE[i].Thread))with
      |false=>rfl
      |true=>rw[AAO (c:=(!true)=true) (by simp),AAd,AAP rfl];unfold Gt.J1;rw[AAO (c:=(!true)=true) (by simp),Ai (by omega),AAX hi];exact uO t d b f n (i+1) _ (by omega) (by omega) (h3.apply _ _ _ _ _)
  . rw[Ad (by omega),Fe hi];rfl
theorem rCheck_eq (t:BN) (d:∀e∈t.AE,OO e):Gt t=some (Iy t):=by
 unfold Gt Iy;by_cases a:t.AE.length>400
 . rw[A2 (by omega),AAP a]
 . rw[Ad (by omega),AAO a,LP,AAF];cases hv:Ct t.World with
   |false=>rfl
   |true=>
    have b:=DB hv;rw[AAO (c:=(!true)=true) (by simp),eR _ b,AAF,AAP rfl]
    have:=uO t b d (by omega) Bg 0 (Ft t.World) (by omega) (by have:=Bn;omega) (RB.start _);rw[List.take_zero,AAe]at this;exact this
theorem MN {b:Type} [Inhabited b] {l:List b} {i j:Int} {a:b} (hi:ED i l.length=true) (c:ED j l.length=true):ix (l.set i.toNat a) j=if j=i then a else ix l j:=by
 have hi:=Bh.1 hi;have c:=Bh.1 c;unfold ix;by_cases e:j=i
 . subst e;rw[AAP rfl,AAK (by omega)];rfl
 . rw[AAO e,AAM (by omega)]
theorem ix_map {a c:Type} [Inhabited a] [Inhabited c] {l:List a} {j:Int} {f:a->c} (b:ED j l.length=true):ix (l.map f) j=f (ix l j):=by
 have b:=Bh.1 b;have:j.toNat<l.length:=by omega
 unfold ix;rw[AAR,AAL this];rfl
structure TI (wv:AD) (B:Int->Prop) (L:List AX) (u:Int) (x:AF):Prop where
 s:0≤x.Status/\x.Status≤5
 b:B u↔2≤x.Status
 z:u=0->x.Status≠0
 c:x.Status=3∨x.Status=4->ED x.DC wv.Af.length=true/\(ix L (ix wv.Af x.DC).Mutex).CS≠u
 n:x.Status≠3->x.Status≠4->x.DC=0
 a:x.Atomic=true->2≤x.Status
structure LI (wv:AD) (B:Int->Prop) (i:Int) (x:AX):Prop where
 o:x.CS≠ -1->B x.CS
 w:x.Aj≠[]->(ix wv.AG i).RW=true/\x.CS= -1
 p:x.Aj.Pairwise (· < ·)
 r:∀y∈x.Aj,B y
structure YI (wv:AD) (B:Int->Prop) (s:AQ):Prop where
 t:∀u,ED u wv.AA.length=true->TI wv B s.AG u (ix s.AA u)
 l:∀i,ED i wv.AG.length=true->LI wv B i (ix s.AG i)
 x:s.Tx≠ -1->B s.Tx
 b:∀u,B u->ED u wv.AA.length=true
section
variable {wv:AD} {B:Int->Prop} {s:AQ}
theorem YI.K2 (h:YI wv B s) (hn:s.AA.length=wv.AA.length) {d:Int} {f:AF->AF} (hd:ED d wv.AA.length=true) (c:TI wv B s.AG d (f (ix s.AA d))):YI wv B (K2 s d f):=by
 refine⟨λu a=> ?_,h.l,h.x,h.b⟩;show TI wv B s.AG u (ix (s.AA.set d.toNat (f (ix s.AA d))) u);rw[MN (by rw[hn];exact hd) (by rw[hn];exact a)];by_cases e:u=d
 . rw[AAP e,e];exact c
 . rw[AAO e];exact h.t u a
theorem YI.Ki (h:YI wv B s) (r:∀o,ED o wv.Af.length=true->ED (ix wv.Af o).Mutex wv.AG.length=true) (hn:s.AG.length=wv.AG.length) {i:Int} {f:AX->AX} (hi:ED i wv.AG.length=true) (v:LI wv B i (f (ix s.AG i)))
 (k:(f (ix s.AG i)).CS= -1∨(f (ix s.AG i)).CS=(ix s.AG i).CS∨ED (f (ix s.AG i)).CS wv.AA.length=true/\(ix s.AA (f (ix s.AG i)).CS).Status=2):YI wv B (Ki s i f):=by
 refine⟨λu m=> ?_,λj p=> ?_,h.x,h.b⟩
 . have g:=h.t u m;refine⟨g.s,g.b,g.z,λd=>⟨(g.c d).1,?_⟩,g.n,g.a⟩;have d:(ix s.AA u).Status=3∨(ix s.AA u).Status=4:=d;have w:=r _ (g.c d).1;show(ix (s.AG.set i.toNat (f (ix s.AG i))) (ix wv.Af (ix s.AA u).DC).Mutex).CS≠u;rw[MN (by rw[hn];exact hi) (by rw[hn];exact w)];by_cases e:(ix wv.Af (ix s.AA u).DC).Mutex=i
   . rw[AAP e];have m:=Bh.1 m;rcases k with k|k|k
     . omega
     . rw[k,← e];exact(g.c d).2
     . intro q;rw[q]at k;omega
   . rw[AAO e];exact(g.c d).2
 . show LI wv B j (ix (s.AG.set i.toNat (f (ix s.AG i))) j);rw[MN (by rw[hn];exact hi) (by rw[hn];exact p)];by_cases e:j=i
   . rw[AAP e,e];exact v
   . rw[AAO e];exact h.l j p
theorem YI.congr {a:Int->Prop} (h:YI wv B s) (b:∀u,a u↔B u):YI wv a s:=by have:a=B:=funext λu=>propext (b u);rw[this];exact h
end
theorem aM (l:List Int):(Uc l).Pairwise (· < ·):=by exact NY l
theorem kQ {wv:AD} {s:AQ} (h:HD wv s=true) (t k o wake:Int):HD wv (EA wv s t k o wake).1=true:=by
  have e:wv.Af.all (λc=>ED c.Mutex wv.AG.length)=true:=by unfold HD at h;simp only[AAH]at h;exact h.1
  have key:∀(p:Prop) [Decidable p] (a b:AQ×Int),HD wv a.1=true->HD wv b.1=true->HD wv (if p then a else b).1=true:=by intro p _ a b j l;split<;>assumption
  obtain⟨f,g,i⟩:=Em h;unfold EA
  repeat' refine key _ _ _ ?_ ?_
  all_goals first
    |exact h
    | (simp[HD,K2,Ki,e,f,g,i];done)
    | (by_cases d:CD o 0 s.AA=[]
       . simp only[d,AAo];exact h
       . simp[d,HD,K2,e,f,g,i])
theorem mutex_of {wv:AD} {s:AQ} (h:HD wv s=true):∀o,ED o wv.Af.length=true->ED (ix wv.Af o).Mutex wv.AG.length=true:=λ_ a=>HH h a
theorem waits_in {wv:AD} {s:AQ} (hn:s.AA.length=wv.AA.length) {o u:Int} (h:u∈CD o 0 s.AA):ED u wv.AA.length=true/\(ix s.AA u).Status=3:=by
 have key:∀(T:List AF) (i:Nat) (u:Int),u∈CD o i T->∃x,T[(u-i).toNat]? =some x/\x.Status=3:=by
  intro T;induction T with
  |nil=>intro i u h;cases h
  |cons x r ih=>
   intro i u h;unfold CD at h;have key:u∈CD o (i+1) r->∃y,(x::r)[(u-i).toNat]? =some y/\y.Status=3:=(by intro h;have e:=(II o r (i+1) u h).1;obtain⟨y,y1,y2⟩:=ih (i+1) u h;refine⟨y,?_,y2⟩;rw[show(u-(i:Int)).toNat=(u-((i+1:Nat):Int)).toNat+1 from by omega,AA2];exact y1);split at h
   . rename_i a;rcases AAg.1 h with rfl|h
     . refine⟨x,by simp,?_⟩;unfold Ih at a;simp only[AAH]at a;exact eq_of_beq a.1
     . exact key h
   . exact key h
 obtain⟨x,b,d⟩:=key _ _ _ h;have c:=II o s.AA 0 u h;have b:s.AA[u.toNat]? =some x:=by simpa using b
 refine⟨Bh.2 (by simp at c;omega),?_⟩;unfold ix;rw[b];exact d
theorem qU {wake:Int} {W:List Int} (h:W≠[]):D6 wake W∈W:=by
 unfold D6;rw[AAO h];split
 . rename_i h;simpa using h
 . cases W with
   |nil=>exact absurd rfl h
   |cons a r=>simp
theorem YI.apply {wv:AD} {B:Int->Prop} {s:AQ} {t k o wake:Int} (hq:∀o,ED o wv.Af.length=true->(ix wv.AG (ix wv.Af o).Mutex).RW=false) (h:YI wv B s) (he:Da wv s t k o=true):YI wv (λu=>B u∨u=t) (EA wv s t k o wake).1:=by
 unfold Da at he;simp only[AAH]at he;obtain⟨hf,m,g,j⟩:=he;obtain⟨M,l2,v⟩:=Em hf;have I:=mutex_of hf;have T:=h.t t m;unfold EA;by_cases Q:k=1
 . rw[AAP Q];have hs:(ix s.AA t).Status=1:=(by simpa[Kh,Q]using j);have up:∀{u},B u->B u∨u=t:=.inl;refine⟨λu J=> ?_,λi hi=> ?_,λhx=>up (h.x hx),λu J=>J.elim (h.b u) λe=>e▸m⟩
   . show TI wv _ s.AG u (ix (s.AA.set t.toNat _) u);rw[MN (by rw[v];exact m) (by rw[v];exact J)];have U:=h.t u J;by_cases e:u=t
     . rw[AAP e];exact⟨by simp,by simp[e],by simp,by simp,λ_ _=>T.n (by omega) (by omega),by simp⟩
     . rw[AAO e];exact⟨U.s,by simp[e,U.b],U.z,U.c,U.n,U.a⟩
   . have L:=h.l i hi;exact⟨λh=>up (L.o h),L.w,L.p,λy q=>up (L.r y q)⟩
 rw[AAO Q];have N:k≠17->(ix s.AA t).Status=2:=by intro C;unfold Kh at j;simp only[AAO Q,AAO C,AAH]at j;exact eq_of_beq j.1
 have h4:k=17->(ix s.AA t).Status=4/\(ix s.AA t).DC=o:=by intro C;unfold Kh at j;simp only[AAO Q,AAP C,AAH]at j;exact⟨eq_of_beq j.1,eq_of_beq j.2.1⟩
 have G:B t:=T.b.2 (by
  by_cases C:k=17
  . have:=h4 C;omega
  . have:=N C;omega)
 refine YI.congr (B:=B) ?_ λu=>⟨λh=>h.elim id λe=>e▸G,.inl⟩;have own:∀{i},ED i wv.AG.length=true->(ix s.AG i).Aj=[]->k≠17->YI wv B (Abs.Ki s i λx=>⟨t,x.Aj⟩):=λhi RZ C=>
  h.Ki I M hi ⟨λ_=>G,λh=>absurd RZ h,(h.l _ hi).p,(h.l _ hi).r⟩ (.inr (.inr ⟨m,N C⟩))
 have off:∀{i},ED i wv.AG.length=true->YI wv B (Abs.Ki s i λx=>⟨-1,x.Aj⟩):=λhi=>
  h.Ki I M hi ⟨λh=>absurd rfl h,λP=>⟨((h.l _ hi).w P).1,rfl⟩,(h.l _ hi).p,(h.l _ hi).r⟩ (.inl rfl)
 by_cases k2:k=2
 . rw[AAP k2];have N:=N (by omega);dsimp only;apply h.K2 v m;exact⟨by simp,by simp[G],by simp,by simp,λ_ _=>T.n (by omega) (by omega),by simp⟩
 rw[AAO k2];by_cases X:k=6∨k=10
 . rw[AAP X];have hi:ED o wv.AG.length=true:=(by rcases X with rfl|rfl<;>simp[Cm]at g<;>exact g.1);refine own hi ?_ (by omega);rcases X with rfl|rfl
   . have E:(ix wv.AG o).RW=false:=(by simp[Cm]at g;exact g.2);by_cases e:(ix s.AG o).Aj=[]
     . exact e
     . have:=(h.l o hi).w e;rw[E]at this;simp at this
   . simp[Kh]at j;exact j.2.2
 rw[AAO X];by_cases k7:k=7∨k=11
 . rw[AAP k7];refine off ?_;rcases k7 with rfl|rfl<;>simp[Cm]at g<;>exact g.1
 rw[AAO k7];by_cases k8:k=8
 . rw[AAP k8];subst k8;simp[Cm]at g;simp[Kh]at j;have L:=h.l o g.1;dsimp only;applyλx=>h.Ki I M g.1 x (.inr (.inl rfl));refine⟨L.o,λ_=>⟨g.2,j.2.1⟩,aM _,?_⟩;intro y q;have q:y∈(ix s.AG o).Aj++[t]:=(Pj _ y).1 q;rcases AAa.1 q with q|q
   . exact L.r y q
   . rw[AAh.1 q];exact G
 rw[AAO k8];by_cases k9:k=9
 . rw[AAP k9];subst k9;simp[Cm]at g;have L:=h.l o g.1;dsimp only;applyλx=>h.Ki I M g.1 x (.inr (.inl rfl));exact⟨L.o,λP=>L.w λe=>P (by simp[e]),L.p.sublist List.filter_sublist,λy q=>L.r y (List.mem_filter.1 q).1⟩
 rw[AAO k9];by_cases R:k=12
 . rw[AAP R];exact⟨h.t,h.l,λ_=>G,h.b⟩
 rw[AAO R];by_cases S:k=13
 . rw[AAP S];exact⟨h.t,h.l,λh=>absurd rfl h,h.b⟩
 rw[AAO S];by_cases V:k=14
 . rw[AAP V];have N:=N (by omega);dsimp only;apply h.K2 v m;exact⟨T.s,T.b,T.z,T.c,T.n,λ_=>by simp only;omega⟩
 rw[AAO V];by_cases W:k=15
 . rw[AAP W];dsimp only;apply h.K2 v m;exact⟨T.s,T.b,T.z,T.c,T.n,λh=>by cases h⟩
 rw[AAO W];by_cases K:k=16
 . rw[AAP K];have H:ED o wv.Af.length=true:=(by simpa[Cm,K]using g);have d:=I o H;dsimp only;apply(off d).K2 v m;refine⟨by simp,by simp[G],by simp,λ_=>⟨H,?_⟩,by simp,by simp⟩;show(ix (s.AG.set _ _) _).CS≠t;rw[MN (by rw[M];exact d) (by rw[M];exact d),AAP rfl]
   have:=Bh.1 m;simp only;omega
 rw[AAO K];by_cases C:k=17
 . rw[AAP C];have H:ED o wv.Af.length=true:=(by simpa[Cm,C]using g);have d:=I o H;have q:=h.K2 v m (f:=λx=>⟨2,0,x.Atomic⟩) ⟨by simp,by simp[G],by simp,by simp,by simp,by simp⟩;refine q.Ki I M (f:=λx=>⟨t,x.Aj⟩) d ⟨λ_=>G,λP=> ?_,(h.l _ d).p,(h.l _ d).r⟩ (.inr (.inr ⟨m,?_⟩))
   . have E:=((h.l _ d).w P).1;rw[hq o H]at E;cases E
   . show(ix (s.AA.set t.toNat _) t).Status=2;rw[MN (by rw[v];exact m) (by rw[v];exact m),AAP rfl]
 rw[AAO C];by_cases Ur:k=18
 . rw[AAP Ur];by_cases hW:CD o 0 s.AA=[]
   . simp only[hW,AAo];exact h
   . simp only[hW,AAY];obtain⟨d1,Z⟩:=waits_in v (qU (wake:=wake) hW);have D:=h.t _ d1;apply h.K2 v d1;exact⟨by simp[Hk],by simp[Hk];exact D.b.2 (by omega),by simp[Hk],λ_=>D.c (.inl Z),by simp[Hk],by simp[Hk]⟩
 rw[AAO Ur];by_cases mO:k=19
 . rw[AAP mO];refine⟨λu J=> ?_,h.l,h.x,h.b⟩;show TI wv B s.AG u (ix (s.AA.map (IW o)) u);rw[ix_map (by rw[v];exact J)];have U:=h.t u J;unfold IW;by_cases E:Ih (ix s.AA u) o=true
   . have Z:(ix s.AA u).Status=3:=(by unfold Ih at E;simp only[AAH]at E;exact eq_of_beq E.1);rw[AAP E];exact⟨by simp[Hk],by simp[Hk];exact U.b.2 (by omega),by simp[Hk],λ_=>U.c (.inl Z),by simp[Hk],by simp[Hk]⟩
   . rw[AAO E];exact U
 rw[AAO mO];by_cases F:k=20
 . rw[AAP F];have H:ED o wv.AA.length=true:=(by simpa[Cm,F]using g);have O:=h.t o H;have hs:(ix s.AA o).Status=0:=(by simp[Kh,F]at j;exact j.2.2);have nb:¬B o:=λh=>(by have:=O.b.1 h;omega);dsimp only;apply h.K2 v H;exact⟨by simp,by simp[nb],by simp,by simp,λ_ _=>O.n (by omega) (by omega),λh=>by have:=O.a h;omega⟩
 rw[AAO F];by_cases T8:k=22
 . rw[AAP T8];exact⟨h.t,h.l,h.x,h.b⟩
 rw[AAO T8];exact h
def begB (wv:AD) (c:List Int) (u:Int):Prop:=ED u wv.AA.length=true/\1≤ix c u
structure WI (wv:AD) (pre:List AK) (s:AB):Prop where
 f:Kl wv s=true
 c:∀u,ED u wv.AA.length=true->ix s.Count u=((Jj pre u).length:Int)
 m:s.Count.sum=(pre.length:Int)
 y:YI wv (begB wv s.Count) s.Sync
 d:∀i,ED i wv.AH.length=true->ix s.Sync.B4 i=false->ix s.AH i=0
theorem sum_set {l:List Int}:∀{i:Nat} {x:Int},i<l.length->(l.set i x).sum=l.sum+(x-l.getD i 0):=by
 induction l with
 |nil=>intro i x h;simp at h
 |cons a r ih=>
  intro i x h;cases i with
  |zero=>simp;omega
  |succ i=>have:=ih (i:=i) (x:=x) (by simpa using h);simp only[List.set_cons_succ,List.sum_cons,List.getD_cons_succ,this];omega
theorem Wh {b:Type} [Inhabited b] {n:Nat} {a:b} {i:Int} (h:ED i n=true):ix (List.replicate n a) i=a:=by have:=Bh.1 h;unfold ix;rw[List.getElem?_replicate,AAP (by omega)];rfl
theorem M9 {wv:AD} (h:Ct wv=true):wv.Af.all (Nn wv)=true/\1≤wv.AA.length:=by
 unfold Ct at h;simp only[AAH,AAZ]at h;obtain⟨a,h⟩:=h;refine⟨?_,by omega⟩;split at h
 . simp only[AAH]at h;exact h.1.2
 . cases h
theorem WD {wv:AD} (h:Ct wv=true):∀o,ED o wv.Af.length=true->(ix wv.AG (ix wv.Af o).Mutex).RW=false:=by
 intro o c;have b:=(M9 h).1
 have:=Bh.1 c;have a:o.toNat<wv.Af.length:=by omega
 have:=AAN.1 b (ix wv.Af o) (by unfold ix;rw[AAL a];exact AAW a);unfold Nn at this;simp only[AAH,ABT]at this;exact this.2
theorem WI.start {wv:AD} (h:Ct wv=true):WI wv [] (Ft wv):=by
 have l:=DB h;have b:=WD h;have j:=(M9 h).2;have d:∀u,¬begB wv (Ft wv).Count u:=λu ⟨a,k⟩=>by have:ix (Ft wv).Count u=0:=Wh a;omega
 have f:wv.Af.all (λc=>ED c.Mutex wv.AG.length)=true:=by
  have b:=(M9 h).1;refine AAN.2 λx g=> ?_
  have:=AAN.1 b x g;unfold Nn at this;simp only[AAH]at this;exact this.1
 refine⟨?_,λu a=>Wh a,?_,⟨λu a=> ?_,λi hi=> ?_,λh=>absurd rfl h,λu a=>a.1⟩,λi hi _=>Wh hi⟩
 . unfold Kl HD Ft Jh;simp[f]
 . show(List.replicate wv.AA.length (0:Int)).sum=0;induction wv.AA.length with
   |zero=>rfl
   |succ n ih=>rw[List.replicate_succ,List.sum_cons,ih];rfl
 . show TI wv _ _ u (ix ((List.replicate wv.AA.length (⟨0,0,false⟩:AF)).set (0:Int).toNat ⟨1,0,false⟩) u);rw[MN (Bh.2 (by simp;omega)) (by simpa using a)];by_cases e:u=0
   . rw[AAP e];exact⟨by simp,by simp[d],by simp,by simp,by simp,by simp⟩
   . rw[AAO e,Wh a];exact⟨by simp,by simp[d],λh=>absurd h e,by simp,by simp,by simp⟩
 . show LI wv _ i (ix (List.replicate wv.AG.length (⟨-1,[]⟩:AX)) i);rw[Wh hi];exact⟨by simp,by simp,by simp,by simp⟩
theorem WI.next {wv:AD} {f:List AK} {s:AB} {e:AK} (K:∀o,ED o wv.Af.length=true->(ix wv.AG (ix wv.Af o).Mutex).RW=false) (h:WI wv f s) (N:f.length≤100000) (J:JL wv s e=true):WI wv (f++[e]) (Fu wv s e):=by
 have l:=J;unfold JL at l;simp only[AAH]at l;obtain⟨I,n,t,_,_,_⟩:=l;obtain⟨x,F,v,w⟩:=Lc I;obtain⟨O,E,P⟩:=Em x;have L:=KA f e.Thread;have B:=h.c e.Thread n;have D:Aq (ix s.Count e.Thread+1)=((Jj f e.Thread).length:Int)+1:=by rw[B,CC (by omega) (by omega)]
 have r:∀u,ED u wv.AA.length=true->ix (Fu wv s e).Count u=if u=e.Thread then((Jj f e.Thread).length:Int)+1 else ix s.Count u:=by intro u j;show ix (s.Count.set e.Thread.toNat _) u=_;rw[MN (by rw[w];exact n) (by rw[w];exact j),D]
 refine⟨?_,λu j=> ?_,?_,?_,λi hi hd=> ?_⟩
 . have:=kQ x e.Thread e.Kind e.Obj (if e.Kind=18 then e.Value else -1)
   unfold Kl Fu;simp only[this,AAd,List.length_set,w,AA5,Bool.and_true,AAH,AAV];constructor
   . split<;>simp[F]
   . split<;>simp[v]
 . rw[r u j,LQ];by_cases g:u=e.Thread
   . rw[AAP g,AAP g.symm];simp[g]
   . rw[AAO g,AAO (λh=>g h.symm),h.c u j]
 . show(s.Count.set e.Thread.toNat _).sum=_;have hi:=Bh.1 n;have:ix s.Count e.Thread=s.Count.getD e.Thread.toNat 0:=(by unfold ix;rw[List.getD_eq_getElem?_getD];rfl);rw[sum_set (by omega),h.m,D,← this,B];simp;omega
 . refine(h.y.apply K t (wake:=if e.Kind=18 then e.Value else -1)).congr λu=> ?_
   constructor
   . rintro⟨j,q⟩;rw[r u j]at q;by_cases g:u=e.Thread
     . exact .inr g
     . rw[AAO g]at q;exact .inl ⟨j,q⟩
   . rintro(⟨j,q⟩|rfl)
     . refine⟨j,?_⟩;rw[r u j];split<;>omega
     . refine⟨n,?_⟩;rw[r _ n,AAP rfl];omega
 . unfold Da at t;simp only[AAH]at t;obtain⟨_,_,z,L⟩:=t;have G:(EA wv s.Sync e.Thread e.Kind e.Obj (if e.Kind=18 then e.Value else -1)).1.B4=if e.Kind=22 then s.Sync.B4.set e.Obj.toNat true else s.Sync.B4:=by
    unfold EA;by_cases k:e.Kind=22
    . simp[k]
    . rw[AAO k,AAO k];have key:∀(p:Prop) [Decidable p] (a b:AQ×Int),a.1.B4=s.Sync.B4->b.1.B4=s.Sync.B4->(if p then a else b).1.B4=s.Sync.B4:=by intro p _ a b z M;split<;>assumption
      repeat' refine key _ _ _ ?_ ?_
      all_goals first
       |rfl
       | (by_cases H:CD e.Obj 0 s.Sync.AA=[]<;>simp only[H,AAo,AAY]<;>rfl)
   have hd:ix (if e.Kind=22 then s.Sync.B4.set e.Obj.toNat true else s.Sync.B4) i=false:=by rw[← G];exact hd
   show ix (if e.Kind=22 then s.AH.set e.Obj.toNat e.Value else s.AH) i=0
   by_cases k:e.Kind=22
   . rw[AAP k]at hd ⊢;have C:ED e.Obj wv.AH.length=true:=(by simpa[Cm,k]using z);rw[MN (by rw[E];exact C) (by rw[E];exact hi)]at hd;rw[MN (by rw[v];exact C) (by rw[v];exact hi)];by_cases g:i=e.Obj
     . rw[AAP g]at hd;cases hd
     . rw[AAO g]at hd ⊢;exact h.d i hi hd
   . rw[AAO k]at hd ⊢;exact h.d i hi hd
def Gj (f:Nat->Bool):Nat->Nat->Bool
 |_,0=>true
 |i,k+1=>f i&&Gj f (i+1) k
theorem Kk {f:Nat->Bool}:∀{k i:Nat},Gj f i k=true↔∀j,i≤j->j<i+k->f j=true
 |0,i=>by simp[Gj];omega
 |k+1,i=>by
  unfold Gj;rw[AAH,Kk];constructor
  . rintro⟨a,b⟩ j c d;by_cases e:j=i
    . subst e;exact a
    . exact b j (by omega) (by omega)
  . exactλh=>⟨h i (by omega) (by omega),λj c d=>h j (by omega) (by omega)⟩
theorem Yd (f g:Nat->Bool):∀k i:Nat,Gj (λj=>f j&&g j) i k=(Gj f i k&&Gj g i k)
 |0,i=>rfl
 |k+1,i=>by unfold Gj;rw[Yd f g k (i+1)];cases f i<;>cases g i<;>simp
def IY (c:List Int) (t:Int):Bool:=ED t c.length&&decide (1≤ix c t)
def LW (w:AP):Bool:=Gj (λi=>decide (0≤ix w.Init.Count i)&&decide (ix w.Init.Count i≤400)) 0 w.Init.Count.length&&(w.Start==w.Init.Count.sum&&decide (w.Init.Count.sum+w.AE.length≤400))
def Xo (x:AF):Bool:=x.Status==3||x.Status==4
def TP (w:AP) (i:Nat) (x:AF):Bool:=
 (decide (0≤x.Status)&&decide (x.Status≤5))&&((decide (x.Status≤1)==(ix w.Init.Count i==0))&&(!(i==0&&x.Status==0)&&(if Xo x=true then ED x.DC w.World.Af.length else x.DC==0)))
def Z9 (w:AP) (i:Nat) (x:AF):Bool:= !Xo x||(ix w.Init.Sync.AG (ix w.World.Af x.DC).Mutex).CS != (i:Int)
def Pt (w:AP) (i:Nat) (x:AF):Bool:= !x.Atomic||IY w.Init.Count i
def JE (c:List Int):Int->List Int->Bool
 |_,[]=>true
 |last,t::r=>decide (last<t)&&(IY c t&&JE c t r)
def Ov (w:AP) (i:Nat) (x:AX):Bool:=(x.CS== -1||IY w.Init.Count x.CS)&&((x.Aj.isEmpty||((ix w.World.AG i).RW&&x.CS== -1))&&JE w.Init.Count (-1) x.Aj)
def txW (w:AP):Bool:=w.Init.Sync.Tx== -1||IY w.Init.Count w.Init.Sync.Tx
def gE (w:AP) (i:Nat):Bool:=ix w.Init.Sync.B4 i||ix w.Init.AH i==0
def KS (c:Int) (reads:List Bool) (k:Int):Bool:=decide (k<c)||KF reads (k-c)
def aB (c:List Int) (pre:List AK) (x:AK):Bool:=x.EI.all (KS (ix c x.Thread) (Jj pre x.Thread))&&x.Dr.all (KS (ix c x.Thread) (Jj pre x.Thread))
def bM (wv:AD) (c:List Int):List AK->AB->List AK->Bool
 |_,_,[]=>true
 |pre,s,x::r=>JL wv s x&&(aB c pre x&&bM wv c (pre++[x]) (Fu wv s x) r)
abbrev KI (w:AP) (i:Nat):AF:=ix w.Init.Sync.AA i
def mE (w:AP):Bool:=LW w&&(Gj (λi=>TP w i (KI w i)) 0 w.Init.Sync.AA.length&&(Gj (λi=>Z9 w i (KI w i)) 0 w.Init.Sync.AA.length&&
 (Gj (λi=>Ov w i (ix w.Init.Sync.AG i)) 0 w.Init.Sync.AG.length&&(txW w&&(Gj (λi=>Pt w i (KI w i)) 0 w.Init.Sync.AA.length&&Gj (gE w) 0 w.Init.AH.length)))))
def YW (w:AP):Bool:=Ct w.World&&(Kl w.World w.Init&&(decide (w.AE.length≤16)&&(mE w&&bM w.World w.Init.Count [] w.Init w.AE)))
theorem rdB_app (a b:List AK) (t:Int):Jj (a++b) t=Jj a t++Jj b t:=by unfold Jj;rw[List.filter_append,AAv]
def Gl (t:BN) (n:Nat):AB:=(t.AE.take n).foldl (Fu t.World) (Ft t.World)
theorem OT {t:BN} {n:Nat} (h:n<t.AE.length):Gl t (n+1)=Fu t.World (Gl t n) t.AE[n]:=by unfold Gl;rw[← AAX h,List.foldl_append];rfl
theorem Zf {t:BN} (d:Ct t.World=true) (g:t.AE.length≤400) (e:GM t.World [] (Ft t.World) t.AE=(0,0)):∀n,n≤t.AE.length->WI t.World (t.AE.take n) (Gl t n)/\GM t.World (t.AE.take n) (Gl t n) (t.AE.drop n)=(0,0):=by
 have f:=WD d;intro n;induction n with
 |zero=>intro _;exact⟨WI.start d,e⟩
 |succ n ih=>
  intro hn;obtain⟨a,b⟩:=ih (by omega);rw[ABD (by omega),GM]at b;split at b
  . rename_i c;rw[AAH]at c;rw[OT (by omega),← AAX (by omega)];exact⟨a.next f (by simp;omega) c.1,b⟩
  . exact absurd (congrArg Prod.snd b) (λh:(12:Int)=0=>by cases h)
def fT (t:BN) (size i:Nat):AP:=⟨t.World,(i:Int),Gl t i,(t.AE.drop i).take size⟩
theorem LJ {L:Nat->Int->ABh Bool} {N:Nat} {p:Nat->Bool} {R:ABh Bool} (b:∀(n i:Nat),i<N->L (n+1) (i:Int)=if p i=true then L n ((i+1:Nat):Int)else some false)
 (a:∀n,L (n+1) (N:Int)=R):∀n i:Nat,i≤N->N<n+i->L n (i:Int)=if Gj p i (N-i)=true then R else some false
 |0,i,h1,h2=>by omega
 |n+1,i,h1,h2=>by
  by_cases hi:i<N
  . rw[b n i hi,show N-i=(N-(i+1))+1 from by omega,Gj];cases hp:p i with
    |false=>rfl
    |true=>rw[AAP rfl,AAd,LJ b a n (i+1) (by omega) (by omega)]
  . have:i=N:=(by omega);subst this;rw[a,Nat.sub_self];rfl
def qX (w:AP) (i:Nat):Bool:=decide (0≤ix w.Init.Count i)&&decide (ix w.Init.Count i≤400)
theorem Ug (w:AP) (e:w.Init.Count.length≤4):∀(n i:Nat) (c:Int),i≤w.Init.Count.length->w.Init.Count.length<n+i->0≤c->c≤400*i->CQ.AZ w n c (i:Int)=if Gj (qX w) i (w.Init.Count.length-i)=true then CQ.J2 w (c+(w.Init.Count.drop i).sum)else some false
 |0,i,c,h1,h2,h3,h4=>by omega
 |n+1,i,c,h1,h2,h3,h4=>by
  unfold CQ.AZ CQ.L1;by_cases hi:i<w.Init.Count.length
  . rw[A2 (by omega),B8 hi,AAF,show w.Init.Count.length-i=(w.Init.Count.length-(i+1))+1 from by omega,Gj,Ej hi,List.sum_cons];unfold qX CQ.J1;rw[Oo hi];generalize w.Init.Count[i]=d;by_cases a:d<0
    . rw[A2 a,AAP rfl,show decide (0≤d)=false from by simpa using a];rfl
    . rw[Ad a];by_cases b:d>400
      . rw[show decide (d>400)=true from by simpa using b,AAP rfl,show decide (d≤400)=false from by simp;omega,Bool.and_false,Bool.false_and];rfl
      . rw[show decide (d>400)=false from by simpa using b,AAO (by simp),CC (by omega) (by omega),Ai (by omega),Ug w e n (i+1) _ (by omega) (by omega) (by omega) (by omega),show decide (0≤d)=true from by simp;omega,show decide (d≤400)=true from by simp;omega,Int.add_assoc];rfl
  . rw[Ad (by omega),Fe hi,List.sum_nil,Int.add_zero,show w.Init.Count.length-i=0 from by omega];rfl
theorem uP (w:AP) (e:w.Init.Count.length≤4):∀(n i:Nat) (c:Int),i≤w.Init.Count.length->w.Init.Count.length<n+i->0≤c->c≤400*i->GZ.AZ w n c (i:Int)=CQ.AZ w n c (i:Int)
 |0,i,c,h1,h2,h3,h4=>by omega
 |n+1,i,c,h1,h2,h3,h4=>by
  unfold GZ.AZ GZ.L1 CQ.AZ CQ.L1;by_cases hi:i<w.Init.Count.length
  . rw[A2 (by omega),A2 (by omega),B8 hi,AAF,AAF];unfold GZ.J1 CQ.J1;rw[B8 hi,AAF];generalize w.Init.Count[i]=d;by_cases a:d<0
    . rw[A2 a,A2 a];rfl
    . rw[Ad a,Ad a];by_cases b:d>400
      . rw[show decide (d>400)=true from by simpa using b];rfl
      . rw[show decide (d>400)=false from by simpa using b,AAO (by simp),AAO (by simp),CC (by omega) (by omega),Ai (by omega),uP w e n (i+1) _ (by omega) (by omega) (by omega) (by omega)]
  . rw[Ad (by omega),Ad (by omega)];rfl
theorem Zl (w:AP) (e:w.Init.Count.length≤4) (k:w.AE.length≤16):CQ w=some (LW w):=by
 have i:=Bn;unfold CQ
 have:=Ug w e Bg 0 0 (by omega) (by omega) (by omega) (by omega);rw[Int.natCast_zero]at this;rw[this,Nat.sub_zero,AAe,Int.zero_add];unfold LW;change (if Gj (qX w) 0 _=true then _ else _)=some (Gj (qX w) 0 _&&_)
 cases ha:Gj (qX w) 0 w.Init.Count.length with
 |false=>rfl
 |true=>
  rw[AAP rfl,AAd];unfold CQ.J2 CQ.J3;have m:0≤w.Init.Count.sum/\w.Init.Count.sum≤1600:=by
   have c:=Kk.1 ha;have key:∀l:List Int,(∀x∈l,0≤x/\x≤400)->0≤l.sum/\l.sum≤400*l.length:=by
    intro l;induction l with
    |nil=>intro _;simp
    |cons x l ih=>intro h;have a:=h x (by simp);have b:=ih λy g=>h y (by simp[g]);simp only[List.sum_cons,AAx];omega
   have:=key w.Init.Count λx f=>by
    obtain⟨j,d,rfl⟩:=List.getElem_of_mem f
    have:=c j (by omega) (by omega);unfold qX at this;rw[Oo d]at this;simpa using this
   omega
  rw[CC (by omega) (by omega)];cases w.Start==w.Init.Count.sum<;>rfl
theorem rcounts_eq (w:AP) (a:w.Init.Count.length≤4) (b:w.AE.length≤16):GZ w=some (LW w):=by rw[← Zl w a b];exact uP w a Bg 0 0 (by omega) (by have:=Bn;omega) (by omega) (by omega)
theorem o5 {P:Int->Prop} (a:∀x,x<0->P x) (b:∀x,5<x->P x) (a0:P 0) (c:P 1) (d:P 2) (e:P 3) (f:P 4) (i:P 5) (x:Int):P x:=by
 by_cases g:x<0
 . exact a x g
 . by_cases k:5<x
   . exact b x k
   . have:x=0∨x=1∨x=2∨x=3∨x=4∨x=5:=(by omega);rcases this with h|h|h|h|h|h<;>subst h<;>assumption
structure WinF (w:AP):Prop where
 v:Ct w.World=true
 f:Kl w.World w.Init=true
 e:w.AE.length≤16
structure OP (w:AP):Prop where
 s:Small w.World
 l:w.Init.Sync.AG.length=w.World.AG.length
 d:w.Init.Sync.B4.length=w.World.AH.length
 t:w.Init.Sync.AA.length=w.World.AA.length
 u:w.Init.AH.length=w.World.AH.length
 c:w.Init.Count.length=w.World.AA.length
 m:∀o,ED o w.World.Af.length=true->ED (ix w.World.Af o).Mutex w.World.AG.length=true
theorem WinF.l {w:AP} (h:WinF w):OP w:=by obtain⟨a,j,b,c⟩:=Lc h.f;obtain⟨e,g,i⟩:=Em a;exact⟨DB h.v,e,g,i,b,c,λo d=>HH a d⟩
theorem aX {w:AP} (h:OP w) (n i:Nat) (hi:i<w.Init.Sync.AA.length):
 A9.AZ w (n+1) (i:Int)=if(TP w i (KI w i)&&Z9 w i (KI w i))=true then A9.AZ w n ((i+1:Nat):Int)else some false:=by
 have k:=h.s.t;have p:=h.t;have q:=h.c;rw[A9.AZ];unfold A9.L1 KI;rw[A2 (by omega),B8 hi,AAF,Oo hi];generalize w.Init.Sync.AA[i]=x;unfold A9.J1 A9.J2 A9.J3 A9.J4 A9.J5;rw[Ai (by omega)];generalize A9.AZ w n ((i+1:Nat):Int)=R;rw[Cd (l:=w.Init.Count) (Bh.2 (by omega))];simp only[AAF,AAo,AAY,AAQ];unfold TP Z9 Xo;have j:((i:Int)==0)=(i==0):=by rw[Bool.eq_iff_iff,AAV,AAV];omega
 rw[j];generalize (ix w.Init.Count (i:Int)==0)=c;have a:(if decide (x.DC<0)=true then some false else if decide (x.DC≥(w.World.Af.length:Int))=true then some false else
  (gt w.World.Af x.DC).bind λl=>(gt w.Init.Sync.AG l.Mutex).bind λo=>if(o.CS==(i:Int))=true then some false else R)=
  if(ED x.DC w.World.Af.length&&(ix w.Init.Sync.AG (ix w.World.Af x.DC).Mutex).CS != (i:Int))=true then R else some false:=by
  by_cases d:x.DC<0
  . rw[A2 d,show ED x.DC w.World.Af.length=false from by rw[Bool.eq_false_iff];intro h;have:=Bh.1 h;omega];rfl
  . rw[Ad d];by_cases e:x.DC≥(w.World.Af.length:Int)
    . rw[A2 e,show ED x.DC w.World.Af.length=false from by rw[Bool.eq_false_iff];intro h;have:=Bh.1 h;omega];rfl
    . have b:ED x.DC w.World.Af.length=true:=Bh.2 (by omega);rw[Ad e,Cd b,AAF,Cd (by rw[h.l];exact h.m _ b),AAF,b,AAd];cases hq:(ix w.Init.Sync.AG (ix w.World.Af x.DC).Mutex).CS==(i:Int)<;>simp[bne,hq]
 generalize x.DC=co at a ⊢;generalize x.Status=st;revert st;refine o5 ?_ ?_ ?_ ?_ ?_ ?_ ?_ ?_
 . intro x f;rw[A2 f,show decide (0≤x)=false from by simp;omega];rfl
 . intro x f;rw[Ad (by omega),A2 (by omega),show decide (x≤5)=false from by simp;omega,Bool.and_false];rfl
 . cases c<;>cases(i==0)<;>by_cases g:co=0<;>simp[g]
 . cases c<;>cases(i==0)<;>by_cases g:co=0<;>simp[g]
 . cases c<;>cases(i==0)<;>by_cases g:co=0<;>simp[g]
 . cases c<;>cases(i==0)<;>simp<;>simpa using a
 . cases c<;>cases(i==0)<;>simp<;>simpa using a
 . cases c<;>cases(i==0)<;>by_cases g:co=0<;>simp[g]
theorem uR (i:Int) (n:Nat):Ko i (n:Int)=some (ED i n):=Pr i n
theorem rstat_step {w:AP} (h:OP w) (n i:Nat) (hi:i<w.Init.Sync.AA.length):
 DN.AZ w (n+1) (i:Int)=if TP w i (KI w i)=true then DN.AZ w n ((i+1:Nat):Int)else some false:=by
 have e:=h.s.t;have f:=h.t;have j:=h.c;rw[DN.AZ];unfold DN.L1 KI;unfold DN.J1 DN.J2 DN.J3 DN.J4;rw[A2 (by omega),B8 hi,Oo hi];generalize w.Init.Sync.AA[i]=x;rw[Ai (by omega)];generalize DN.AZ w n ((i+1:Nat):Int)=R;rw[Cd (l:=w.Init.Count) (Bh.2 (by omega))];simp only[AAF,AAo,AAY,AAQ,uR];unfold TP Xo;have d:((i:Int)==0)=(i==0):=by rw[Bool.eq_iff_iff,AAV,AAV];omega
 rw[d];generalize (ix w.Init.Count (i:Int)==0)=c;generalize ED x.DC w.World.Af.length=b;generalize x.DC=co;generalize x.Status=st;revert st;refine o5 ?_ ?_ ?_ ?_ ?_ ?_ ?_ ?_
 . intro x a;rw[show decide (0≤x)=false from by simp;omega,show decide (x<0)=true from by simpa using a];simp
 . intro x a;rw[show decide (x≤5)=false from by simp;omega,show decide (x>5)=true from by simpa using a];simp
 all_goals cases c<;>cases(i==0)<;>cases b<;>by_cases g:co=0<;>simp[g]
theorem Pq (w:AP) (t:Int):Bt t w=some (IY w.Init.Count t):=by
 unfold Bt Bt.J1 IY;by_cases h:ED t w.Init.Count.length=true
 . have:=Bh.1 h;rw[A2 (by omega),A2 (by omega),Cd h,h];rfl
 . rw[show ED t w.Init.Count.length=false from by simpa using h];by_cases g:t≥0
   . rw[A2 g,Ad (λk=>h (Bh.2 ⟨g,k⟩))];rfl
   . rw[Ad g];rfl
theorem gA (w:AP) (t:Int):Fv w t=some (IY w.Init.Count t):=by
 unfold Fv Fv.J1 IY;rw[uR,AAF];cases h:ED t w.Init.Count.length with
 |true=>rw[AAP rfl,Cd h];rfl
 |false=>rfl
theorem fQ (w:AP) (x:AX) (c:x.Aj.length≤4611686018427387904) (L1:Int->ABh Bool) (b:Int):∀(n e:Nat) (f:Int),e≤x.Aj.length->x.Aj.length<n+e->
 Ab.DI L1 b w x n f (e:Int)=if JE w.Init.Count f (x.Aj.drop e)=true then L1 (Aq (b+1))else some false
 |0,e,f,h1,h2=>by omega
 |n+1,e,f,h1,h2=>by
  unfold Ab.DI Ab.L2;by_cases a:e<x.Aj.length
  . rw[A2 (by omega),B8 a,AAF,Ej a,JE,Pq,AAF];unfold Ab.J3;by_cases g:x.Aj[e]≤f
    . rw[A2 g,show decide (f<x.Aj[e])=false from by simpa using g];rfl
    . rw[Ad g,show decide (f<x.Aj[e])=true from by simpa using g,AAd,Ai (by omega)];cases IY w.Init.Count x.Aj[e]with
      |false=>rfl
      |true=>rw[AAO (by simp),AAd];exact fQ w x c L1 b n (e+1) _ (by omega) (by omega)
  . rw[Ad (by omega),Fe a];rfl
theorem rreaders (w:AP) (x:AX) (d:x.Aj.length≤4611686018427387904) (L1:Int->ABh Bool) (b:Int):∀(n e:Nat) (f:Int),e≤x.Aj.length->x.Aj.length<n+e->
 (∀(h:0<e) (j:e-1<x.Aj.length),f=x.Aj[e-1])->(e=0->f= -1)->
 Bz.DI L1 b w x n (e:Int)=if JE w.Init.Count f (x.Aj.drop e)=true then L1 (Aq (b+1))else some false
 |0,e,f,h1,h2,_,_=>by omega
 |n+1,e,f,h1,h2,h3,h4=>by
  unfold Bz.DI Bz.L2;by_cases a:e<x.Aj.length
  . rw[A2 (by omega),B8 a,AAF,Ej a,JE,gA,AAF];unfold Bz.J2;have c:=rreaders w x d L1 b n (e+1) x.Aj[e] (by omega) (by omega) (λ_ _=>rfl) (λh=>by omega);cases hb:IY w.Init.Count x.Aj[e]with
    |false=>rw[Bool.false_and,Bool.and_false];rfl
    |true=>
     have i:=Bh.1 (AAH _ _▸hb).1;rw[AAO (by simp),Ai (by omega),AAd];by_cases g:0<e
     . rw[A2 (by omega),CC (by omega) (by omega),show(e:Int)-1=((e-1:Nat):Int)from by omega,B8 (by omega),AAF,← h3 g (by omega)];by_cases k:x.Aj[e]≤f
       . rw[AAP (by simpa using k),show decide (f<x.Aj[e])=false from by simpa using k];rfl
       . rw[AAO (by simpa using k),show decide (f<x.Aj[e])=true from by simpa using k,AAd,c]
     . rw[Ad (by omega),AAO (by simp),show decide (f<x.Aj[e])=true from by have:=h4 (by omega);simp;omega,AAd,c]
  . rw[Ad (by omega),Fe a];rfl
theorem Xy {a:Type} (l:List a):decide ((l.length:Int)>0)= !l.isEmpty:=by cases l<;>simp<;>omega
theorem mI {w:AP} (h:OP w) (d:RB 4611686018427387904 w.Init.Sync) (n i:Nat) (hi:i<w.Init.Sync.AG.length):
 Ab.AZ w (n+1) (i:Int)=if Ov w i (ix w.Init.Sync.AG i)=true then Ab.AZ w n ((i+1:Nat):Int)else some false:=by
 have f:=h.s.l;have j:=h.l;rw[Ab.AZ];unfold Ab.L1;rw[A2 (by omega),B8 hi,AAF,Oo hi,Pq,AAF];have c:=d _ (AAW hi);generalize w.Init.Sync.AG[i]=x at c ⊢;unfold Ab.J1 Ab.J2;have a:=fQ w x c (Ab.AZ w n) i Bg 0 (-1) (by omega) (by have:=Bn;omega);rw[Int.natCast_zero,AAe,Ai (by omega)]at a;rw[a,Xy,Cd (Bh.2 (by omega)),AAF];generalize Ab.AZ w n ((i+1:Nat):Int)=R;unfold Ov;generalize JE w.Init.Count (-1) x.Aj=b;generalize (ix w.World.AG (i:Int)).RW=rw_;generalize IY w.Init.Count x.CS=bo;by_cases g:x.CS= -1
 . rw[g];cases x.Aj.isEmpty<;>cases rw_<;>cases b<;>rfl
 . have e:(x.CS== -1)=false:=(by simpa using g);rw[show(x.CS != -1)=true from by simpa using g,e];cases x.Aj.isEmpty<;>cases rw_<;>cases b<;>cases bo<;>rfl
theorem rlock_step {w:AP} (h:OP w) (d:RB 4611686018427387904 w.Init.Sync) (n i:Nat) (hi:i<w.Init.Sync.AG.length):
 Bz.AZ w (n+1) (i:Int)=if Ov w i (ix w.Init.Sync.AG i)=true then Bz.AZ w n ((i+1:Nat):Int)else some false:=by
 have f:=h.s.l;have j:=h.l;rw[Bz.AZ];unfold Bz.L1;rw[A2 (by omega),B8 hi,AAF,Oo hi,gA,AAF];have c:=d _ (AAW hi);generalize w.Init.Sync.AG[i]=x at c ⊢;unfold Bz.J1;have a:=rreaders w x c (Bz.AZ w n) i Bg 0 (-1) (by omega) (by have:=Bn;omega) (λh=>by omega) (λ_=>rfl);rw[Int.natCast_zero,AAe,Ai (by omega)]at a;rw[a,Xy,Cd (Bh.2 (by omega)),AAF];generalize Bz.AZ w n ((i+1:Nat):Int)=R;unfold Ov;generalize JE w.Init.Count (-1) x.Aj=b;generalize (ix w.World.AG (i:Int)).RW=rw_;generalize IY w.Init.Count x.CS=bo;by_cases g:x.CS= -1
 . rw[g];cases x.Aj.isEmpty<;>cases rw_<;>cases b<;>rfl
 . have e:(x.CS== -1)=false:=(by simpa using g);rw[show(x.CS != -1)=true from by simpa using g,e];cases x.Aj.isEmpty<;>cases rw_<;>cases b<;>cases bo<;>rfl
theorem mH {w:AP} (h:OP w) (n i:Nat) (hi:i<w.Init.Sync.AA.length):
 Ab.GL w (n+1) (i:Int)=if Pt w i (KI w i)=true then Ab.GL w n ((i+1:Nat):Int)else some false:=by
 have a:=h.s.t;have b:=h.t;rw[Ab.GL];unfold Ab.L3 Ab.J7 KI Pt;rw[A2 (by omega),B8 hi,AAF,Oo hi,Pq,AAF,Ai (by omega)];generalize Ab.GL w n ((i+1:Nat):Int)=R;cases w.Init.Sync.AA[i].Atomic<;>cases IY w.Init.Count (i:Int)<;>rfl
theorem ratom_step {w:AP} (h:OP w) (n i:Nat) (hi:i<w.Init.Sync.AA.length) (c:TP w i (KI w i)=true):
 Bz.GL w (n+1) (i:Int)=if(Pt w i (KI w i)&&Z9 w i (KI w i))=true then Bz.GL w n ((i+1:Nat):Int)else some false:=by
 have e:=h.s.t;have f:=h.t;rw[Bz.GL];unfold Bz.L3 Bz.J6 Bz.J7;unfold TP at c;unfold KI at c ⊢;unfold Pt Z9;rw[A2 (by omega),B8 hi,AAF,Oo hi,gA,AAF,Ai (by omega)];rw[Oo hi]at c;generalize Bz.GL w n ((i+1:Nat):Int)=R;generalize w.Init.Sync.AA[i]=x at c ⊢;simp only[AAH]at c;obtain⟨_,_,_,b⟩:=c;unfold Xo at b ⊢;have d:∀(a:Bool),(if(!a)=true then some false else if(x.Status==3)=true then(gt w.World.Af x.DC).bind λz=>(gt w.Init.Sync.AG z.Mutex).bind λq=>if(q.CS==(i:Int))=true then some false else R
  else if(x.Status==4)=true then(gt w.World.Af x.DC).bind λz=>(gt w.Init.Sync.AG z.Mutex).bind λq=>if(q.CS==(i:Int))=true then some false else R else if false=true then some false else R)=
  if(a&&(!(x.Status==3||x.Status==4)||(ix w.Init.Sync.AG (ix w.World.Af x.DC).Mutex).CS != (i:Int)))=true then R else some false:=by
  intro a;cases a with
  |false=>rfl
  |true=>
   rw[AAO (by simp),AAd];cases g3:x.Status==3 with
   |true=>rw[g3]at b;have b:ED x.DC w.World.Af.length=true:=(by simpa using b);rw[AAP rfl,Cd b,AAF,Cd (by rw[h.l];exact h.m _ b),AAF];cases hq:(ix w.Init.Sync.AG (ix w.World.Af x.DC).Mutex).CS==(i:Int)<;>simp[bne,hq]
   |false=>
    cases g4:x.Status==4 with
    |true=>rw[g3,g4]at b;have b:ED x.DC w.World.Af.length=true:=(by simpa using b);rw[AAO (by simp),AAP rfl,Cd b,AAF,Cd (by rw[h.l];exact h.m _ b),AAF];cases hq:(ix w.Init.Sync.AG (ix w.World.Af x.DC).Mutex).CS==(i:Int)<;>simp[bne,hq]
    |false=>rfl
 cases x.Atomic with
 |true=>simpa using d (IY w.Init.Count (i:Int))
 |false=>simpa using d true
theorem uH {w:AP} (h:OP w) (n i:Nat) (hi:i<w.Init.AH.length):
 BU.AZ w.Init (n+1) (i:Int)=if gE w i=true then BU.AZ w.Init n ((i+1:Nat):Int)else some false:=by
 have a:=h.s.f;have b:=h.d;have c:=h.u;rw[BU.AZ];unfold BU.L1 BU.J1 gE;rw[A2 (by omega),Cd (Bh.2 (by omega)),AAF,Cd (Bh.2 (by omega)),AAF,Ai (by omega)];generalize BU.AZ w.Init n ((i+1:Nat):Int)=R;unfold bne;cases ix w.Init.Sync.B4 (i:Int)<;>cases ix w.Init.AH (i:Int)==0<;>rfl
theorem rfut_step {w:AP} (h:OP w) (n i:Nat) (hi:i<w.Init.AH.length):
 Di.AZ w (n+1) (i:Int)=if gE w i=true then Di.AZ w n ((i+1:Nat):Int)else some false:=by
 have a:=h.s.f;have b:=h.d;have c:=h.u;rw[Di.AZ];unfold Di.L1 Di.J2 gE;rw[A2 (by omega),Cd (Bh.2 (by omega)),AAF,Cd (Bh.2 (by omega)),AAF,Ai (by omega)];generalize Di.AZ w n ((i+1:Nat):Int)=R;unfold bne;cases ix w.Init.Sync.B4 (i:Int)<;>cases ix w.Init.AH (i:Int)==0<;>rfl
theorem iteB (b:Bool):(if b=true then some true else some false)=some b:=by cases b<;>rfl
theorem fR {w:AP} (h:OP w):A9 w=some (Gj (λi=>TP w i (KI w i)) 0 w.Init.Sync.AA.length&&Gj (λi=>Z9 w i (KI w i)) 0 w.Init.Sync.AA.length):=by have a:=h.s.t;have b:=h.t;have c:=Bn;rw[← Yd,← iteB];exact LJ (L:=A9.AZ w) (R:=some true) (λn i hi=>aX h n i hi) (λn=>by rw[A9.AZ];unfold A9.L1;rw[Ad (by omega)];rfl) Bg 0 (by omega) (by omega)
theorem rstatuses_eq {w:AP} (h:OP w):DN w=some (Gj (λi=>TP w i (KI w i)) 0 w.Init.Sync.AA.length):=by have a:=h.s.t;have b:=h.t;have c:=Bn;rw[← iteB];exact LJ (L:=DN.AZ w) (R:=some true) (λn i hi=>rstat_step h n i hi) (λn=>by rw[DN.AZ];unfold DN.L1;rw[Ad (by omega)];rfl) Bg 0 (by omega) (by omega)
theorem fP {w:AP} (h:OP w) (c:RB 4611686018427387904 w.Init.Sync):Ab w=some (Gj (λi=>Ov w i (ix w.Init.Sync.AG i)) 0 w.Init.Sync.AG.length&&(txW w&&Gj (λi=>Pt w i (KI w i)) 0 w.Init.Sync.AA.length)):=by
 have d:=h.s.l;have e:=h.l;have f:=h.s.t;have g:=h.t;have j:=Bn;have a:Ab.GL w Bg 0=some (Gj (λi=>Pt w i (KI w i)) 0 w.Init.Sync.AA.length):=by rw[← iteB];exact LJ (L:=Ab.GL w) (R:=some true) (λn i hi=>mH h n i hi) (λn=>by rw[Ab.GL];unfold Ab.L3;rw[Ad (by omega)];rfl) Bg 0 (by omega) (by omega)
 have b:Ab.J5 w=some (txW w&&Gj (λi=>Pt w i (KI w i)) 0 w.Init.Sync.AA.length):=by unfold Ab.J5 Ab.J6 txW;rw[a,Pq,AAF];unfold bne;cases w.Init.Sync.Tx== -1<;>cases IY w.Init.Count w.Init.Sync.Tx<;>rfl
 refine(LJ (L:=Ab.AZ w) (R:=Ab.J5 w) (λn i hi=>mI h c n i hi) (λn=>by rw[Ab.AZ];unfold Ab.L1;rw[Ad (by omega)]) Bg 0 (by omega) (by omega)).trans ?_;rw[b,Nat.sub_zero];cases Gj (λi=>Ov w i (ix w.Init.Sync.AG i)) 0 w.Init.Sync.AG.length<;>rfl
theorem loop_all' {L:Nat->Int->ABh Bool} {N:Nat} {p q:Nat->Bool} {R:ABh Bool} (b:Gj q 0 N=true) (c:∀(n i:Nat),i<N->q i=true->L (n+1) (i:Int)=if p i=true then L n ((i+1:Nat):Int)else some false)
 (a:∀n,L (n+1) (N:Int)=R):∀n i:Nat,i≤N->N<n+i->L n (i:Int)=if Gj p i (N-i)=true then R else some false:=
 LJ (λn i hi=>c n i hi (Kk.1 b i (by omega) (by omega))) a
theorem rholders_eq {w:AP} (h:OP w) (d:RB 4611686018427387904 w.Init.Sync) (e:Gj (λi=>TP w i (KI w i)) 0 w.Init.Sync.AA.length=true):
 Bz w=some (Gj (λi=>Ov w i (ix w.Init.Sync.AG i)) 0 w.Init.Sync.AG.length&&(txW w&&(Gj (λi=>Pt w i (KI w i)) 0 w.Init.Sync.AA.length&&Gj (λi=>Z9 w i (KI w i)) 0 w.Init.Sync.AA.length))):=by
 have f:=h.s.l;have g:=h.l;have j:=h.s.t;have k:=h.t;have m:=Bn;have a:Bz.GL w Bg 0=some (Gj (λi=>Pt w i (KI w i)) 0 w.Init.Sync.AA.length&&Gj (λi=>Z9 w i (KI w i)) 0 w.Init.Sync.AA.length):=by rw[← Yd,← iteB];exact loop_all' (L:=Bz.GL w) (R:=some true) e (λn i hi c=>ratom_step h n i hi c) (λn=>by rw[Bz.GL];unfold Bz.L3;rw[Ad (by omega)];rfl) Bg 0 (by omega) (by omega)
 have b:Bz.J4 w=some (txW w&&(Gj (λi=>Pt w i (KI w i)) 0 w.Init.Sync.AA.length&&Gj (λi=>Z9 w i (KI w i)) 0 w.Init.Sync.AA.length)):=by unfold Bz.J4 Bz.J5 txW;rw[a,gA,AAF];unfold bne;cases w.Init.Sync.Tx== -1<;>cases IY w.Init.Count w.Init.Sync.Tx<;>rfl
 refine(LJ (L:=Bz.AZ w) (R:=Bz.J4 w) (λn i hi=>rlock_step h d n i hi) (λn=>by rw[Bz.AZ];unfold Bz.L1;rw[Ad (by omega)]) Bg 0 (by omega) (by omega)).trans ?_;rw[b,Nat.sub_zero];cases Gj (λi=>Ov w i (ix w.Init.Sync.AG i)) 0 w.Init.Sync.AG.length<;>rfl
theorem fO {w:AP} (h:OP w):BU w.Init=some (Gj (gE w) 0 w.Init.AH.length):=by have a:=h.s.f;have b:=h.d;have c:=h.u;have e:=Bn;rw[← iteB];exact LJ (L:=BU.AZ w.Init) (R:=some true) (λn i hi=>uH h n i hi) (λn=>by rw[BU.AZ];unfold BU.L1;rw[Ad (by omega)];rfl) Bg 0 (by omega) (by omega)
theorem rfutures_eq {w:AP} (h:OP w):Di.AZ w Bg 0=if Gj (gE w) 0 w.Init.AH.length=true then Di.J3 w else some false:=by have a:=h.s.f;have b:=h.d;have c:=h.u;have e:=Bn;exact LJ (L:=Di.AZ w) (R:=Di.J3 w) (λn i hi=>rfut_step h n i hi) (λn=>by rw[Di.AZ];unfold Di.L1;rw[Ad (by omega)]) Bg 0 (by omega) (by omega)
theorem Z5 {c:Int}:∀(D:List Int) (a:Int),Gp c a D=true->∀k∈D,a<k/\k<c:=by
 intro D;induction D with
 |nil=>intro _ _ k b;cases b
 |cons x r ih=>
  intro a h k b;unfold Gp at h;simp only[AAH,AAZ]at h;rcases AAg.1 b with rfl|b
  . exact⟨h.1,h.2.1⟩
  . have:=ih x h.2.2 k b;exact⟨by omega,this.2⟩
theorem fZ {wv:AD} {s:AB} {x:AK} (h:JL wv s x=true):(∀k∈x.EI,1≤k/\k<ix s.Count x.Thread)/\∀k∈x.Dr,1≤k/\k<ix s.Count x.Thread:=by unfold JL FE at h;simp only[AAH]at h;obtain⟨_,_,_,_,⟨⟨_,b⟩,_,c⟩,_⟩:=h;exact⟨λk a=>by have:=Z5 _ _ b k a;omega,λk a=>by have:=Z5 _ _ c k a;omega⟩
theorem eO {c:List Int}:∀(l:List Int) (a:Int),a<c.length->JE c a l=true->(l.length:Int)+a+1≤c.length:=by
 intro l;induction l with
 |nil=>intro a h _;simp;omega
 |cons t r ih=>
  intro a h b;unfold JE IY at b;simp only[AAH,AAZ]at b;have d:=Bh.1 b.2.1.1
  have:=ih t (by omega) b.2.2;simp only[AAx];omega
theorem RB_of {w:AP} (h:OP w) (b:Gj (λi=>Ov w i (ix w.Init.Sync.AG i)) 0 w.Init.Sync.AG.length=true):RB 4 w.Init.Sync:=by
 intro x d;obtain⟨j,a,rfl⟩:=List.getElem_of_mem d
 have:=Kk.1 b j (by omega) (by omega);unfold Ov at this;rw[Oo a]at this;simp only[AAH]at this
 have:=eO _ _ (by omega) this.2.2;have e:=h.s.t;have f:=h.c;omega
def CI (c:List Int) (nt:Nat) (pre:List AK) (s:AB):Prop:=s.Count.length=nt/\∀u,ED u nt=true->ix s.Count u=ix c u+((Jj pre u).length:Int)
theorem CI.next {wv:AD} {c:List Int} {nt:Nat} {a:List AK} {s:AB} (h:CI c nt a s) {x:AK} (b:ED x.Thread nt=true) (f:∀u,ED u nt=true->0≤ix c u/\ix c u≤400) (m:a.length≤1000):CI c nt (a++[x]) (Fu wv s x):=by
 refine⟨by simpa[Fu]using h.1,λu d=> ?_⟩;obtain⟨i,j⟩:=Bh.1 b;obtain⟨k,l⟩:=Bh.1 d;rw[LQ];show ix (s.Count.set x.Thread.toNat (Aq (ix s.Count x.Thread+1))) u=_;have n:=f _ b;have g:=h.2 _ b;have hn:=KA a x.Thread;by_cases e:x.Thread=u
 . subst e;rw[AAP rfl];unfold ix;rw[AAK (by have:=h.1;omega)];show Aq (ix s.Count x.Thread+1)=ix c x.Thread+_;rw[g,CC (by omega) (by omega)];simp only[AAu,AAx,ABA];omega
 . rw[AAO e,← h.2 u d];unfold ix;rw[AAM (by omega)]
section
variable {w:AP}
theorem pos.L3 (L2:Int->ABh Bool) (l:List Int) (R:List (List Bool)) (t:Int) (x:AK) {B:List Bool} (j:l.length<4611686018427387904) (g:∀k∈l,1≤k/\k<1000000) (e:gt R x.Thread=some B) (f:gt w.Init.Count x.Thread=some (ix w.Init.Count x.Thread)) (d:0≤ix w.Init.Count x.Thread/\ix w.Init.Count x.Thread≤400):∀(n i:Nat),i≤l.length->l.length<n+i->
 Av.GL L2 l R t w x n (i:Int)=if(l.drop i).all (KS (ix w.Init.Count x.Thread) B)=true then L2 (Aq (t+1))else some false
 |0,i,h1,h2=>by omega
 |n+1,i,h1,h2=>by
  rw[Av.GL];unfold Av.L3;by_cases hi:i<l.length
  . unfold Av.J2;have m:=g _ (AAW hi);rw[A2 (by omega),B8 hi,AAF,f,AAF,Ej hi,Ai (by omega),pos.L3 L2 l R t x j g e f d n (i+1) (by omega) (by omega),AA6,e,AAF];generalize l[i]=k at m ⊢;generalize (l.drop (i+1)).all (KS (ix w.Init.Count x.Thread) B)=q;generalize ix w.Init.Count x.Thread=c at d ⊢;rw[CC (by omega) (by omega)];unfold KS KF;by_cases a:k<c
    . rw[Ad (by omega),AAO (by simp),show decide (k<c)=true from by simpa using a];rfl
    . rw[A2 (by omega),show decide (k<c)=false from by simpa using a];by_cases b:k-c≥(B.length:Int)
      . rw[A2 b,show ED (k-c) B.length=false from by simp[ED];omega];rfl
      . have h:ED (k-c) B.length=true:=(by simp[ED];omega);rw[Ad b,Cd h,AAF,h];cases ix B (k-c)<;>rfl
  . rw[Ad (by omega),Fe hi];rfl
theorem pos.L2 (L1:AB->List (List Bool)->Int->ABh Bool) (R:List (List Bool)) (t:Int) (v:AB×Bool) (x:AK) {B:List Bool} (b:OO x) (hd:∀k∈x.EI,1≤k/\k<1000000) (f:∀k∈x.Dr,1≤k/\k<1000000) (d:gt R x.Thread=some B) (e:gt w.Init.Count x.Thread=some (ix w.Init.Count x.Thread)) (c:0≤ix w.Init.Count x.Thread/\ix w.Init.Count x.Thread≤400):
 Av.DI L1 R t v w x Bg 0=if(x.EI.all (KS (ix w.Init.Count x.Thread) B)&&x.Dr.all (KS (ix w.Init.Count x.Thread) B))=true then Av.J4 L1 R t v x else some false:=by
 have n:=Bn;have a:∀L1 t l,l.length<4611686018427387904->(∀k∈l,1≤k/\k<1000000)->Av.J1 L1 R t w x l=if l.all (KS (ix w.Init.Count x.Thread) B)=true then L1 (Aq (t+1))else some false:=by
  intro L1 t l h g
  have:=pos.L3 L1 l R t x h g d e c Bg 0 (by omega) (by omega);rw[AAe]at this;exact this
 rw[V5];generalize Bg-3=m;have j:Av.DI L1 R t v w x (m+1) 2=Av.J4 L1 R t v x:=by rw[Av.DI];unfold Av.L2;rfl
 have i:Av.DI L1 R t v w x (m+2) 1=if x.Dr.all (KS (ix w.Init.Count x.Thread) B)=true then Av.J4 L1 R t v x else some false:=by rw[Av.DI];unfold Av.L2;rw[A2 (by decide),AAO (by decide),AAP (by decide),a _ _ _ b.2 f,show Aq (1+1)=2 from rfl,j]
 rw[Av.DI];unfold Av.L2;rw[A2 (by decide),AAP (by decide),a _ _ _ b.1 hd,show Aq (0+1)=1 from rfl,i];cases x.EI.all (KS (ix w.Init.Count x.Thread) B)<;>simp
theorem eL (h:OP w) (x:w.AE.length≤16) (p:∀e∈w.AE,OO e) (l:∀u,ED u w.World.AA.length=true->0≤ix w.Init.Count u/\ix w.Init.Count u≤400):∀(n i:Nat) (s:AB) (R:List (List Bool)),i≤w.AE.length->w.AE.length<n+i->RB (4+i) s.Sync->R.length=w.World.AA.length->(∀u:Nat,u<R.length->R[u]? =some (Jj (w.AE.take i) (u:Int)))->CI w.Init.Count w.World.AA.length (w.AE.take i) s->
 Av.AZ w n s R (i:Int)=some (bM w.World w.Init.Count (w.AE.take i) s (w.AE.drop i))
 |0,i,s,R,h1,h2,_,_,_,_=>by omega
 |n+1,i,s,R,h1,h2,h3,h4,h5,h6=>by
  rw[Av.AZ];unfold Av.L1;by_cases hi:i<w.AE.length
  . have r:=p _ (AAW hi);rw[A2 (by omega),B8 hi,AAF,Zb w.World h.s s (h3.mono (by omega)) _ r,AAF,Ej hi,bM];unfold Ud;cases hp:JL w.World s w.AE[i]with
    |false=>rfl
    |true=>
     rw[AAP rfl,AAO (c:=(!true)=true) (by simp),AAd];have g:=Kx hp;obtain⟨t,E⟩:=Bh.1 g;have z:w.AE[i].Thread.toNat<R.length:=(by omega);have q:gt R w.AE[i].Thread=some (Jj (w.AE.take i) w.AE[i].Thread):=(by unfold gt;rw[AAP t,h5 _ z];congr 2;omega);have v:=KA (w.AE.take i) w.AE[i].Thread;rw[List.length_take_of_le (by omega)]at v;have m:=l _ g;have y:=h6.2 _ g;obtain⟨B,C⟩:=fZ hp;rw[pos.L2 _ _ _ _ _ r (λk f=>by have:=B k f;omega) (λk f=>by have:=C k f;omega) q (Cd (by rw[h.c];exact g)) m];change (if aB w.Init.Count (w.AE.take i) w.AE[i]=true then _ else _)=_
     cases aB w.Init.Count (w.AE.take i) w.AE[i]with
     |false=>rfl
     |true=>
      unfold Av.J4;rw[AAP rfl,q,AAF,BO (by omega),BO (by omega),AAd];unfold Av.J5 Av.J6;have f:∀b,b=dW w.AE[i]->Av.AZ w n (Fu w.World s w.AE[i]) (R.set w.AE[i].Thread.toNat (Jj (w.AE.take i) w.AE[i].Thread++[b])) (Aq ((i:Int)+1))=some (bM w.World w.Init.Count (w.AE.take i++[w.AE[i]]) (Fu w.World s w.AE[i]) (w.AE.drop (i+1))):=by
       rintro b rfl;have o:=h6.next (wv:=w.World) g l (by simp;omega);rw[Ai (by omega)];rw[AAX hi]at o ⊢;refine eL h x p l n (i+1) _ _ (by omega) (by omega) ?_ (by simpa using h4) ?_ o
       . exact(h3.apply _ _ _ _ _).mono (by omega)
       . intro u D;rw[← AAX hi,LQ];have a:u<R.length:=(by simpa using D);by_cases d:w.AE[i].Thread=(u:Int)
         . have:w.AE[i].Thread.toNat=u:=(by omega);rw[AAP d,this,AAK a,d]
         . have:w.AE[i].Thread.toNat≠u:=(by omega);rw[AAO d,AAM this,h5 u a]
      by_cases j:w.AE[i].Kind=3
      . rw[AAP (by simp[j])];exact f _ (by simp[dW,j])
      . rw[AAO (by simpa using j)];exact f _ (by simp[dW,show(w.AE[i].Kind==3)=false by simpa using j])
  . rw[Ad (by omega),Fe hi];rfl
theorem cnt_of (h:OP w) (d:LW w=true):∀u,ED u w.World.AA.length=true->0≤ix w.Init.Count u/\ix w.Init.Count u≤400:=by
 intro u e;unfold LW at d;simp only[AAH]at d;obtain⟨a,b⟩:=Bh.1 e;have f:=h.c
 have:=Kk.1 d.1 u.toNat (by omega) (by omega);rw[show((u.toNat:Nat):Int)=u from by omega]at this;simpa using this
theorem eM (h:OP w) (f:w.AE.length≤16) (b:∀e∈w.AE,OO e) (d:LW w=true) (g:RB 4 w.Init.Sync):Av w=some (bM w.World w.Init.Count [] w.Init w.AE):=by
 have i:=h.s.t;have j:=Bn;unfold Av;rw[AAP ⟨by omega,by omega,B9 (by omega)⟩]
 have:=eL h f b (cnt_of h d) Bg 0 w.Init (List.replicate w.World.AA.length []) (by omega) (by omega) g (by simp) (by intro u a;simp at a;simp[a,Jj]) ⟨h.c,λu _=>by simp[Jj]⟩;rw[List.take_zero,AAe]at this;exact this
end
section
variable {w:AP}
theorem wP (c:w.AE.length≤16) (t:Int):∀(n j d:Nat),j≤w.AE.length->w.AE.length<n+j->d≤1000000->∃r,Ij.AZ t w n (d:Int) (j:Int)=some r/\(match(Jj (w.AE.drop j) t)[d]? with
 |some b=>∃(e:Nat) (h:e<w.AE.length),r=(e:Int)/\dW w.AE[e]=b
 |none=>r= -1)
 |0,j,d,h1,h2,_=>by omega
 |n+1,j,d,h1,h2,h3=>by
  rw[Ij.AZ];unfold Ij.L1 Ij.J1;by_cases a:j<w.AE.length
  . rw[A2 (by omega),B8 a,AAF,Ej a,rdB_cons,Ai (by omega)];by_cases g:w.AE[j].Thread=t
    . rw[AAP (by simpa using g),AAP g];cases d with
      |zero=>exact⟨_,rfl,j,a,rfl,rfl⟩
      |succ d=>rw[AAO (by simp;omega),CC (by omega) (by omega),show((d+1:Nat):Int)-1=(d:Int)from by omega,AA2];exact wP c t n (j+1) d (by omega) (by omega) (by omega)
    . rw[AAO (by simpa using g),AAO g];exact wP c t n (j+1) d (by omega) (by omega) h3
  . rw[Ad (by omega),Fe a];exact⟨_,rfl,rfl⟩
theorem uS (o:w.AE.length≤16) (l:List Int) (t:Int) (hn:l.length<4611686018427387904) (m:∀k∈l,1≤k/\k<1000000) (j:gt w.Init.Count t=some (ix w.Init.Count t)) (h:0≤ix w.Init.Count t/\ix w.Init.Count t≤400):∀(n i:Nat),i≤l.length->l.length<n+i->
 GJ.AZ l t w n (i:Int)=some ((l.drop i).all (KS (ix w.Init.Count t) (Jj w.AE t)))
 |0,i,h1,h2=>by omega
 |n+1,i,h1,h2=>by
  rw[GJ.AZ];unfold GJ.L1 GJ.J1 GJ.J2;by_cases hi:i<l.length
  . have g:=m _ (AAW hi);rw[A2 (by omega),B8 hi,AAF,j,AAF,Ej hi,Ai (by omega),uS o l t hn m j h n (i+1) (by omega) (by omega),AA6];generalize l[i]=k at g ⊢;generalize (l.drop (i+1)).all (KS (ix w.Init.Count t) (Jj w.AE t))=q;generalize ix w.Init.Count t=c at h ⊢;rw[CC (by omega) (by omega)];unfold KS KF;by_cases f:k<c
    . rw[A2 f,show decide (k<c)=true from by simpa using f];rfl
    . rw[Ad f,show decide (k<c)=false from by simpa using f];obtain⟨r,p,a⟩:=wP o t Bg 0 (k-c).toNat (by omega) (by have:=Bn;omega) (by omega);rw[show(((k-c).toNat:Nat):Int)=k-c from by omega,show((0:Nat):Int)=0 from rfl]at p;rw[AAe]at a;unfold Ij;rw[p,AAF,Bool.false_or];cases hb:(Jj w.AE t)[(k-c).toNat]? with
      |none=>rw[hb]at a;have d:=List.getElem?_eq_none_iff.1 hb;rw[show ED (k-c) (Jj w.AE t).length=false from by simp[ED];omega];simp only at a;subst a;rfl
      |some b=>
       rw[hb]at a;obtain⟨e,v,rfl,x⟩:=a;obtain⟨d,_⟩:=AAI.1 hb;rw[show ED (k-c) (Jj w.AE t).length=true from by simp[ED];omega,Ad (by omega),B8 v,AAF];have g:ix (Jj w.AE t) (k-c)=b:=(by unfold ix;rw[hb];rfl);rw[g,← x];unfold dW;by_cases s:w.AE[e].Kind=3
       . simp[s]
       . have u:(w.AE[e].Kind==3)=false:=(by simpa using s);unfold bne;rw[u];cases w.AE[e].Kind==23<;>rfl
  . rw[Ad (by omega),Fe hi];rfl
theorem rreads_eq (d:w.AE.length≤16) (l:List Int) (t:Int) (hn:l.length<4611686018427387904) (c:∀k∈l,1≤k/\k<1000000) (b:gt w.Init.Count t=some (ix w.Init.Count t)) (a:0≤ix w.Init.Count t/\ix w.Init.Count t≤400):
 GJ w t l=some (l.all (KS (ix w.Init.Count t) (Jj w.AE t))):=by
 have:=uS d l t hn c b a Bg 0 (by omega) (by have:=Bn;omega);rw[AAe]at this;exact this
theorem isNew_pre {c:Int} {a b:List Bool} {k:Int} (h:k<c+a.length):KS c (a++b) k=KS c a k:=by
 unfold KS KF;by_cases g:k<c
 . simp[g]
 . have d:ED (k-c) (a++b).length=true:=(by simp[ED];omega);have e:ED (k-c) a.length=true:=(by simp[ED];omega);rw[d,e];unfold ix;rw[AAf (by omega)]
theorem rval_loop (h:OP w) (l:w.AE.length≤16) (o:∀e∈w.AE,OO e) (g:∀u,ED u w.World.AA.length=true->0≤ix w.Init.Count u/\ix w.Init.Count u≤400):∀(n i:Nat) (s:AB),i≤w.AE.length->w.AE.length<n+i->RB (4+i) s.Sync->CI w.Init.Count w.World.AA.length (w.AE.take i) s->
 Di.DI w n s (i:Int)=some (bM w.World w.Init.Count (w.AE.take i) s (w.AE.drop i))
 |0,i,s,h1,h2,_,_=>by omega
 |n+1,i,s,h1,h2,h3,h6=>by
  rw[Di.DI];unfold Di.L2 Di.J4;by_cases hi:i<w.AE.length
  . have j:=o _ (AAW hi);rw[A2 (by omega),B8 hi,AAF,rStep_eq w.World h.s s (h3.mono (by omega)) _ j,AAF,Ej hi,bM];unfold Ud;cases hp:JL w.World s w.AE[i]with
    |false=>rfl
    |true=>
     rw[AAP rfl,AAO (c:=(!true)=true) (by simp),AAd];have f:=Kx hp;have b:=g _ f;have z:=h6.2 _ f;have r:=KA (w.AE.take i) w.AE[i].Thread;rw[List.length_take_of_le (by omega)]at r;obtain⟨p,q⟩:=fZ hp;have d:gt w.Init.Count w.AE[i].Thread=some (ix w.Init.Count w.AE[i].Thread):=Cd (by rw[h.c];exact f);have key:∀D:List Int,(∀k∈D,1≤k/\k<ix s.Count w.AE[i].Thread)->D.all (KS (ix w.Init.Count w.AE[i].Thread) (Jj w.AE w.AE[i].Thread))=D.all (KS (ix w.Init.Count w.AE[i].Thread) (Jj (w.AE.take i) w.AE[i].Thread)):=by
      intro D v;have t:Jj w.AE w.AE[i].Thread=Jj (w.AE.take i) w.AE[i].Thread++Jj (w.AE.drop i) w.AE[i].Thread:=(by rw[← rdB_app,ABY]);rw[t,Bool.eq_iff_iff,AAN,AAN];constructor<;>intro x k a<;>have:=x k a<;>have y:=v k a
      . rwa [isNew_pre (by omega)]at this
      . rwa [isNew_pre (by omega)]
     rw[rreads_eq l _ _ j.1 (λk a=>by have:=p k a;omega) d b,AAF,rreads_eq l _ _ j.2 (λk a=>by have:=q k a;omega) d b,AAF,key _ p,key _ q];unfold aB;cases w.AE[i].EI.all (KS (ix w.Init.Count w.AE[i].Thread) (Jj (w.AE.take i) w.AE[i].Thread))with
     |false=>rfl
     |true=>
      cases w.AE[i].Dr.all (KS (ix w.Init.Count w.AE[i].Thread) (Jj (w.AE.take i) w.AE[i].Thread))with
      |false=>rfl
      |true=>rw[AAO (c:=(!true)=true) (by simp),AAO (c:=(!true)=true) (by simp),AAd,AAd,Ai (by omega)];have m:=h6.next (wv:=w.World) f g (by simp;omega);rw[AAX hi]at m ⊢;exact rval_loop h l o g n (i+1) _ (by omega) (by omega) ((h3.apply _ _ _ _ _).mono (by omega)) m
  . rw[Ad (by omega),Fe hi];rfl
theorem mF {a b c d e f g:Bool}:(a&&(b&&(c&&(d&&(e&&(f&&g))))))=(a&&((b&&c)&&((d&&(e&&f))&&g))):=by cases a<;>cases b<;>cases c<;>cases d<;>cases e<;>rfl
theorem wZ (f:∀e∈w.AE,OO e) (g:RB 4611686018427387904 w.Init.Sync):FA w=some (YW w):=by
 unfold FA YW;rw[QO,AAF];cases hv:Ct w.World with
 |false=>rfl
 |true=>
  have d:=DB hv;rw[AAP rfl,AAd];have b:Hz w.World w.Init=some (Kl w.World w.Init):=LU _ d _;rw[b,AAF];cases hf:Kl w.World w.Init with
  |false=>rfl
  |true=>
   rw[AAP rfl,AAd];by_cases a:w.AE.length≤16
   . have h:OP w:=WinF.l ⟨hv,hf,a⟩;rw[A2 (by omega),show decide (w.AE.length≤16)=true from by simpa using a,AAd,Zl w (by have:=d.t;have:=h.c;omega) a,AAF];unfold mE;rw[mF,fR h,AAF,fP h g,AAF,fO h,AAF];cases hc:LW w with
     |false=>rfl
     |true=>
      rw[AAP rfl,AAd];cases(Gj (λi=>TP w i (KI w i)) 0 w.Init.Sync.AA.length&&Gj (λi=>Z9 w i (KI w i)) 0 w.Init.Sync.AA.length)with
      |false=>rfl
      |true=>
       rw[AAP rfl,AAd];cases hL:(Gj (λi=>Ov w i (ix w.Init.Sync.AG i)) 0 w.Init.Sync.AG.length&&(txW w&&Gj (λi=>Pt w i (KI w i)) 0 w.Init.Sync.AA.length))with
       |false=>rfl
       |true=>rw[AAH]at hL;rw[AAP rfl,AAd,eM h a f hc (RB_of h hL.1)];cases Gj (gE w) 0 w.Init.AH.length<;>rfl
   . rw[Ad (by omega),show decide (w.AE.length≤16)=false from by simpa using a];rfl
theorem rValid_eq (d:∀e∈w.AE,OO e) (g:RB 4611686018427387904 w.Init.Sync):Di w=some (YW w):=by
 unfold Di YW;rw[LP,AAF];cases hv:Ct w.World with
 |false=>rfl
 |true=>
  have b:=DB hv;rw[AAO (c:=(!true)=true) (by simp),AAd,gS _ b,AAF];cases hf:Kl w.World w.Init with
  |false=>rfl
  |true=>
   rw[AAO (c:=(!true)=true) (by simp),AAd];by_cases a:w.AE.length≤16
   . have h:OP w:=WinF.l ⟨hv,hf,a⟩;rw[Ad (by omega),show decide (w.AE.length≤16)=true from by simpa using a,AAd,rcounts_eq w (by have:=b.t;have:=h.c;omega) a,AAF,rstatuses_eq h,AAF];unfold mE;cases hc:LW w with
     |false=>rfl
     |true=>
      rw[AAO (c:=(!true)=true) (by simp),AAd];cases hs:Gj (λi=>TP w i (KI w i)) 0 w.Init.Sync.AA.length with
      |false=>rfl
      |true=>
       rw[AAO (c:=(!true)=true) (by simp),AAd,rholders_eq h g hs,AAF];unfold Di.J1;rw[rfutures_eq h];cases hL:Gj (λi=>Ov w i (ix w.Init.Sync.AG i)) 0 w.Init.Sync.AG.length with
       |false=>cases Gj (λi=>Z9 w i (KI w i)) 0 w.Init.Sync.AA.length<;>rfl
       |true=>have f:Di.J3 w=some (bM w.World w.Init.Count [] w.Init w.AE):=(by have:=rval_loop h a d (cnt_of h hc) Bg 0 w.Init (by omega) (by have:=Bn;omega) (RB_of h hL) ⟨h.c,λu _=>by simp[Jj]⟩;rw[List.take_zero,AAe]at this;exact this);rw[f];cases Gj (λi=>Z9 w i (KI w i)) 0 w.Init.Sync.AA.length<;>cases txW w<;>cases Gj (λi=>Pt w i (KI w i)) 0 w.Init.Sync.AA.length<;>cases Gj (gE w) 0 w.Init.AH.length<;>rfl
   . rw[A2 (by omega),show decide (w.AE.length≤16)=false from by simpa using a];rfl
end
theorem qR (wv:AD) (l:List AK):∀a s,GM wv a s l=(0,0)∨(GM wv a s l).2=12/\(a.length:Int)≤(GM wv a s l).1:=by
 induction l with
 |nil=>exactλ_ _=>.inl rfl
 |cons x r ih=>
  intro a s;unfold GM;split
  . refine(ih (a++[x]) _).imp id λh=>⟨h.1,?_⟩
    have:=h.2;simp at this ⊢;omega
  . exact .inr ⟨rfl,by simp⟩
structure AT (t:BN):Prop where
 w:Ct t.World=true
 l:t.AE.length≤400
 c:GM t.World [] (Ft t.World) t.AE=(0,0)
 e:∀e∈t.AE,OO e
theorem AT.of {t:BN} (a:∀e∈t.AE,OO e) (h:(Iy t).2=0):AT t:=by
 unfold Iy at h;split at h
 . cases h
 . split at h
   . rename_i c b;rcases qR t.World t.AE [] (Ft t.World)with hc|⟨hc,_⟩
     . exact⟨b,by omega,hc,a⟩
     . rw[hc]at h;cases h
   . cases h
theorem AT.check {t:BN} (h:AT t):Iy t=(0,0):=by unfold Iy;rw[AAO (by have:=h.l;omega),AAP h.w,h.c]
theorem AT.poss {t:BN} (h:AT t) {i:Nat} (hi:i<t.AE.length):JL t.World (Gl t i) t.AE[i]=true:=by
 obtain⟨_,b⟩:=Zf h.w h.l h.c i (by omega);rw[ABD hi,GM]at b;split at b
 . rename_i a;rw[AAH]at a;exact a.1
 . exact absurd (congrArg Prod.snd b) (λh:(12:Int)=0=>by cases h)
theorem AT.rb {t:BN}:∀i,i≤t.AE.length->RB i (Gl t i).Sync
 |0,_=>RB.start _
 |i+1,hi=>by rw[OT (by omega)];exact(AT.rb i (by omega)).apply _ _ _ _ _
theorem AT.step {t:BN} (h:AT t) {i:Nat} (hi:i<t.AE.length):Ud t.World (Gl t i) t.AE[i]=(Gl t (i+1),true):=by unfold Ud;rw[AAP (h.poss hi),OT hi]
theorem AT.vstep {t:BN} (h:AT t) {i:Nat} (hi:i<t.AE.length):Bm t.World (Gl t i) t.AE[i]=some (Gl t (i+1),true):=by rw[Zb _ (DB h.w) _ ((AT.rb i (by omega)).mono (by have:=h.l;omega)) _ (h.e _ (AAW hi)),h.step hi]
theorem AT.rstep {t:BN} (h:AT t) {i:Nat} (hi:i<t.AE.length):Dd t.World (Gl t i) t.AE[i]=some (Gl t (i+1),true):=by rw[rStep_eq _ (DB h.w) _ ((AT.rb i (by omega)).mono (by have:=h.l;omega)) _ (h.e _ (AAW hi)),h.step hi]
theorem snap_loop {t:BN} (h:AT t) {b:Nat} (c:b≤t.AE.length):∀(n i:Nat),i≤b->b<n+i->Ld.AZ (b:Int) t n (Gl t i) (i:Int)=some (Gl t b,0)
 |0,i,h1,h2=>by omega
 |n+1,i,h1,h2=>by
  have e:=h.l;rw[Ld.AZ];unfold Ld.L1;have a:((t.AE.take (b:Int).toNat).length:Int)=b:=by rw[AA4,List.length_take_of_le c]
  rw[a];by_cases hi:i<b
  . have d:gt (t.AE.take (b:Int).toNat) (i:Int)=some t.AE[i]:=(by rw[JJ,AA4,List.getElem?_take_of_lt hi];simp);rw[A2 (by omega),d,AAF,h.vstep (by omega),AAF,Ai (by omega)];exact snap_loop h c n (i+1) (by omega) (by omega)
  . have:i=b:=(by omega);subst this;rw[Ad (by omega)];rfl
theorem xC {t:BN} (h:AT t) {b:Nat} (a:b≤t.AE.length):∀(n i:Nat),i≤b->b<n+i->G1.AZ (b:Int) t n (Gl t i) (i:Int)=some (Gl t b)
 |0,i,h1,h2=>by omega
 |n+1,i,h1,h2=>by
  have c:=h.l;rw[G1.AZ];unfold G1.L1;by_cases hi:i<b
  . rw[A2 (by omega),B8 (by omega),AAF,h.rstep (by omega),AAF,Ai (by omega)];exact xC h a n (i+1) (by omega) (by omega)
  . have:i=b:=(by omega);subst this;rw[Ad (by omega)];rfl
theorem after_eq {t:BN} (h:AT t) {b:Nat} (a:b≤t.AE.length):G1 t (b:Int)=some (Gl t b):=by unfold G1;rw[eR _ (DB h.w),AAF];exact xC h a Bg 0 (by omega) (by have:=Bn;have:=h.l;omega)
structure wV (s:AB):Prop where
 c:s.Cells.length≤100
 f:s.AH.length≤100
 n:s.Count.length≤100
 d:s.Sync.B4.length≤100
 t:s.Sync.AA.length≤100
 l:s.Sync.AG.length≤100
 r:RB 1000000 s.Sync
def uN (e:AK):Prop:=e.EI.length≤1000/\e.Dr.length≤1000
theorem nums_len {c:Int}:∀(D:List Int) (a:Int),a<c->Gp c a D=true->(D.length:Int)+a+1≤c:=by
 intro D;induction D with
 |nil=>intro a h _;simp;omega
 |cons x r ih=>
  intro a h hn;unfold Gp at hn;simp only[AAH,AAZ]at hn
  have:=ih x hn.2.1 hn.2.2;simp only[AAx];omega
theorem AT.small {t:BN} (h:AT t) {i:Nat} (hi:i≤t.AE.length):wV (Gl t i):=by obtain⟨a,_⟩:=Zf h.w h.l h.c i hi;obtain⟨e,g,j,k⟩:=Lc a.f;obtain⟨r,s,u⟩:=Em e;have b:=DB h.w;have m:=b.c;have n:=b.l;have o:=b.d;have p:=b.f;have q:=b.t;exact⟨by omega,by omega,by omega,by omega,by omega,by omega,(AT.rb i hi).mono (by have:=h.l;omega)⟩
theorem AT.ev {t:BN} (h:AT t) {e:AK} (m:e∈t.AE):uN e:=by
 obtain⟨i,hi,rfl⟩:=List.getElem_of_mem m;obtain⟨a,_⟩:=Zf h.w h.l h.c i (by omega);have b:=h.poss hi;have k:=a.c _ (Kx b);have n:=KA (t.AE.take i) t.AE[i].Thread;have o:=h.l;rw[List.length_take_of_le (by omega)]at n;unfold JL FE at b;simp only[AAH]at b;obtain⟨_,_,_,_,⟨⟨_,d⟩,_,f⟩,_⟩:=b;rw[k]at d f;have key:∀D:List Int,Gp ((Jj (t.AE.take i) t.AE[i].Thread).length:Int) 0 D=true->D.length≤1000:=by
  intro D g;cases D with
  |nil=>simp
  |cons x r=>
   have j:0<((Jj (t.AE.take i) t.AE[i].Thread).length:Int):=by have:=Z5 _ _ g x (by simp);omega
   have:=nums_len _ _ j g;omega
 exact⟨key _ d,key _ f⟩
def Md (k i:Nat):Nat:=(i+k-1)/k
theorem o7 {k:Nat} (a:0<k) (q r:Nat) (b:0<r) (c:r≤k):Md k (q*k+r)=q+1:=by unfold Md;rw[show q*k+r+k-1=k*q+(r-1+k)from by rw[AA8];omega,Nat.mul_add_div a,Nat.add_div_right _ a,Nat.div_eq_of_lt (by omega)]
theorem wB {k:Nat} (a:0<k) (i:Nat):Md k i≤i+k:=by unfold Md;exact ABF (Nat.div_le_self _ _) (by omega)
def KC (t:BN) (k i:Nat):List AP:=(List.range (Md k i)).map λj=>fT t k (j*k)
theorem Ky (t:BN) (k i:Nat):(KC t k i).length=Md k i:=by simp[KC]
theorem lU (n:Nat):List.range (n+1)=List.range n++[n]:=List.range_succ
theorem slice_eq {l:List AK} {i k:Nat} (hi:i≤l.length):(l.drop i).take (((if(l.length:Int)<(i:Int)+(k:Int)then(l.length:Int)else(i:Int)+(k:Int)).toNat)-i)=(l.drop i).take k:=by
 split
 . rw[AAs (by simp),AAs (by simp;omega)]
 . rw[show((i:Int)+(k:Int)).toNat-i=k from by omega]
def aO (t:BN) (size:Int):List AP×Int:=if(Iy t).2≠0 then([],12)else if size<1∨size>16 then([],1)else(KC t size.toNat t.AE.length,0)
theorem uT {t:BN} (h:AT t) {k:Nat} (a:0<k) (f:k≤16):∀(n j:Nat),j*k<t.AE.length+k->t.AE.length+k<n+j*k->Gb.AZ (k:Int) t n ((List.range j).map λj=>fT t k (j*k)) ((j*k:Nat):Int)=some (KC t k t.AE.length,0)
 |0,j,h1,h2=>by omega
 |n+1,j,h1,h2=>by
  have o:=h.l;rw[Gb.AZ];unfold Gb.L1;have m:j≤j*k:=Nat.le_mul_of_pos_right j a;have b:(j+1)*k=j*k+k:=ABM j k;have c:t.AE.length≤j*k->Md k t.AE.length=j:=by
   intro hi;cases j with
   |zero=>have g:t.AE.length=0:=(by omega);rw[g];unfold Md;exact Nat.div_eq_of_lt (by omega)
   |succ j=>
    have p:(j+1)*k=j*k+k:=ABM j k
    have:=o7 a j (t.AE.length-j*k) (by omega) (by omega);rw[show j*k+(t.AE.length-j*k)=t.AE.length from by omega]at this;exact this
  generalize d:j*k=i at*;by_cases hi:i<t.AE.length
  . rw[A2 (by omega),after_eq h (by omega),AAF,CC (n:=(i:Int)+(k:Int)) (by omega) (by omega),AA4,slice_eq (by omega),AAP (by split<;>omega),BO (by simp;omega)];have e:((List.range j).map λj=>fT t k (j*k))++[AP.mk t.World (i:Int) (Gl t i) ((t.AE.drop i).take k)]=(List.range (j+1)).map λj=>fT t k (j*k):=(by rw[lU,AAv,List.map_singleton,d];rfl);rw[e]
    have:=uT h a f n (j+1) (by omega) (by omega);rw[b]at this;exact this
  . rw[Ad (by omega)];unfold Gb.J2 KC;rw[c (by omega)]
theorem rSplit_eq (t:BN) (f:∀e∈t.AE,OO e) (n:Int):Gb t n=some (aO t n):=by
 unfold Gb aO;rw[rCheck_eq t f,AAF];by_cases a:(Iy t).2=0
 . have h:=AT.of f a;rw[AAO (c:=((Iy t).2 != 0)=true) (by simp[a]),AAO (c:=(Iy t).2≠0) (by simp[a])];unfold Gb.J1;by_cases b:n<1
   . rw[A2 b,AAP rfl,AAP (.inl b)]
   . rw[Ad b];by_cases d:n>16
     . rw[AAP (by simpa using d),AAP (.inr d)]
     . rw[AAO (by simpa using d),AAO (by omega)]
       have:=uT h (k:=n.toNat) (by omega) (by omega) Bg 0 (by omega) (by have:=Bn;have:=h.l;omega);rw[show((n.toNat:Nat):Int)=n from by omega,Nat.zero_mul]at this;exact this
 . rw[AAP (c:=((Iy t).2 != 0)=true) (by simp[a]),AAP (c:=(Iy t).2≠0) a]
end Go.Abs
namespace Go.Abs
theorem v7:Gn=some true:=by decide +kernel
end Go.Abs
namespace Go.Abs
set_option maxHeartbeats 4000000
def Cc {α:Type} (o:ABh α) (Q:α->Prop):Prop:=∃r,o=some r/\Q r
theorem tR {a:Type} {r:a} {Q:a->Prop} (h:Q r):Cc (some r) Q:=⟨r,rfl,h⟩
theorem tB {a b:Type} {o:ABh a} {Q:a->Prop} {f:a->ABh b} {R:b->Prop} (h:Cc o Q) (k:∀x,Q x->Cc (f x) R):Cc (o.bind f) R:=by obtain⟨x,rfl,c⟩:=h;exact k x c
theorem tG {a b:Type} {l:List a} {i:Int} {f:a->ABh b} {R:b->Prop} (h:0≤i/\i<(l.length:Int)) (k:∀x,x∈l->Cc (f x) R):Cc ((gt l i).bind f) R:=by
 obtain⟨n,rfl⟩:∃n:Nat,i=n:=⟨i.toNat,by omega⟩;have hn:n<l.length:=by omega
 rw[B8 hn,AAF];exact k _ (AAW hn)
theorem tC {b:Type} {p:Prop} [Decidable p] {a:ABh b} {R:b->Prop} (h:p) (k:Cc a R):Cc (if p then a else none) R:=by rw[AAP h];exact k
theorem tI {d:Type} {c:Bool} {a b:ABh d} {R:d->Prop} (e:c=true->Cc a R) (f:c=false->Cc b R):Cc (if c=true then a else b) R:=by
 cases c with
 |true=>simpa using e rfl
 |false=>simpa using f rfl
theorem tM {a:Type} {o:ABh a} {Q R:a->Prop} (h:Cc o Q) (k:∀x,Q x->R x):Cc o R:=by obtain⟨x,e,b⟩:=h;exact⟨x,e,k x b⟩
structure Ix (t:Dh):Prop where
 l:t.L.length≤4000000000000000000
 a:0≤t.At/\t.At≤t.L.length
 u:∀x∈t.L,0≤x/\x<256
theorem GU {t:Dh} (b:Ix t) {n:Int} (hn:0<n/\n<1000):Cc (Bc t n) λr=>(0≤r.1/\r.1<n)/\Ix r.2:=by
 have e:=b.l;have f:=b.a;unfold Bc Bc.J1;rw[CC (n:=t.At+1) (by omega) (by omega),CC (n:=t.At+1-1) (by omega) (by omega)];refine tI (λ_=> ?_) λh=> ?_
 . exact tI (λ_=>tR ⟨⟨by omega,hn.1⟩,b⟩) λh=>by cases h
 . have d:¬t.At≥(t.L.length:Int):=(by simpa using h);refine tI (λh=>absurd (AAT h) (by omega)) λ_=> ?_;refine tG (by omega) λx c=>tC (by omega) (tR ⟨?_,b.l,by simp only;omega,b.u⟩);have c:=b.u x c;rw[CC (by omega) (by omega)];exact⟨Int.tmod_nonneg _ c.1,Int.tmod_lt_of_pos _ hn.1⟩
def qS:ABi:=⟨#[113]⟩
def vN:List ABi:=[⟨#[97]⟩,⟨#[98]⟩,⟨#[120]⟩,⟨#[121]⟩,⟨#[118]⟩]
theorem Vb {l k:List ABi} (h:(l.all λx=>k.any λy=>decide (x=y))=true) {x:ABi} (c:x∈l):x∈k:=by obtain⟨y,a,b⟩:=List.any_eq_true.1 (AAN.1 h x c);rw[AAT b];exact a
theorem Wz {x:ABi} (h:(vN.any λy=>decide (x=y))=true):x∈vN:=Vb (l:=[x]) (by simpa using h) (AAh.2 rfl)
def SX:Nat->BA->Prop
 |0,_=>False
 |n+1,e=>e.Op=1/\e.L=[]∨(e.Op=2/\e.L=[]/\e.Name∈vN)∨(e.Op=3/\e.Name=qS/\∃a,e.L=[a]/\SX n a)∨(e.Op∈[(6:Int),7,8,11,13,17]/\∃a b,e.L=[a,b]/\SX n a/\SX n b)
theorem okE_mono {n:Nat}:∀{e:BA},SX n e->SX (n+1) e:=by
 induction n with
 |zero=>exactλh=>h.elim
 |succ n ih=>
  intro e h;rcases h with h|h|⟨c,d,a,f,g⟩|⟨c,a,b,d,f,g⟩
  . exact .inl h
  . exact .inr (.inl h)
  . exact .inr (.inr (.inl ⟨c,d,a,f,ih g⟩))
  . exact .inr (.inr (.inr ⟨c,a,b,d,ih f,ih g⟩))
def Ub (m m':AO):Prop:=Ix m'.t/\m'={m with t:=m'.t}
theorem Ti {R:AO->Int->ABh (BA×AO)} {a:Int} {m:AO} {v:Int×Dh} (d:Ix v.2) (D:0≤v.1/\v.1<10) {c:Bool} {j:Nat}
 (h:c=false->7≤v.1->∀k f,(f=0∨f=Aq (a-1))->Ix k.t->Cc (R k f) λr=>SX j r.1/\Ub k r.2):
 Cc (C5.J1 R a m v c) λr=>SX (j+1) r.1/\Ub m r.2:=by
 unfold C5.J1 JV IH Hp;simp only[AAF];refine tI (λ_=> ?_) λw=>tI (λ_=> ?_) λl=> ?_
 . refine tB (GU d (by omega)) ?_;rintro n ⟨_,b⟩;exact tR ⟨.inl ⟨rfl,rfl⟩,b,rfl⟩
 . refine tB (GU d (by omega)) ?_;rintro n ⟨g,b⟩;exact tG g λx i=>tR ⟨.inr (.inl ⟨rfl,rfl,Vb (by decide) i⟩),b,rfl⟩
 . have l:=of_decide_eq_false l;have h:=h w (by omega);refine tI (λ_=> ?_) λ_=> ?_
   . refine tB (h _ _ (.inl rfl) d) ?_;rintro e ⟨b,s,u⟩;exact tR ⟨.inr (.inr (.inl ⟨rfl,rfl,_,rfl,b⟩)),s,by rw[u]⟩
   . refine tB (GU d (by omega)) ?_;rintro n ⟨g,b⟩;refine tG g λx i=>tB (h _ _ (.inr rfl) b) ?_;rintro e ⟨o,p,q⟩;refine tB (h _ _ (.inr rfl) p) ?_;rintro C ⟨y,z,B⟩;exact tR ⟨.inr (.inr (.inr ⟨i,_,_,rfl,o,y⟩)),z,by rw[B,q]⟩
theorem okE_le {a b:Nat} (h:a≤b) {e:BA} (c:SX a e):SX b e:=by
 induction h with
 |refl=>exact c
 |step _ ih=>exact okE_mono ih
theorem Th {n:Nat} {m:AO} (hn:0<n) (c:Ix m.t):Cc (CE n m 0) λr=>SX 1 r.1/\Ub m r.2:=by
 obtain⟨n,rfl⟩:∃k,n=k+1:=⟨n-1,by omega⟩;show Cc (C5 (CE n) m 0) _;unfold C5;refine tB (GU c (by omega)) ?_;rintro v ⟨b,a⟩;refine tI (λ_=>Ti a b (λh=>by cases h)) λ_=>tI (λ_=>Ti a b λh d=> ?_) λh=> ?_
 . exact absurd (of_decide_eq_false h) (by omega)
 . simp at h
theorem zC (d:Nat):∀(n:Nat) (m:AO),d<n->d<100->Ix m.t->Cc (CE n m d) λr=>SX (d+1) r.1/\Ub m r.2:=by
 induction d with
 |zero=>exactλn m hn _ a=>Th hn a
 |succ d ih=>
  intro n m hn hd a;obtain⟨n,rfl⟩:∃k,n=k+1:=⟨n-1,by omega⟩;show Cc (C5 (CE n) m _) _;unfold C5;refine tB (GU a (by omega)) ?_;rintro v ⟨g,f⟩;have key:∀c,Cc (C5.J1 (CE n) ((d+1:Nat):Int) m v c) λr=>SX (d+1+1) r.1/\Ub m r.2:=by
   intro c;refine Ti f g λ_ _ i j e b=> ?_;rcases e with rfl|rfl
   . exact tM (Th (by omega) b) λr h=>⟨okE_le (by omega) h.1,h.2⟩
   . rw[CC (by omega) (by omega),show((d+1:Nat):Int)-1=(d:Int)from by omega];exact ih n i (by omega) (by omega) b
  exact tI (λ_=>key _) λ_=>tI (λ_=>key _) λ_=>key _
theorem Jr {m:AO} {d:Int} (hd:d=0∨d=1) (a:Ix m.t):Cc (CE Bg m d) λr=>SX 2 r.1/\Ub m r.2:=by
 have b:=Bn;rcases hd with rfl|rfl
 . exact tM (Th (by omega) a) λr h=>⟨okE_le (by omega) h.1,h.2⟩
 . exact zC 1 Bg m (by omega) (by omega) a
theorem NA (l:List ABi) (s:ABi) (d:l.length<1000000):Cc (CN l s) λr=> -1≤r/\r<l.length:=by
 have c:=Bn;have key:∀n (i:Nat),l.length<n+i->i≤l.length->Cc (CN.AZ l s n i) λr=> -1≤r/\r<l.length:=by
  intro n;induction n with
  |zero=>intro i a b;omega
  |succ n ih=>intro i a b;unfold CN.AZ CN.L1 CN.J1;refine tI (λh=> ?_) λ_=>tR (by omega);have h:=AAT h;refine tG (by omega) λx _=>tI (λ_=>tR (by omega)) λ_=> ?_;rw[Ai (by omega)];exact ih (i+1) (by omega) (by omega)
 exact key Bg 0 (by omega) (by omega)
theorem Pe {m:AO} (a:m.held.length<1000) (s:ABi):Cc (Dg m s) λr=>r.2=m:=by unfold Dg;exact tB (NA _ _ (by omega)) λ_ _=>tR rfl
def cN:ABi:=⟨#[99]⟩
def noE:BA:=⟨0,0,⟨#[]⟩,[]⟩
def gL (T:ABi->Prop) (o:Int) (s a:ABi) (i:List BA):Prop:=
 (o=1->i=[]->s∈vN)/\(o=4->s=⟨#[109]⟩∨s=⟨#[110]⟩)/\(o=5∨o=6->s=⟨#[114]⟩)/\(o=12∨o=13->T s)/\(o=14->s=⟨#[102]⟩)/\(o=15->s=⟨#[97]⟩/\a=⟨#[102]⟩)
def bdF (o:Int) (b e:List AR):Prop:=(o∉[(2:Int),3,4,5,6,7,8]->b=[])/\(o≠2->e=[])
def Ha (T:ABi->Prop):Nat->AR->Prop
 |0,_=>False
 |n+1,s=>(1≤s.Op/\s.Op≤15)/\(s.Index=[]∨s.Op=1/\s.Name=qS/\∃a,s.Index=[a]/\SX 2 a)/\(SX 2 s.Expr∨s.Op∉[(1:Int),2,3,14]/\s.Expr=noE)/\(s.Op∈[(9:Int),10,11]->s.Name=cN)/\
  s.Body.length≤4/\s.Else.length≤4/\(∀x∈s.Body,Ha T n x)/\(∀x∈s.Else,Ha T n x)/\bdF s.Op s.Body s.Else/\gL T s.Op s.Name s.Arg s.Index
structure MK (H:Nat) (m:AO):Prop where
 t:Ix m.t
 h:m.held.length≤H/\H≤500
structure IQ (m m':AO):Prop where
 t:Ix m'.t
 h:m'.held=m.held
theorem Ub.keep {m a:AO} (h:Ub m a):IQ m a:=⟨h.1,by rw[h.2]⟩
theorem IQ.mk' {H:Nat} {m a:AO} (b:MK H m) (h:IQ m a):MK H a:=⟨h.t,by rw[h.h];exact b.h⟩
theorem IQ.trans {a b c:AO} (h:IQ a b) (g:IQ b c):IQ a c:=⟨g.t,g.h.trans h.h⟩
def okL (T:ABi->Prop) (k:Nat) (l:List AR):Prop:=l.length≤2/\∀x∈l,Ha T k x
theorem Kz {T:ABi->Prop} {s:ABi} {e:BA} (h:SX 2 e) (a:s∈vN) (k:Nat):Ha T (k+1) ⟨1,0,s,⟨#[]⟩,[],e,[],[]⟩:=⟨⟨by simp,by simp⟩,.inl rfl,.inl h,by simp,by simp,by simp,by simp,by simp,⟨λ_=>rfl,λ_=>rfl⟩,λ_ _=>a,by simp,by simp,by simp,by simp,by simp⟩
theorem O4 {T:ABi->Prop} {o l:Int} {s a:ABi} (h:1≤o/\o≤15) (b:o∉[(1:Int),2,3,14]) (c:o∈[(9:Int),10,11]->s=cN) (d:gL T o s a []) {k:Nat}:Ha T (k+1) ⟨o,l,s,a,[],noE,[],[]⟩:=
 ⟨h,.inl rfl,.inr ⟨b,rfl⟩,c,by simp,by simp,by simp,by simp,⟨λ_=>rfl,λ_=>rfl⟩,d⟩
theorem Pk {T:ABi->Prop} {o l:Int} {s a:ABi} (g:o∈[(2:Int),3,4,5,6,7,8]) (h:1≤o/\o≤15) (c:o∉[(1:Int),2,3,14]) (d:o∉[(9:Int),10,11]) (e:gL T o s a []) {k:Nat} {b:List AR} (f:b.length≤4) (i:∀x∈b,Ha T k x):Ha T (k+1) ⟨o,l,s,a,[],noE,b,[]⟩:=
 ⟨h,.inl rfl,.inr ⟨c,rfl⟩,λh=>absurd h d,f,by simp,i,by simp,⟨λh=>absurd g h,λ_=>rfl⟩,e⟩
section
variable {T:ABi->Prop} {R158:AO->ABi->Int->ABh (List AR×AO)} {R86:AO->Int->Int->ABh (List AR×AO)} {depth:Int} {nested:Bool} {k H:Nat}
structure OS (T:ABi->Prop) (R158:AO->ABi->Int->ABh (List AR×AO)) (R86:AO->Int->Int->ABh (List AR×AO)) (depth:Int) (k H:Nat):Prop where
 d:0≤depth/\depth<100
 b:0<depth->∀m s,MK H m->Cc (R158 m s (depth-1)) λr=>okL T (k+1) r.1/\IQ m r.2
 s:0<depth->∀m d n,MK H m->(d=0∨d=depth-1)->(n=1∨n=2)->Cc (R86 m d n) λr=>okL T (k+1) r.1/\IQ m r.2
abbrev Good (T:ABi->Prop) (k:Nat) (m:AO) (r:AR×AO):Prop:=Ha T (k+2) r.1/\IQ m r.2
theorem ZV {m:AO} (a:MK H m) (b:Bool):Cc (Au.wJ m b) (Good T k m):=by unfold Au.wJ Eh;refine tI (λ_=>tR ⟨O4 (by decide) (by decide) (by decide) (by simp[gL]),a.t,rfl⟩) λ_=> ?_;refine tB (Jr (.inr rfl) a.t) ?_;rintro e ⟨c,d⟩;exact tR ⟨Kz c (Wz (by decide)) _,d.keep⟩
theorem VR {m:AO} (a:MK H m) (v:Int×Dh) (b:Bool):Cc (Au.fV m v b) (Good T k m):=by
 unfold Au.fV;refine tI (λ_=> ?_) λ_=>tI (λ_=>tI (λ_=> ?_) λ_=>ZV a _) λ_=>ZV a _
 . refine tB (Jr (.inr rfl) a.t) ?_;rintro e ⟨d,c⟩;exact tR ⟨⟨⟨by simp,by simp⟩,.inl rfl,.inl d,by simp,by simp,by simp,by simp,by simp,⟨λ_=>rfl,λ_=>rfl⟩,by simp[gL]⟩,c.1,by rw[c.2]⟩
 . refine tB (GU a.t (by omega)) ?_;rintro e ⟨_,c⟩;exact tM (ZV (k:=k) (m:={m with t:=e.2}) ⟨c,a.h⟩ _) λr h=>⟨h.1,h.2.t,h.2.h⟩
theorem ZU {m:AO} (a:MK H m) (v:Int×Dh) (b:Bool):Cc (Au.RX v m b) (Good T k m):=by unfold Au.RX;refine tI (λ_=> ?_) λ_=>tI (λ_=>tI (λ_=>tI (λ_=>VR a _ _) λ_=>VR a _ _) λ_=>VR a _ _) λ_=>VR a _ _;refine tB (GU a.t (by omega)) ?_;rintro e ⟨f,d⟩;refine tR ⟨Pk (by decide) (by decide) (by decide) (by decide) (by simp[gL]) (by simp) ?_,d,rfl⟩;intro x c;simp only[AAh]at c;subst c;rw[CC (by omega) (by omega)];refine O4 (by omega) ?_ (λ_=>rfl) ⟨by omega,by omega,by omega,by omega,by omega,by omega⟩;simp;omega
theorem ZY {m:AO} (a:MK H m) (v:Int×Dh) (b:Bool):Cc (Au.J9 nested v m b) (Good T k m):=by
 unfold Au.J9 IH Eh;refine tI (λ_=> ?_) λ_=>tI (λ_=>tI (λ_=> ?_) λ_=>ZU a _ _) λ_=>ZU a _ _
 . simp only[AAF];refine tR ⟨Pk (by decide) (by decide) (by decide) (by decide) (by simp[gL]) (by simp) ?_,a.t,rfl⟩;intro x c;simp only[AAg,ABJ,ABQ]at c;rcases c with rfl|rfl
   . exact O4 (by decide) (by decide) (λ_=>rfl) (by simp[gL])
   . exact Kz (.inr (.inl ⟨rfl,rfl,Wz (by decide)⟩)) (Wz (by decide)) _
 . refine tB (Pe (by have:=a.h;omega) _) ?_;rintro e rfl;exact ZU a _ _
theorem gZ (g:OS T R158 R86 depth k H) (hn:nested=true->0<depth) {m:AO} (a:MK H m) (v:Int×Dh) {b:Bool} (i:b=true->0<depth):Cc (Au.J8 R86 depth m nested v b) (Good T k m):=by
 have hd:=g.d;unfold Au.J8;refine tI (λh=> ?_) λ_=>tI (λ_=>tI (λ_=>tI (λ_=> ?_) λ_=>ZY a _ _) λ_=>ZY a _ _) λ_=>ZY a _ _
 . refine tB (g.s (i h) _ _ _ ⟨a.t,a.h⟩ (.inr (CC (by omega) (by omega))) (.inr rfl)) ?_;rintro e ⟨c,f⟩;exact tR ⟨Pk (by decide) (by decide) (by decide) (by decide) (by simp[gL]) (by have:=c.1;omega) c.2,f.t,f.h⟩
 . refine tB (Pe (by have:=a.h;omega) _) ?_;rintro e rfl;exact ZY a _ _
theorem wN (d:OS T R158 R86 depth k H) (hn:nested=true->0<depth) {m:AO} (a:MK H m) (v:Int×Dh) {b:Bool} (i:b=true->0<depth):Cc (Au.J7 R86 depth m nested v b) (Good T k m):=by unfold Au.J7;refine tI (λh=> ?_) λ_=>tI (λ_=>tI (λh=>gZ d hn a _ λ_=>hn h) λ_=>gZ d hn a _ (by simp)) λ_=>gZ d hn a _ (by simp);refine tB (GU a.t (by omega)) ?_;rintro g ⟨j,c⟩;refine tB (d.s (i h) {m with t:=g.2,tx:=true} _ _ ⟨c,a.h⟩ (.inl rfl) (by rw[CC (by omega) (by omega)];omega)) ?_;rintro e ⟨c,f⟩;exact tR ⟨Pk (by decide) (by decide) (by decide) (by decide) (by simp[gL]) (by have:=c.1;omega) c.2,f.t,f.h⟩
theorem ZX (c:OS T R158 R86 depth k H) (hn:nested=true->0<depth) {m:AO} (f:MK H m) (v:Int×Dh) {b:Bool} (l:b=true->0<depth/\(v.1=10∨v.1=11)):Cc (Au.J6 R158 R86 depth nested v m b) (Good T k m):=by have hd:=c.d;unfold Au.J6;refine tI (λh=> ?_) λ_=>tI (λ_=>wN c hn f _ hn) λ_=>wN c hn f _ (by simp);obtain⟨j,a⟩:=l h;rw[CC (n:=depth-1) (by omega) (by omega)];refine tB (c.b j m _ f) ?_;rintro e ⟨g,i⟩;refine tR ⟨?_,i⟩;rcases a with a|a<;>rw[a]<;>exact Pk (by decide) (by decide) (by decide) (by decide) (by first| (rw[show Aq (Aq ((10:Int)-10)+5)=5 from rfl];simp[gL])| (rw[show Aq (Aq ((11:Int)-10)+5)=6 from rfl];simp[gL])) (by have:=g.1;omega) g.2
theorem ZW (f:OS T R158 R86 depth k H) (hn:nested=true->0<depth) {m:AO} (a:MK H m) (v:Int×Dh) {b:Bool} (t:b=true->0<depth/\(v.1=8∨v.1=9)):Cc (Au.J5 R158 R86 depth nested v m b) (Good T k m):=by
 have hd:=f.d;have w:=a.h;have o:∀{c:Bool} {i:Int},(v.1==i)=true->(i=10∨i=11)->nested=true->c=true->0<depth/\(v.1=10∨v.1=11):=λg r s _=>⟨hn s,by have:=eq_of_beq g;omega⟩;unfold Au.J5;refine tI (λh=> ?_) λ_=>tI (λj=>tI (λl=> ?_) λ_=>ZX f hn a _ (by simp)) λ_=>tI (λj=>tI (λl=> ?_) λ_=>ZX f hn a _ (by simp)) λ_=>ZX f hn a _ (by simp)
 . obtain⟨g,r⟩:=t h;rw[CC (n:=depth-1) (by omega) (by omega),CC (by omega) (by omega)];refine tG (by simp;omega) λx u=>tB (f.b g m _ a) ?_;rintro e ⟨p,q⟩;exact tR ⟨Pk (by decide) (by decide) (by decide) (by decide) ⟨by simp,λ_=>by simpa using u,by simp,by simp,by simp,by simp⟩ (by have:=p.1;omega) p.2,q⟩
 all_goals
  refine tB (Pe (by omega) _) ?_;rintro e rfl;exact ZX f hn a _ (o j (by omega) l)
theorem wM (a:OS T R158 R86 depth k H) (hn:nested=true->0<depth) {m:AO} (l:MK H m) {v:Int×Dh} (u:Ix v.2) {b:Bool} (C:b=true->0<depth):Cc (Au.J4 R158 R86 depth m nested v b) (Good T k m):=by
 have hd:=a.d;have F:=l.h;have o:∀{c:Bool} {i:Int},(v.1==i)=true->(i=8∨i=9)->nested=true->c=true->0<depth/\(v.1=8∨v.1=9):=λy E z _=>⟨hn z,by have:=eq_of_beq y;omega⟩;have g:MK H (AO.mk v.2 m.Be (Aq (m.left-1)) m.HB m.tx m.atomic m.loop m.held):=⟨u,l.h⟩;have w:∀{r:AR×AO},Good T k (AO.mk v.2 m.Be (Aq (m.left-1)) m.HB m.tx m.atomic m.loop m.held) r->Good T k m r:=λh=>⟨h.1,h.2.t,h.2.h⟩;unfold Au.J4;refine tI (λh=> ?_) λ_=>tI (λj=>tI (λn=> ?_) λ_=>tM (ZW a hn g _ (by simp)) λ_=>w) λ_=>tI (λj=>tI (λn=> ?_) λ_=>tM (ZW a hn g _ (by simp)) λ_=>w) λ_=>tM (ZW a hn g _ (by simp)) λ_=>w
 . unfold IH JV Hp Eh;simp only[AAF];refine tB (a.s (C h) _ _ _ ⟨u,l.h⟩ (.inr (CC (by omega) (by omega))) (.inl rfl)) ?_;rintro e ⟨p,q⟩
   have:=p.1;refine tC (B9 (by omega)) (tR ⟨⟨by simp,.inl rfl,.inl ?_,by simp,by simp;omega,by simp,?_,by simp,⟨λh=>absurd (by simp) h,λ_=>rfl⟩,by simp[gL]⟩,q.t,q.h⟩)
   . exact .inr (.inr (.inr ⟨by simp,_,_,rfl,.inr (.inl ⟨rfl,rfl,Wz (by decide)⟩),.inl ⟨rfl,rfl⟩⟩))
   . intro x f;rcases AAa.1 f with f|f
     . exact p.2 x f
     . simp only[AAh]at f;subst f;exact Kz (.inr (.inr (.inr ⟨by decide,_,_,rfl,.inr (.inl ⟨rfl,rfl,Wz (by decide)⟩),.inl ⟨rfl,rfl⟩⟩))) (Wz (by decide)) _
 all_goals
  have B:=eq_of_beq j;rw[B];refine tG (by decide) λx _=>tB (Pe (by simpa using by omega) _) ?_;rintro e D;rw[D];exact tM (ZW a hn g _ (o j (by omega) n)) λ_=>w
theorem wK (a:OS T R158 R86 depth k H) (hn:nested=true->0<depth) {m:AO} (f:MK H m) {v:Int×Dh} (g:Ix v.2) {b:Bool} (z:b=true->0<depth):Cc (Au.J2 R158 R86 depth m nested v b) (Good T k m):=by have hd:=a.d;unfold Au.J2 Au.J3;refine tI (λh=> ?_) λ_=>tI (λ_=>wM a hn f g λh=>by simpa using h) λ_=>wM a hn f g (by simp);have h:=z h;refine tB (Jr (.inr rfl) (m:=AO.mk v.2 m.Be (Aq (m.left-1)) m.HB m.tx m.atomic m.loop m.held) g) ?_;rintro e ⟨o,y⟩;have p:=y.keep;have u:MK H (AO.mk v.2 m.Be (Aq (m.left-1)) m.HB m.tx m.atomic m.loop m.held):=⟨g,f.h⟩;rw[CC (n:=depth-1) (by omega) (by omega)];refine tB (a.s h _ _ _ (IQ.mk' u p) (.inr rfl) (.inl rfl)) ?_;rintro w ⟨⟨w,j⟩,q⟩;refine tB (GU q.t (by omega)) ?_;rintro c ⟨_,l⟩;have i:=q.h.trans p.h;refine tI (λ_=> ?_) λ_=>tR ⟨⟨by simp,.inl rfl,.inl o,by simp,by simp;omega,by simp,j,by simp,⟨λh=>absurd (by simp) h,λ_=>rfl⟩,by simp[gL]⟩,l,i⟩;refine tB (a.s h _ _ _ ⟨l,by rw[show _=m.held from i];exact f.h⟩ (.inr rfl) (.inl rfl)) ?_;rintro d ⟨⟨d1,x⟩,r⟩;exact tR ⟨⟨by simp,.inl rfl,.inl o,by simp,by simp;omega,by simp;omega,j,x,⟨λh=>absurd (by simp) h,λh=>absurd rfl h⟩,by simp[gL]⟩,r.t,r.h.trans i⟩
theorem gY (n:OS T R158 R86 depth k H) (hn:nested=true->0<depth) {m:AO} (f:MK H m) {v:Int×Dh} (r:0≤v.1) (d:Ix v.2):Cc (Au.J1 R158 R86 depth m v nested) (Good T k m):=by
 have j:MK H (AO.mk v.2 m.Be (Aq (m.left-1)) m.HB m.tx m.atomic m.loop m.held):=⟨d,f.h⟩;unfold Au.J1 Eh;refine tI (λh=> ?_) λ_=>tI (λ_=> ?_) λ_=>tI (λ_=> ?_) λ_=>tI (λ_=>wK n hn f d λh=>by simpa using h) λ_=>wK n hn f d (by simp)
 . have h:=AAT h;refine tG (by simp;omega) λx i=>tB (Jr (.inr rfl) j.t) ?_;rintro e ⟨b,a⟩;exact tR ⟨Kz b (Vb (by decide) i) _,a.keep.t,a.keep.h⟩
 . refine tB (GU d (by omega)) ?_;rintro c ⟨o,p⟩;refine tG o λx i=>tB (Jr (.inr rfl) p) ?_;rintro e ⟨b,a⟩;exact tR ⟨Kz b (Vb (by decide) i) _,a.keep.t,a.keep.h⟩
 . refine tB (Jr (.inl rfl) j.t) ?_;rintro e ⟨b,a⟩;refine tB (Jr (.inr rfl) a.keep.t) ?_;rintro g ⟨q,l⟩;exact tR ⟨⟨by simp,.inr ⟨rfl,rfl,_,rfl,b⟩,.inl q,by simp,by simp,by simp,by simp,by simp,⟨λ_=>rfl,λ_=>rfl⟩,by simp[gL]⟩,l.keep.t,l.keep.h.trans a.keep.h⟩
theorem fM (b:OS T R158 R86 depth k H) {m:AO} (a:MK H m):Cc (Au R158 R86 m depth) (Good T k m):=by unfold Au;refine tB (GU a.t (by omega)) ?_;rintro v ⟨c,d⟩;exact tI (λh=>tI (λ_=>gY b (λ_=>by simpa using h) a c.1 d) λ_=>gY b (by simp) a c.1 d) λ_=>gY b (by simp) a c.1 d
end
section
variable {T:ABi->Prop}
theorem ZM {R:AO->Int->ABh (AR×AO)} {a:Int} {k H:Nat} (w:∀m,MK H m->Cc (R m a) λr=>Ha T k r.1/\IQ m r.2) {m:AO} (p:MK H m) {c:Int} (hn:0≤c/\c≤3):
 Cc (CT R m a c) λr=>((r.1.length:Int)≤c/\∀x∈r.1,Ha T k x)/\IQ m r.2:=by
 have o:=Bn;have key:∀n (i:Nat) (f:AO) (l:List AR),10<n+i->(i:Int)≤c->l.length≤i->(∀x∈l,Ha T k x)->IQ m f->Cc (CT.AZ R a c n f l i) λr=>((r.1.length:Int)≤c/\∀x∈r.1,Ha T k x)/\IQ m r.2:=by
  intro n;induction n with
  |zero=>intro i f l u v;omega
  |succ n ih=>
   intro i f l u v y j g;have J:∀b,(b=true->(i:Int)<c)->Cc (CT.J1 (CT.AZ R a c n) R a i l f b) λr=>((r.1.length:Int)≤c/\∀x∈r.1,Ha T k x)/\IQ m r.2:=by
    intro b o;unfold CT.J1 CT.J2;refine tI (λh=> ?_) λ_=>tR ⟨⟨by simp only;omega,j⟩,g⟩;have h:=o h;refine tB (w _ (IQ.mk' p g)) ?_;rintro e ⟨q,s⟩;refine tC (B9 (by omega)) ?_;rw[Ai (by omega)];refine ih (i+1) _ _ (by omega) (by omega) (by simp;omega) ?_ (g.trans s);intro x d;rcases AAa.1 d with d|d
    . exact j x d
    . simp only[AAh]at d;subst d;exact q
   unfold CT.AZ CT.L1;exact tI (λh=>tI (λ_=>J _ λ_=>by simpa using h) λ_=>J _ λ_=>by simpa using h) λ_=>J _ (by simp)
 exact key Bg 0 m [] (by omega) (by omega) (by simp) (by simp) ⟨p.t,rfl⟩
theorem okS_mono {n:Nat}:∀{s:AR},Ha T n s->Ha T (n+1) s:=by
 induction n with
 |zero=>exactλh=>h.elim
 |succ n ih=>exactλ⟨h1,h2,h3,h4,h5,h6,h7,h8,h9⟩=>⟨h1,h2,h3,h4,h5,h6,λx a=>ih (h7 x a),λx a=>ih (h8 x a),h9⟩
theorem okS_le {a b:Nat} (h:a≤b) {s:AR} (c:Ha T a s):Ha T b s:=by
 induction h with
 |refl=>exact c
 |step _ ih=>exact okS_mono ih
theorem qN {R86:AO->Int->Int->ABh (List AR×AO)} {d:Int} {k H:Nat} {m:AO} (b:MK H m) (i:H<500) (s:ABi)
 (h:∀m n,MK (H+1) m->(n=1∨n=2)->Cc (R86 m d n) λr=>okL T k r.1/\IQ m r.2):Cc (G8 R86 m s d) λr=>okL T k r.1/\IQ m r.2:=by
 have j:=b.h;unfold G8;refine tC (B9 (by omega)) (tB (GU b.t (by omega)) ?_);rintro v ⟨l,g⟩;refine tB (h (AO.mk v.2 m.Be m.left m.HB m.tx m.atomic m.loop (m.held++[s])) _ ⟨g,by simp;omega⟩ (by rw[CC (by omega) (by omega)];omega)) ?_;rintro e ⟨c,a⟩;have f:e.2.held=m.held++[s]:=a.h;simp only[f,AAu,AAx,ABA];rw[CC (by omega) (by omega)];refine tC (by omega) (tR ⟨c,a.t,?_⟩);show(m.held++[s]).take _=m.held;rw[show(((m.held.length+(0+1):Nat):Int)-1).toNat=m.held.length from by omega,List.take_left]
theorem ZB {H n:Nat} (c:H<500) (d:3≤n):
 (∀m,MK H m->Cc (FF n m (0:Nat)) (Good T 0 m))/\∀m a,MK H m->0≤a/\a≤3->Cc (Dl (n+1) m (0:Nat) a) λr=>((r.1.length:Int)≤a/\∀x∈r.1,Ha T 2 x)/\IQ m r.2:=by
 have key:∀m,MK H m->Cc (FF n m (0:Nat)) (Good T 0 m):=by intro m b;obtain⟨n,rfl⟩:∃k,n=k+1:=⟨n-1,by omega⟩;exact fM (R158:=JU n) (R86:=Dl n) (H:=H) ⟨by omega,λh=>by simp at h,λh=>by simp at h⟩ b
 exact⟨key,λm a b hn=>ZM (R:=FF n) key b hn⟩
theorem made_tot (d:Nat):∀(H n:Nat),d<50->H+d<500->3*d+3≤n->
 (∀m,MK H m->Cc (FF n m d) (Good T d m))/\∀m a,MK H m->0≤a/\a≤3->Cc (Dl (n+1) m d a) λr=>((r.1.length:Int)≤a/\∀x∈r.1,Ha T (d+2) x)/\IQ m r.2:=by
 induction d with
 |zero=>exactλH n _ g i=>ZB (by omega) (by omega)
 |succ d ih=>
  intro H n p g i;have sub:∀(f c:Nat) (m:AO) (e a:Int),f≤H+1->3*d+4≤c->MK f m->(e=0∨e=((d+1:Nat):Int)-1)->(a=1∨a=2)->Cc (Dl c m e a) λr=>okL T (d+2) r.1/\IQ m r.2:=by
   intro f c m e a l o b hd hn;obtain⟨c,rfl⟩:∃k,c=k+1:=⟨c-1,by omega⟩;rcases hd with rfl|rfl
   . exact tM ((ZB (n:=c) (by omega) (by omega)).2 m a b (by omega)) λr h=>⟨⟨by have:=h.1.1;omega,λx j=>okS_le (by omega) (h.1.2 x j)⟩,h.2⟩
   . rw[show((d+1:Nat):Int)-1=(d:Int)from by omega];exact tM ((ih f c (by omega) (by omega) (by omega)).2 m a b (by omega)) λr h=>⟨⟨by have:=h.1.1;omega,h.1.2⟩,h.2⟩
  have key:∀m,MK H m->Cc (FF n m (d+1:Nat)) (Good T (d+1) m):=by
   intro m b;obtain⟨n,rfl⟩:∃k,n=k+2:=⟨n-2,by omega⟩;refine fM (R158:=JU (n+1)) (R86:=Dl (n+1)) (H:=H) (k:=d+1) ⟨by omega,λ_ m s b=> ?_,λ_ m e a b hd hn=> ?_⟩ b
   . exact qN (R86:=Dl n) b (by omega) s λm a b hn=>sub (H+1) n m _ a (by omega) (by omega) b (.inr rfl) hn
   . exact sub H (n+1) m e a (by omega) (by omega) b hd hn
  exact⟨key,λm a b hn=>ZM (R:=FF n) key b hn⟩
end
section
variable {T:ABi->Prop}
abbrev TT {α:Type} (o:ABh α):Prop:=Cc o λ_=>True
theorem tD {c:Type} {p:Prop} [Decidable p] {a b:ABh c} {R:c->Prop} (d:p->Cc a R) (e:¬p->Cc b R):Cc (if decide p=true then a else b) R:=by
 by_cases h:p
 . simpa[h]using d h
 . simpa[h]using e h
theorem Hy {a b:Type} {o:ABh a} {f:a->ABh b} {R:b->Prop} (h:TT o) (k:∀x,Cc (f x) R):Cc (o.bind f) R:=tB h λx _=>k x
theorem tE {a b:Type} {o:ABh a} {y:a} {f:a->ABh b} {R:b->Prop} (h:o=some y) (k:Cc (f y) R):Cc (o.bind f) R:=by rw[h];exact k
theorem YX {a b:Type} {l:List a} {i:Nat} {f:a->ABh b} {R:b->Prop} (h:i<l.length) (k:Cc (f l[i]) R):Cc ((gt l (i:Int)).bind f) R:=by rw[B8 h];exact k
theorem tL {b:Type} {Q:b->Prop} (N:Nat) {F:Nat->Int->ABh b} (e:N<1000000000000) (h:∀n (i:Nat),i≤N->(i<N->Cc (F n (Aq (i+1))) Q)->Cc (F (n+1) i) Q):Cc (F Bg 0) Q:=by
 have f:=Bn;have key:∀n (i:Nat),N<n+i->i≤N->Cc (F n i) Q:=by
  intro n;induction n with
  |zero=>intro i c a;omega
  |succ n ih=>intro i c a;refine h n i a λd=> ?_;rw[Ai (by omega)];exact ih (i+1) (by omega) d
 exact key Bg 0 (by omega) (by omega)
theorem tLk {σ c:Type} {Q:c->Prop} (N j:Nat) (I:Nat->σ->Prop) {F:Nat->σ->Int->ABh c} (m:N<1000000000000) (l:j≤N) {s0:σ} (d:I j s0)
 (h:∀n (i:Nat) s,i≤N->I i s->(∀a,i<N->I (i+1) a->Cc (F n a (Aq (i+1))) Q)->Cc (F (n+1) s i) Q):Cc (F Bg s0 j) Q:=by
 have o:=Bn;have key:∀n (i:Nat) s,N<n+i->i≤N->I i s->Cc (F n s i) Q:=by
  intro n;induction n with
  |zero=>intro i s e b;omega
  |succ n ih=>intro i s e b f;refine h n i s b f λa g k=> ?_;rw[Ai (by omega)];exact ih (i+1) a (by omega) g k
 exact key Bg j s0 (by omega) l d
theorem OR {σ b:Type} {Q:b->Prop} (N:Nat) (I:Nat->σ->Prop) {F:Nat->σ->Int->ABh b} (d:N<1000000000000) {s0:σ} (c:I 0 s0)
 (h:∀n (i:Nat) s,i≤N->I i s->(∀a,i<N->I (i+1) a->Cc (F n a (Aq (i+1))) Q)->Cc (F (n+1) s i) Q):Cc (F Bg s0 0) Q:=tLk N 0 I d (by omega) c h
theorem LL (s:ABi):TT (B1 s):=⟨_,Nt s,trivial⟩
def dE:Nat->BA->Prop
 |0,_=>False
 |n+1,e=>e.L.length≤2/\∀x∈e.L,dE n x
theorem SX.d {n:Nat}:∀{e:BA},SX n e->dE n e:=by
 induction n with
 |zero=>exactλh=>h.elim
 |succ n ih=>
  intro e h;rcases h with⟨_,h⟩|⟨_,h,_⟩|⟨_,_,a,h,c⟩|⟨_,a,b,h,c,f⟩<;>refine⟨by simp[h],?_⟩<;>rw[h]<;>simp
  . exact ih c
  . exact⟨ih c,ih f⟩
theorem Ha.e {n:Nat} {s:AR} (h:Ha T n s):dE 2 s.Expr:=by
 cases n with
 |zero=>exact h.elim
 |succ n=>
  rcases h.2.2.1 with h|⟨_,h⟩
  . exact h.d
  . rw[h];exact⟨by simp[noE],by simp[noE]⟩
theorem Ha.i {n:Nat} {s:AR} (h:Ha T n s):s.Index=[]∨∃a,s.Index=[a]/\dE 2 a:=by
 cases n with
 |zero=>exact h.elim
 |succ n=>exact h.2.1.imp id λ⟨_,_,a,h,k⟩=>⟨a,h,k.d⟩
theorem Xg (d:EV):TT (Cg d):=by
 have a:∀b,TT (Cg.J2 d b):=by
  intro b;unfold Cg.J2 Cg.J3
  repeat' first|exact tR trivial|refine tI (λ_=> ?_) λ_=> ?_
 have j1:∀b,TT (Cg.J1 d b):=by
  intro b;unfold Cg.J1
  repeat' first|exact tR trivial|exact a _|refine Hy (LL _) λ_=> ?_|refine tI (λ_=> ?_) λ_=> ?_
 unfold Cg
 repeat' first|exact j1 _|refine Hy (LL _) λ_=> ?_|refine tI (λ_=> ?_) λ_=> ?_
theorem ZZ (o:Int):TT (Dz o):=by
 unfold Dz Dz.J1 Dz.J2 Dz.J3
 repeat' first|exact tR trivial|refine tI (λ_=> ?_) λ_=> ?_
theorem Vt (d:Nat):∀(n:Nat) (e:BA),d≤n->dE d e->TT (C8 n e):=by
 induction d with
 |zero=>exactλn e _ h=>h.elim
 |succ d ih=>
  intro n e hn ⟨h1,h2⟩;obtain⟨n,rfl⟩:∃k,n=k+1:=⟨n-1,by omega⟩;show TT (CV (C8 n) e);have c:∀b,TT (CV.J2 (C8 n) e b):=by intro b;unfold CV.J2;refine tI (λ_=>tR trivial) λ_=>tL e.L.length (by omega) λm i hi k=> ?_;unfold CV.AZ CV.L1;refine tD (λ_=>tG (by omega) λx a=>Hy (ih n x (by omega) (h2 x a)) λ_=>tI (λ_=>tR trivial) λ_=>k (by omega)) λ_=>tR trivial
  have j1:∀b,TT (CV.J1 (C8 n) e b):=by
   intro b;unfold CV.J1;refine Hy (ZZ _) λ_=> ?_
   repeat' first|exact c _|refine Hy (LL _) λ_=> ?_|refine tI (λ_=> ?_) λ_=> ?_
  unfold CV;exact tI (λ_=>j1 _) λ_=>j1 _
theorem Lg {n:Nat} (h:n≤1000):n≤Bg:=by have:=Bn;omega
theorem iG {e:BA} (h:dE 2 e):TT (C8 Bg e):=Vt 2 _ e (Lg (by omega)) h
theorem Vu {k:Nat} {s:AR} {R:List AR->ABh Bool} (d:Ha T k s) (j:TT (R s.Body)) (l:TT (R s.Else)):TT (A1 R s):=by
 have r:∀b,TT (A1.J9 R s b):=by
  intro b;unfold A1.J9 A1.RX
  repeat' first|exact tR trivial|refine Hy j λ_=> ?_|refine Hy l λ_=> ?_|refine tI (λ_=> ?_) λ_=> ?_
 have q:∀b,TT (A1.J8 R s b):=by
  intro b;unfold A1.J8
  repeat' first|exact r _|refine tI (λ_=> ?_) λ_=> ?_
 have c:∀b,TT (A1.J7 R s b):=by
  intro b;unfold A1.J7
  repeat' first|exact tR trivial|exact q _|refine tI (λ_=> ?_) λ_=> ?_
 have p:∀b,TT (A1.J6 R s b):=by
  intro b;unfold A1.J6;refine tI (λ_=>Hy (iG d.e) λ_=>tI (λ_=>c _) λ_=>c _) λ_=>Hy ?_ λ_=>c _;unfold HJ HJ.J1
  repeat' first|exact tR trivial|refine tI (λ_=> ?_) λ_=> ?_
 have f:∀b,TT (A1.J5 R s b):=by
  intro b;unfold A1.J5
  repeat' first|exact tR trivial|exact p _|refine tI (λ_=> ?_) λ_=> ?_
 have o:∀b,TT (A1.J4 R s b):=by
  intro b;unfold A1.J4;rcases d.i with h|⟨a,h,g⟩<;>rw[h]
  . repeat' first|exact tR trivial|exact f _|refine tI (λ_=> ?_) λ_=> ?_|contradiction
  . repeat' first|exact tR trivial|exact f _|refine tI (λ_=> ?_) λ_=> ?_|refine tE (y:=a) rfl ?_|refine Hy (iG g) λ_=> ?_
 have n:∀b,TT (A1.J3 R s b):=by
  intro b;unfold A1.J3
  repeat' first|exact tR trivial|exact o _|refine tI (λ_=> ?_) λ_=> ?_|refine Hy (LL _) λ_=> ?_
 have m:∀b,TT (A1.J2 R s b):=by
  intro b;unfold A1.J2
  repeat' first|exact n _|refine tI (λ_=> ?_) λ_=> ?_|refine Hy (LL _) λ_=> ?_
 have j1:∀b,TT (A1.J1 R s b):=by
  intro b;unfold A1.J1
  repeat' first|exact tR trivial|exact m _|refine tI (λ_=> ?_) λ_=> ?_
 unfold A1;exact tI (λ_=>j1 _) λ_=>j1 _
def SZ (T:ABi->Prop) (k:Nat) (l:List AR):Prop:=l.length≤10/\∀x∈l,Ha T k x
theorem Ha.body {k:Nat} {s:AR} (h:Ha T (k+1) s):SZ T k s.Body:=⟨by have:=h.2.2.2.2.1;omega,h.2.2.2.2.2.2.1⟩
theorem Ha.els {k:Nat} {s:AR} (h:Ha T (k+1) s):SZ T k s.Else:=⟨by have:=h.2.2.2.2.2.1;omega,h.2.2.2.2.2.2.2.1⟩
theorem Ui (d:Nat):∀(n:Nat) (l:List AR),2*d+1≤n->SZ T d l->TT (GX n l):=by
 induction d with
 |zero=>intro n l hn ⟨_,h⟩;obtain⟨n,rfl⟩:∃k,n=k+1:=⟨n-1,by omega⟩;have:l=[]:=AA3.2 λx a=>(h x a).elim;subst this;show TT (Ck (JZ n) []);exact tR trivial
 |succ d ih=>intro n l hn ⟨h1,h2⟩;obtain⟨n,rfl⟩:∃k,n=k+2:=⟨n-2,by omega⟩;show TT (Ck (JZ (n+1)) l);unfold Ck;refine tL l.length (by omega) λm i hi k=> ?_;unfold Ck.AZ Ck.L1 Ck.J1;refine tD (λ_=>tG (by omega) λx a=> ?_) λ_=>tR trivial;refine Hy (Vu (R:=GX n) (h2 x a) (ih n _ (by omega) (h2 x a).body) (ih n _ (by omega) (h2 x a).els)) λ_=>tI (λ_=>tR trivial) λ_=>k (by omega)
def La:List ABi:=[⟨#[109,97,105,110]⟩,⟨#[116,49]⟩,⟨#[116,50]⟩,⟨#[116,51]⟩]
def YG:List ABi:=[⟨#[97]⟩,⟨#[98]⟩]
structure MP (p:AU):Prop where
 d:Ed=some p.Decls
 t:p.AA.length≤4
 l:∀t∈p.AA,t.Fh.length≤2
 b:∀t∈p.AA,SZ (λs=>s∈p.AA.map (·.Name)) 4 t.Body
 nm:∃n,1≤n/\n≤4/\p.AA.map (·.Name)=La.take n
 lo:∀t∈p.AA,t.Fh=YG
theorem MP.dl {p:AU} (h:MP p):p.Decls.length=9:=by have h:=h.d;unfold Ed at h;rw[← AAJ h];rfl
theorem Vv {p:AU} (h:MP p):TT (CU p):=by
 have hd:=h.dl;have e:=h.t;have c:∀{F:Int->ABh Bool} {i:Int} (b:Bool),TT (F (Aq (i+1)))->TT (CU.J3 F i b):=by intro F i b k;unfold CU.J3 CU.J4;exact tI (λ_=>tR trivial) λ_=>k
 unfold CU;refine tL 9 (by omega) λm i hi k=> ?_;unfold CU.AZ CU.L1 CU.J1;refine tD (λ_=>tG (by omega) λx a=>Hy (Xg x) λ_=>tI (λ_=>tR trivial) λ_=>k (by omega)) λ_=>tL p.AA.length (by omega) λm i hi k=> ?_;unfold CU.DI CU.L2 CU.J5;refine tD (λ_=>tG (by omega) λx a=>tL x.Fh.length (by have:=h.l x a;omega) λm i hi d=> ?_) λ_=>tR trivial;unfold CU.GL CU.L3 CU.J2;refine tD (λ_=>tG (by omega) λx a=>Hy (LL _) λ_=>tI (λ_=>tR trivial) λ_=>d (by omega)) λ_=>Hy (LL _) λ_=>tI (λ_=>c _ (k (by omega))) λ_=>Hy (Ui 4 _ _ (Lg (by omega)) (h.b x a)) λ_=>c _ (k (by omega))
end
end Go.Abs
