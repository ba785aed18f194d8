/- What the typed programs give, in plain Lean. -/
import Derived.Test.YthmijagacgnmkaaGreatDoorWalkS
import Derived.Test.YthmijagacgnmkaaGreatDoorPlainC
import Derived.Test.YthmijagacgnmkaaGreatDoorRows
import Derived.Test.YthmijagacgnmkaaGreatDoorTie
import Derived.ProofKit
import Derived.LaidMore
import Derived.OpenShut
set_option linter.unusedSimpArgs false
set_option linter.unusedVariables false
namespace Go.Abs
set_option maxHeartbeats 4000000
section
theorem cF {nt:Nat} {i:Int} (hi:i<nt):∀(S:List Da) (m:Int) (R:List Da),SN i m S->HD nt i m (S++R)=HD nt i (m+S.length) R:=by
 intro S;induction S with
 |nil=>simp_all
 |cons x r ih=>
  intro m R h;obtain⟨c,a⟩:=h 0 x rfl;have b:SN i (m+1) r:=λj y d=>by have:=h (j+1) y (by simp_all);omega
  rw[ABV,HD,AAp (by omega),AAp (by omega),ih _ _ b,a];grind
theorem pU {nt:Nat} {i t n:Int} (hi:i<nt) (h:t<i∨t=i/\n=0) {S:List Da} (a:SN i 0 S):∃b c,(b<i+1∨b=i+1/\c=0)/\∀R,HD nt t n (S++R)=HD nt b c R:=by
 rcases h with h|⟨rfl,rfl⟩
 . cases S with
   |nil=>exact⟨t,n,.inl (by omega),λ_=>rfl⟩
   |cons x r=>obtain⟨d,e⟩:=a 0 x rfl;have f:SN i 1 r:=λj y g=>(by have:=a (j+1) y (by simp_all);omega);refine⟨i,1+r.length,.inl (by omega),λR=> ?_⟩;rw[ABV,HD,AAp (by omega),AAs (by omega),d,cF hi _ _ _ f,e];simp
 . exact⟨t,0+S.length,.inl (by omega),λR=>cF hi _ _ _ a⟩
def To (p:AR) (i:Nat):Nat:=((p.AA.take i).map λt=>PM 4 t.Body).sum
theorem bZ {p:AR} {i:Nat} (h:i<p.AA.length):To p (i+1)=To p i+PM 4 p.AA[i].Body:=cK h _
theorem eK {p:AR} (h:(p.AA.map λt=>PM 4 t.Body).sum≤60) (i:Nat):To p i≤60:=by
 have:((p.AA.map λt=>PM 4 t.Body)).sum=To p i+((p.AA.drop i).map λt=>PM 4 t.Body).sum:=by
  conv=>lhs;rw[← ABq i p.AA,ABL,List.sum_append]
  rfl
 omega
theorem wY {p:AR} {i j:Nat} (h:i≤j):To p i≤To p j:=by
 have:To p j=To p i+(((p.AA.take j).drop i).map λt=>PM 4 t.Body).sum:=by
  unfold To
  conv=>lhs;rw[← ABq i (p.AA.take j),List.take_take,Nat.min_eq_left h,ABL,List.sum_append]
 omega
structure WV (p:AR) (N:Nat) (w:AD):Prop where
 c:w.Cells=LU
 l:w.AE=YQ
 d:w.Af=[⟨cN,0⟩]
 f:w.AK=[⟨#[102]⟩]
 t:w.AA=(p.AA.take N).map (·.Name)
 n:w.BL.length=To p N
 o:∀j k,j<N->To p j≤k->k<To p (j+1)->∃y,w.BL[k]? =some y/\y.Thread=(j:Int)
 s:∃t n:Int,(t<N∨t=N/\n=0)/\∀R,HD p.AA.length 0 0 (w.BL++R)=HD p.AA.length t n R
theorem zV {p:AR} (h:MP p) (u:∃l,A5 p=some (0,l)) (C:(p.AA.map λt=>PM 4 t.Body).sum≤60):B7 (Bs p) (WV p p.AA.length):=by
 obtain⟨l,u⟩:=u;have N:=h.t;unfold Bs;refine tE u (tI (λh=>by cases h) λ_=> ?_);have key:∀D T,Ew=some D->Bs.AZ ⟨D,T⟩ BP (AD.mk [] [] [] [] [] []) 0=Bs.J4 ⟨D,T⟩ ⟨LU,YQ,[⟨cN,0⟩],[⟨#[102]⟩],[],[]⟩:=by
  intro D T x;unfold Ew at x;obtain rfl:=AAl x
  kernel_rfl
 rw[show Bs.AZ p BP (AD.mk [] [] [] [] [] []) 0=_ from key p.Decls p.AA h.d];unfold Bs.J4;show B7 (Bs.Gq p BP ⟨LU,YQ,[⟨cN,0⟩],[⟨#[102]⟩],[],[]⟩ 0) _;refine QO p.AA.length (λi w=>WV p i w) (F:=λn s i=>Bs.Gq _ n s i) (by omega) ⟨rfl,rfl,rfl,rfl,rfl,rfl,λj k h=>by omega,0,0,.inr ⟨rfl,rfl⟩,λ_=>rfl⟩ λn i w hi a k=> ?_;unfold Bs.Gq Bs.L3 Bs.J5;refine tD (λg=>cL (by omega) ?_) λO=>tR ?_
 . have g:i<p.AA.length:=(by omega);have E:=bZ g;have G:=eK C (i+1);have hn:=a.n;refine tC (Bh (by rw[a.t];simp;omega)) (tB (sites_ok 4 _ _ _ _ _ (Mf (by omega)) (by omega) (by omega) (h.b _ (AA0 g))) λv H=>k _ (by omega) ?_);obtain⟨S,L,V,z,W⟩:=H;obtain⟨t,m,K,P⟩:=a.s;obtain⟨J,I,Q,U⟩:=pU (nt:=p.AA.length) (i:=i) (by omega) K z;refine⟨a.c,a.l,a.d,a.f,?_,?_,?_,J,I,by omega,λR=> ?_⟩
   . simp only;rw[a.t,← AA2 g,ABL];rfl
   . simp_all
   . intro j q M r B;simp only;rw[L];by_cases e:j<i
     . have:=wY (p:=p) (show j+1≤i by omega);rw[ABA (by omega)];exact a.o j q e r B
     . obtain rfl:j=i:=(by omega);rw[ABC (by omega)];have y:q-w.BL.length<S.length:=(by omega);exact⟨S[q-w.BL.length],AAo y,(z _ _ (AAo y)).1⟩
   simp_all
 grind
theorem WV.names {p:AR} {w:AD} (a:WV p p.AA.length w):w.AA=p.AA.map (·.Name):=by rw[a.t,List.take_length]
theorem yC {p:AR} {w:AD} (h:MP p) (o:(p.AA.map λt=>PM 4 t.Body).sum≤60) (a:WV p p.AA.length w):Cs w=true:=by
 obtain⟨n,z,B,nm⟩:=h.nm;have e:=a.names;rw[nm]at e;obtain⟨t,m,C,y⟩:=a.s;have b:=y [];rw[List.append_nil]at b;have x:p.AA.length=w.AA.length:=by rw[a.names,ABI]
 rw[x]at b;have hn:=a.n;have q:=eK o p.AA.length;have g:=a.c;have i:=a.l;have j:=a.d;have k:=a.f;obtain⟨c,l,d,f,T,S⟩:=w;simp only at g i j k e hn b;subst g i j k;have v:AY LU=some ([⟨#[120]⟩,⟨#[121]⟩,⟨#[118]⟩,qS],true):=by decide +kernel
 have r:HD T.length 0 0 S=true:=b;have u:T=PN.take 1∨T=PN.take 2∨T=PN.take 3∨T=PN.take 4:=by
  have:n=1∨n=2∨n=3∨n=4:=by omega
  rcases this with rfl|rfl|rfl|rfl<;>simp[e]
 unfold Cs;simp only[v,r];have hd:decide (S.length≤60)=true:=decide_eq_true (by omega);rw[hd];rcases u with rfl|rfl|rfl|rfl<;>(show @Eq Bool _ true;kernel_rfl)
theorem nS {p:AR} (h:MP p) (O:∃l,A5 p=some (0,l)):B7 (Ax p) λr=>CK r.1/\Bz r.1=some true:=by
 obtain⟨q,hq,T⟩:=check60 h;have S:(p.AA.map λt=>PM 4 t.Body).sum≤60:=by obtain⟨l,O⟩:=O;rw[O]at hq;cases hq;exact T rfl
 have ht:=h.t
 let Q:BT->Prop:=λc=>WV p p.AA.length c.World/\c.AA.length=p.AA.length/\∀(j:Nat) t,c.AA[j]? =some t->VO c.World j t
 have par:MS (Ax p) λr=>Q r.1:=by
  obtain⟨l,oP⟩:=O;unfold Ax;refine pE oP (pI (λh=>by cases h) λ_=>pB (pA (pT (aH h ⟨l,oP⟩)) (pT (zV h ⟨l,oP⟩ S))) λw B=> ?_);obtain⟨mw,B⟩:=B;have wf:WF (λs=>s∈p.AA.map (·.Name)) w:=⟨B.c,B.l,B.d,B.f,λs W=>by rw[B.names];exact W,by rw[B.names,ABI];exact ht⟩;refine pLs p.AA.length (λi (s:BT×Int)=>s.1.World=w/\s.1.AA.length=i/\s.2=To p i/\∀(j:Nat) t,s.1.AA[j]? =some t->VO w j t) (F:=λn s i=>Ax.AZ p n s.1 s.2 i) (s0:=(_,_)) (λ_ _=>rfl) (by omega) ⟨rfl,rfl,rfl,by simp⟩ λn i s hi W k=> ?_;obtain⟨G,s2,s3,s4⟩:=W;unfold Ax.AZ Ax.L1 Ax.J4;refine pD (λH=>pE (CZ (by omega)) ?_) λlS=>pR ⟨by simp only;rw[G];exact B,by simp only;omega,by simp only;rw[G];exact s4⟩;have H:i<p.AA.length:=by omega
  have L:p.AA[i]∈p.AA:=AA0 H;have ho1:=bZ H;have ho2:=eK S (i+1);have hc:cg 4=336840:=rfl;have g0:GB (A9.mk s.1.World p.AA[i].GZ [] 0 s.2) 4000000:=⟨by rw[G];exact mw,h.l _ L,by simp⟩;refine pB (pA (pT (Xt 4 _ _ _ (Mf (by omega)) (g0.less (by omega)) (h.b _ L))) (xX 4 _ _ (Mf (by omega)) (h.b _ L) ⟨s.1.World,p.AA[i].GZ,[],0,s.2⟩ ⟨by rw[G];exact wf,h.lo _ L⟩ (by simp only;omega))) λv hv=>pB (put_eq _) λu hu=> ?_;obtain⟨v0,v1,v2⟩:=hv;have v0:=v0.b;simp only[ABo]at v0;have V:(u.locals.length:Int)=2:=by rw[hu];simp only;rw[v1.l];simp only;rw[h.lo _ L];rfl
  have R:u.out=v.out++[⟨28,0,0,0,0, -1⟩]:=by rw[hu]
  have sg:=v1.s;simp only[ABo,G,s3]at sg;have v2':v.next=To p (i+1):=by rw[v2];simp only;omega
  have rb:∀y∈u.out,∀r∈rg y,0≤r/\r<32:=by
   intro y x r e;rw[R]at x;rcases AAz.1 x with x|x
   . obtain⟨m,m1,m2⟩:=List.getElem_of_mem x;exact(sg.i m y (by omega) m1 (by rw[AAo m1,m2])).g r e
   . rw[ABG.1 x,rg0 (.inr (.inr rfl))]at e;cases e
  rw[V];have Xx:u.out.length<1000000000000:=by rw[R];simp;omega
  refine pLs u.out.length (λk (t:Az)=>t.Bq=u.out/\(2≤t.Ch/\t.Ch≤32)/\∀y∈u.out.take k,∀r∈rg y,r<t.Ch) (F:=λn t k=>Ax.Cr _ _ _ _ _ n t k) (λ_ _=>rfl) Xx ⟨rfl,by simp,by simp⟩ λm q t hq2 X k2=> ?_;obtain⟨t1,t2,t3⟩:=X;unfold Ax.Cr Ax.L2 Ax.J2 Ax.J3;refine pD (λhlt2=>pE (CZ (by omega)) ?_) λhge2=>pC λ_=>k (_,_) (by omega) ⟨G,by simp;omega,v2',?_⟩
  . have x:u.out[q]∈u.out:=AA0 (by omega);have ry:=rb _ x;have K:q<u.out.length:=(by omega);have tk:=AA2 K;generalize u.out[q]=y at x ry tk;refine pE (Gr y).1 (pLs (rg y).length (λl (t:Az)=>t.Bq=u.out/\(2≤t.Ch/\t.Ch≤32)/\(∀y∈u.out.take q,∀r∈rg y,r<t.Ch)/\∀r∈(rg y).take l,r<t.Ch) (F:=λn t k=>Ax.Gq _ _ _ n t k) (λ_ _=>rfl) (by have:=(Gr y).2;omega) ⟨t1,t2,t3,by simp⟩ λm3 M D hq3 Z k3=> ?_);obtain⟨x1,x2,x3,x4⟩:=Z;unfold Ax.Gq Ax.L3 Ax.J1;refine pD (λhlt3=>pE (CZ (by omega)) ?_) λhge3=>k2 _ K ⟨x1,x2,λz C r e=> ?_⟩
    . have e:(rg y)[M]'(by omega)∈rg y:=AA0 (by omega);have U:=ry _ e;have N:=AA2 (show M<(rg y).length by omega);generalize (rg y)[M]'(by omega)=r at e U N;rw[CH (by omega) (by omega)];have J:∀z,(if r+1>D.Ch then r+1 else D.Ch)=z->D.Ch≤z/\r<z/\z≤32:=by intro z C;split at C<;>omega
      generalize C:(if r+1>D.Ch then r+1 else D.Ch)=z
      obtain⟨z1,z2,z3⟩:=J z C;refine k3 _ (by omega) ⟨x1,by simp only;omega,λy x r e=>by have:=x3 y x r e;simp only;omega,?_⟩;rw[← N];intro a I;rcases AAz.1 I with I|I
      . have:=x4 a I;simp only;omega
      . rw[ABG.1 I];exact z2
    . rw[← tk]at C;rcases AAz.1 C with C|C
      . exact x3 z C r e
      . rw[ABG.1 C]at e;rw[ABM (by omega)]at x4;exact x4 r e
  . intro j D E;simp only at E;by_cases hj:j<s.1.AA.length
    . rw[ABA hj]at E;exact s4 j D E
    . have:=(AAj.1 E).1;simp at this;obtain rfl:j=s.1.AA.length:=(by omega);rw[show(s.1.AA++[t])[s.1.AA.length]? =some t from by simp]at E;obtain rfl:=AAl E;rw[s2];rw[ABM (by omega)]at t3;refine⟨t2,⟨v.out,_,_,by rw[t1,R],sg,λk k1 k2=> ?_⟩,by rw[t1];exact t3⟩;obtain⟨k,rfl⟩:∃m:Nat,k=m:=⟨k.toNat,by omega⟩;rw[JR];exact B.o i k H (by omega) (by omega)
 obtain⟨r,e,P⟩:=iJ h;refine⟨r,e,P,?_⟩;obtain⟨q1,q2,M⟩:=par r e;have hl:r.1.AA.length=r.1.World.AA.length:=by rw[q2,q1.names,ABI]
 have hn:=P.n;have key:B7 (Bz r.1) λb=>b=true:=by unfold Bz;refine tE (LY _) ?_;rw[yC h S q1];refine tI (λh=>by cases h) λ_=> ?_;rw[hl,show((r.1.World.AA.length:Int) != r.1.World.AA.length)=false from by simp];unfold Bz.J1;refine tI (λh=>by cases h) λ_=>QO r.1.AA.length (λ_ (_:Unit)=>True) (s0:=()) (F:=λn _ i=>Bz.AZ r.1 n i) (by omega) trivial λn i _ hi _ k=> ?_;unfold Bz.AZ Bz.L1 Bz.J2;refine tD (λH=>cL (by omega) ?_) λ_=>tR rfl;refine tE (VB (P.i _ (AA0 (by omega))) (M i _ (AAo (by omega)))) (tI (λh=>by cases h) λ_=>k () (by omega) trivial)
 obtain⟨b,U,rfl⟩:=key;exact U
end
theorem Code_ok {l:List Int} (d:l.length≤4000000000000000000) (e:∀x∈l,0≤x/\x<256):B7 (Nq l) λc=>CK c/\Bz c=some true:=by unfold Nq;exact tB (fZ d e) λp a=>tB (nS a.1 a.2) λc b=>tR b
theorem zU {p s:List Int} (g:p.length≤4000000000000000000) (j:∀x∈p,0≤x/\x<256) (i:s.length≤1000):B7 (Jc p s) λt=>TA s.length t/\Cs t.World=true:=by unfold Jc;refine tB (Code_ok g j) λc b=>tB (fT i) λl o=>tB (tP (Run_ok b.1 (by omega)) (Q:=λr=>Cs r.1.World=true) ?_) λr a=>tR ⟨⟨⟨by have:=a.1.m.n;omega,a.1.m.e,a.1.m.w⟩,a.1.c⟩,a.2⟩;obtain⟨v,d,f⟩:=Qb b.1;rw[b.2]at d;have k:=f (AAl d).symm;unfold Ls;exact pE b.2 (pI (λh=>by cases h) λ_=>pB' λ_=>pB' λ_=>pR k.w)
theorem zG {n:Nat} {t:Aw} (a:TA n t) (hn:n≤400) (b:Cs t.World=true):Hc t=(0,0):=by have:=a.m.n;unfold Hc;rw[AAp (by omega),AAs b,a.c]
theorem sceneW_m:Ez.Af.all (λc=>Df c.Mutex Ez.AE.length)=true:=by decide +kernel
structure SL (s:AB):Prop where
 l:s.Sync.AE.length=3
 d:s.Sync.Bp.length=1
 t:s.Sync.AA.length=4
 c:s.Cells.length=5
 u:s.AK.length=1
 n:s.Count.length=4
 r:RB 1 s.Sync
theorem SL.sc {s:AB} (h:SL s):SC 1 s:=by refine⟨?_,h.r⟩;simp only[JF,HM,AAi,AAw,Y3,UO,UN,h.d,h.t,h.c,h.u,h.n,and_self,and_true];exact⟨sceneW_m,by rw[h.l,Y4]⟩
def Rl (l:List Int):Prop:=∀x∈l,0≤x/\x<256
theorem tape_of {l:List Int} (a:l.length≤4000000000000000000) (h:Rl l):EW ⟨l,0⟩:=⟨a,⟨Int.le_refl _,by simp⟩,h⟩
structure WG (w:AO):Prop where
 v:Sx w=true
 e:∀e∈w.AF,JC e
 r:RB 1000 w.Init.Sync
theorem lP {p:List Int} (r:Rl p) (a:Int):B7 (EM p a) λt=>AT t/\t.AF.length≤100:=by
 have H:=BU;have j1:∀i:List Int,i.length≤600->Rl i->B7 (EM.J1 a i) λt=>AT t/\t.AF.length≤100:=by
  intro i hi hi';unfold EM.J1;rw[cE,AAg,LZ Ez eY,AAg];refine tB (HG (tape_of (by omega) hi') (by omega)) ?_;rintro b ⟨I,bA,_⟩;have z:SC 0 (GQ Ez):=by refine⟨?_,RB.start Ez⟩;have k:SL (GQ Ez):=(by refine⟨?_,?_,?_,?_,?_,?_,RB.mono (RB.start Ez) (by omega)⟩<;>simp[GQ,Jg,Y4,Y3,UO,UN]);exact k.sc.f
  have F:∀(d:List AG),d.length≤9->(∀e∈d,JC e)->B7 (EM.J2 a Ez (GQ Ez) b d) λt=>AT t/\t.AF.length≤100:=by
   intro d hd y;have key:∀(n i:Nat) (E:List AG) (o:AB),d.length<n+i->i≤d.length->E.length≤i->(∀e∈E,JC e)->SC i o->
    B7 (EM.Cr d a b n ⟨Ez,E⟩ o i) λt=>AT t/\t.AF.length≤100:=by
    intro n;induction n with
    |zero=>omega
    |succ n ih=>
     intro i E o k s w m g;unfold EM.Cr EM.L2;refine tI (λh=> ?_) λ_=> ?_
     . have h:=AAq h;refine tG (by omega) λv C=>tB (g.step (by omega) (y v C)) λu B=> ?_;unfold EM.J3;rw[Ai (by omega)];refine tI (λh=>tC (Bh (by grind)) (ih (i+1) _ _ (by omega) (by omega) (by simp;omega) ?_ (B h))) λ_=>ih (i+1) E o (by omega) (by omega) (by omega) m (g.mono (by omega));grind
     . unfold EM.J4;refine tB (play_tot bA.1 (g.mono (by omega)) (by omega) false) ?_;rintro t ⟨J,G⟩;refine tC (Bh (by grind)) ?_;have q:∀e∈E++t.1,JC e:=λe c=>(AAz.1 c).elim (m e) (G e);rw[cB ⟨Ez,E++t.1⟩ q,AAg];refine tI (λ_=> ?_) λh=>tR ⟨AT.of q (by grind),by simp;omega⟩;rw[cE,AAg];exact tR ⟨AT.of (t:=⟨Ez,[]⟩) (by simp) (by decide +kernel),by simp⟩
   exact key BP 0 [] _ (by omega) (by omega) (by simp) (by simp) z
  have key:∀(n j:Nat) (l:List AG),4<n+j->1≤j->j≤4->l.length+1≤2*j->(∀e∈l,JC e)->B7 (EM.AZ a Ez (GQ Ez) b n l j) λt=>AT t/\t.AF.length≤100:=by
   intro n;induction n with
   |zero=>omega
   |succ n ih=>
    intro j l k s w m g;unfold EM.AZ EM.L1;rw[CH (n:=1+b.1) (by omega) (by omega)];refine tI (λh=> ?_) λ_=>F l (by omega) g;have h:=AAq h;rw[Ai (by omega)];refine tC (Bh (by omega)) (ih (j+1) _ (by omega) (by omega) (by omega) (by simp;omega) ?_);intro e c;rcases AAz.1 c with c|c
    . grind
    . simp only[ABH,ABa,ABU]at c;rcases c with rfl|rfl<;>exact⟨by simp,by simp⟩
  exact key BP 1 _ (by omega) (by omega) (by omega) (by simp) (by intro e c;rw[ABG.1 c];exact⟨by simp,by simp⟩)
 unfold EM;refine tI (λh=> ?_) λh=>j1 _ (by grind) r;have h:=AAq h;exact tC (by omega) (j1 _ (by simp;omega) λx D=>r x (AB4 D))
structure RunOK (r:Uf):Prop where
 p:Rl r.Program
 s:Rl r.Ct
 c:Rl r.RJ
theorem madeAT {n:Nat} {t:Aw} (h:TA n t) (hn:n≤400) (b:Cs t.World=true):AT t:=AT.of (λe a=>(h.m.e e a).ok) (by rw[zG h hn b])
theorem sI {r:Uf} (d:RunOK r) {m:Int} (h:0≤m) (j:m≤200) (f:r.Program.length≤4000000000000000000):B7 (Hr r m) λt=>AT t/\t.AF.length≤200:=by
 unfold Hr;refine tI (λ_=>tB (lP d.c m) λt g=>tR ⟨g.1,by omega⟩) λ_=> ?_;have b:0≤(if m<(r.Ct.length:Int)then m else(r.Ct.length:Int))/\((if m<(r.Ct.length:Int)then m else(r.Ct.length:Int)).toNat)≤r.Ct.length/\((if m<(r.Ct.length:Int)then m else(r.Ct.length:Int)).toNat)≤200:=by split<;>omega
 refine tC ⟨b.1,b.2.1⟩ (tB (zU f d.p (by rw[List.length_take];omega)) ?_);rintro t ⟨a,e⟩;have i:(r.Ct.take ((if m<(r.Ct.length:Int)then m else(r.Ct.length:Int)).toNat)).length≤200:=by rw[List.length_take];omega
 exact tR ⟨madeAT a (by omega) e,by have:=a.m.n;omega⟩
def sH (wv:AD):AB->List AG->Prop
 |_,[]=>True
 |s,e::r=>IZ wv s e=true/\sH wv (GU wv s e) r
theorem sH.step {wv:AD} (d:Small wv) {s:AB} {N:Nat} (c:RB N s.Sync) (a:N≤1000000) {e:AG} (b:JC e) (f:IZ wv s e=true):BQ wv s e=some (GU wv s e,true)/\Bg wv s e=some (GU wv s e,true):=by rw[ZP wv d s (c.mono a) e b,SS wv d s (c.mono a) e b];unfold QN;rw[AAs f];exact⟨rfl,rfl⟩
theorem sH.of {wv:AD}:∀{l:List AG} {s:AB},(∀(i:Nat) (hi:i<l.length),IZ wv ((l.take i).foldl (GU wv) s) l[i]=true)->sH wv s l:=by
 intro l;induction l with
 |nil=>intro s _;trivial
 |cons e r ih=>intro s h;exact⟨h 0 (by simp),ih λi hi=>h (i+1) (by simpa using hi)⟩
def VX (wv:AD) (t kk o k:Int) (x:AW):AW:=
 if(kk=6∨kk=10)/\k=o∨kk=17/\k=(ix wv.Af o).Mutex then⟨t,x.Al⟩
 else if(kk=7∨kk=11)/\k=o∨kk=16/\k=(ix wv.Af o).Mutex then⟨-1,x.Al⟩
 else if kk=8/\k=o then⟨x.B6,O3 (x.Al++[t])⟩
 else if kk=9/\k=o then⟨x.B6,x.Al.filter λy=> !(y==t)⟩
 else x
theorem setT_L (s:AP) (t:Int) (g:AH->AH):(Kx s t g).AE=s.AE:=rfl
theorem fA {s:AP} {i k:Int} (hi:Df i s.AE.length=true) (a:Df k s.AE.length=true) (f:AW->AW):ix (Kw s i f).AE k=if k=i then f (ix s.AE i)else ix s.AE k:=MB hi a
theorem gO {wv:AD} {s:AP} {t o wake:Int} {k:Int} (n:Df k s.AE.length=true):∀a,(a=6∨a=7∨a=8∨a=9∨a=10∨a=11->Df o s.AE.length=true)->(a=16∨a=17->Df (ix wv.Af o).Mutex s.AE.length=true)->
 ix (DX wv s t a o wake).1.AE k=VX wv t a o k (ix s.AE k):=by
 refine kinds ?_ ?_ ?_ ?_ ?_ ?_ ?_ ?_ ?_ ?_ ?_ ?_ ?_ ?_ ?_ ?_ ?_ ?_ ?_ ?_ ?_ ?_ ?_ (λa q r u v w x y z B b c F d e f E g i j D l G m=> ?_)
 all_goals
  intro C p;unfold DX VX
 all_goals first
  | (simp(decide:=true)only[AA5,AAx,AB2,AB3,ABU,false_or,true_and,false_and,Kx];done)
  | (simp(decide:=true)only[AA5,AAx,AB2,AB3,ABU,false_or,true_and,false_and];rw[fA (C (by omega)) n];split<;>simp[*];done)
  | (simp(decide:=true)only[AA5,AAx,AB2,AB3,ABU,false_or,true_and,false_and];refine(fA (p (by omega)) n _).trans ?_;split<;>rename_i h<;>simp only[h,AA5,AAx];done)
  | (simp(decide:=true)only[AA5,AAx,AB2,AB3,ABU,false_or,true_and,false_and];split<;>rfl)
  | (simp only[q,r,u,v,w,x,y,z,B,b,c,F,d,e,f,E,g,i,j,D,l,G,m,AAx,or_self,false_and];done)
  |skip
 all_goals
  simp(decide:=true)only[AA5,AAx,AB2,AB3,ABU,false_or,true_and,false_and];rw[setT_L,fA (p (by omega)) n];split
  . rename_i h;simp only[h,AA5,AAx]
  . rename_i h;simp only[h,AA5,AAx]
theorem XW {wv:AD} {s:AP} {t b o wake:Int} (c:CT wv s t b o=true) {k:Int} (e:Df k wv.AE.length=true):ix (DX wv s t b o wake).1.AE k=VX wv t b o k (ix s.AE k):=by
 unfold CT at c;simp only[AAi]at c;obtain⟨d,_,a,_⟩:=c;have f:=(Ek d).1;have g:=λh=>HO d (o:=o) h;rw[← f]at e g;refine gO e b (λh=> ?_) λh=>g ?_
 . rw[f];unfold CF at a;rcases h with h|h|h|h|h|h<;>subst h<;>simp(decide:=true)only[AA5,AAx,AB2,AB3,ABU,AAi]at a<;>exact a.1
 . unfold CF at a;rcases h with h|h<;>subst h<;>simpa(decide:=true)only[AA5,AAx,AB2,AB3,ABU]using a
def hpL (t:Int) (x:AW):Bool×Bool:=(x.B6==t,x.Al.contains t)
def ownF (wv:AD) (kk o k:Int) (p:Bool×Bool):Bool×Bool:=
 if(kk=6∨kk=10)/\k=o∨kk=17/\k=(ix wv.Af o).Mutex then(true,p.2)
 else if(kk=7∨kk=11)/\k=o∨kk=16/\k=(ix wv.Af o).Mutex then(false,p.2)
 else if kk=8/\k=o then(p.1,true)
 else if kk=9/\k=o then(p.1,false)
 else p
def XI (wv:AD) (s:AP):Prop:=∀k,Df k wv.AE.length=true->(ix s.AE k).Al≠[]->(ix wv.AE k).RW=true/\(ix s.AE k).B6= -1
def MQ (wv:AD):Prop:=∀o,Df o wv.Af.length=true->(ix wv.AE (ix wv.Af o).Mutex).RW=false
theorem own_eq {wv:AD} {t a o k:Int} (c:0≤t) (x:AW):hpL t (VX wv t a o k x)=ownF wv a o k (hpL t x):=by
 have b:((-1:Int)==t)=false:=by simp;omega
 unfold VX ownF hpL;split
 . simp
 . split
   . simp[b]
   . split
     . have:(O3 (x.Al++[t])).contains t=true:=(by rw[AA3,Kt];simp);simp only[this]
     . split
       . have:(x.Al.filter λy=> !(y==t)).contains t=false:=(by rw[Bool.eq_false_iff,ne_eq,AA3,List.mem_filter];simp);simp only[this]
       . rfl
theorem Ya {wv:AD} {s:AP} {u c o:Int} (d:CT wv s u c o=true):
 (c=6->(ix s.AE o).B6= -1/\(ix wv.AE o).RW=false)/\(c=10->(ix s.AE o).B6= -1/\(ix s.AE o).Al=[])/\(c=8->(ix s.AE o).B6= -1/\(ix wv.AE o).RW=true)/\(c=7∨c=11->(ix s.AE o).B6=u)/\
 (c=16->(ix s.AE (ix wv.Af o).Mutex).B6=u/\Df o wv.Af.length=true)/\(c=17->(ix s.AE (ix wv.Af o).Mutex).B6= -1/\Df o wv.Af.length=true):=by
 unfold CT at d;simp only[AAi]at d;obtain⟨_,_,b,a⟩:=d;unfold CF at b;unfold Ku at a;refine⟨λh=> ?_,λh=> ?_,λh=> ?_,λh=> ?_,λh=> ?_,λh=> ?_⟩
 . subst h;simp(decide:=true)only[AA5,AAx,AB2,AB3,ABU,AAi,AAw,ABR]at b a;exact⟨a.2,b.2⟩
 . subst h;simp(decide:=true)only[AA5,AAx,AB2,AB3,ABU,AAi,AAw,ABR]at b a;exact⟨a.2.1,ABs (by omega)⟩
 . subst h;simp(decide:=true)only[AA5,AAx,AB2,AB3,ABU,AAi,AAw,ABR]at b a;exact⟨a.2.1,b.2⟩
 . rcases h with h|h<;>subst h<;>simp(decide:=true)only[AA5,AAx,AB2,AB3,ABU,AAi,AAw,ABR]at b a<;>exact a.2
 . subst h;simp(decide:=true)only[AA5,AAx,AB2,AB3,ABU,AAi,AAw,ABR]at b a;exact⟨a.2,b⟩
 . subst h;simp(decide:=true)only[AA5,AAx,AB2,AB3,ABU,AAi,AAw,ABR]at b a;exact⟨a.2.2,b⟩
theorem other_eq {wv:AD} {s:AP} {u t g o k:Int} (i:CT wv s u g o=true) (m:0≤t) (hn:u≠t):hpL t (VX wv u g o k (ix s.AE k))=hpL t (ix s.AE k):=by
 obtain⟨j,a,n,l,b,c⟩:=Ya i;have d:((-1:Int)==t)=false:=by simp;omega
 have f:(u==t)=false:=by simpa using hn
 unfold VX hpL;split
 . rename_i h;have:(ix s.AE k).B6= -1:=by
    rcases h with⟨h|h,rfl⟩|⟨h,rfl⟩
    . exact(j h).1
    . exact(a h).1
    . exact(c h).1
   simp only[this,d,f]
 . split
   . rename_i h;have:(ix s.AE k).B6=u:=by
      rcases h with⟨h,rfl⟩|⟨h,rfl⟩
      . exact l h
      . exact(b h).1
     simp only[this,d,f]
   . split
     . have:(O3 ((ix s.AE k).Al++[u])).contains t=(ix s.AE k).Al.contains t:=(by rw[Bool.eq_iff_iff,AA3,AA3,Kt];simp only[AAz,ABG];exact⟨λh=>h.resolve_right λe=>hn e.symm,.inl⟩);simp only[this]
     . split
       . have:((ix s.AE k).Al.filter λy=> !(y==u)).contains t=(ix s.AE k).Al.contains t:=(by rw[Bool.eq_iff_iff,AA3,AA3,List.mem_filter];exact⟨λh=>h.1,λh=>⟨h,by simpa usingλe=>hn e.symm⟩⟩);simp only[this]
       . rfl
theorem XI.apply {wv:AD} {s:AP} (m:MQ wv) (h:XI wv s) {u j o wake:Int} (g:CT wv s u j o=true):XI wv (DX wv s u j o wake).1:=by
 intro k i;obtain⟨p,d,l,q,n,f⟩:=Ya g;rw[XW g i];have b:=h k i;unfold VX;split
 . rename_i a;intro c;have b:=b c;rcases a with⟨a|a,rfl⟩|⟨a,rfl⟩
   . rw[(p a).2]at b;cases b.1
   . exact absurd (d a).2 c
   . rw[m _ (f a).2]at b;cases b.1
 . split
   . intro c;exact⟨(b c).1,rfl⟩
   . split
     . rename_i a;obtain⟨a,rfl⟩:=a;exactλ_=>⟨(l a).2,(l a).1⟩
     . split
       . intro c;refine b λe=>c ?_;simp only[e];rfl
       . exact b
def HF (wv:AD) (t k:Int) (l:List AG) (p:Bool×Bool):Bool×Bool:=l.foldl (λp e=>if e.Thread=t then ownF wv e.Kind e.Obj k p else p) p
theorem HF_snoc (wv:AD) (t k:Int) (l:List AG) (e:AG) (p:Bool×Bool):HF wv t k (l++[e]) p=if e.Thread=t then ownF wv e.Kind e.Obj k (HF wv t k l p)else HF wv t k l p:=by unfold HF;rw[List.foldl_append];rfl
theorem HF_skip (wv:AD) (t k:Int) {l r:List AG} (h:∀e∈r,e.Thread≠t) (p:Bool×Bool):HF wv t k (l++r) p=HF wv t k l p:=by
 unfold HF;rw[List.foldl_append];generalize l.foldl _ p=q;revert q;induction r with
 |nil=>intro q;rfl
 |cons e r ih=>intro q;rw[List.foldl_cons,AAp (h e (by simp))];exact ih (λx a=>h x (by simp[a])) q
instance:Inhabited Sy:=⟨⟨0,false⟩⟩
structure WQ (w:AO):Prop where
 g:WG w
 f:WinF w
theorem WG.q {w:AO} (h:WG w):WQ w:=by refine⟨h,?_⟩;have a:=h.v;unfold Sx at a;simp only[AAi,AA1]at a;exact⟨a.1,a.2.1,a.2.2.1⟩
structure GIw (w:AO) (K:Nat) (c:qG):Prop where
 f:HM w.World c.Sync=true
 r:RB (1000+K) c.Sync
 l:c.Cells.length=w.World.Cells.length
 u:c.AK.length=w.World.AK.length
 x:c.Fixed.length=w.AF.length
 k:c.Woke.length=w.AF.length
 o:c.Order.length≤K
 p:∀(i j:Nat) (hi:i<j) (hj:j<w.AF.length),w.AF[i].Thread=w.AF[j].Thread->(j:Int)∈c.Order->(i:Int)∈c.Order
 h:∀t k,0≤t->Df k w.World.AE.length=true->∀m,m≤w.AF.length->(∀(i:Nat) (hi:i<w.AF.length),w.AF[i].Thread=t->((i:Int)∈c.Order↔i<m))->hpL t (ix c.Sync.AE k)=HF w.World t k (w.AF.take m) (hpL t (ix w.Init.Sync.AE k))
 X:XI w.World c.Sync
theorem GIw.step {w:AO} (hw:WQ w) {K:Nat} {c:qG} (d:GIw w K c) {i:Nat} (hi:i<w.AF.length) (J:(i:Int)∉c.Order) (Q:∀(j:Nat) (z:j<i),w.AF[j].Thread=w.AF[i].Thread->(j:Int)∈c.Order) (G:CT w.World c.Sync w.AF[i].Thread w.AF[i].Kind w.AF[i].Obj=true) (wake:Int)
 {C F:List Sy} {X:List Bool} {W:List Int} (R:C.length=c.Cells.length) (S:F.length=c.AK.length) (U:X.length=c.Fixed.length) (T:W.length=c.Woke.length):
 GIw w (K+1) ⟨(DX w.World c.Sync w.AF[i].Thread w.AF[i].Kind w.AF[i].Obj wake).1,C,F,c.Order++[(i:Int)],X,W⟩:=by
 have hq:=Rq hw.f.v;refine⟨Xm d.f _ _ _ _,d.r.apply _ _ _ _ _,R.trans d.l,S.trans d.u,U.trans d.x,T.trans d.k,by have:=d.o;simp;omega,?_,?_,d.X.apply hq G⟩
 . intro a b E V y s;rcases AAz.1 s with s|s
   . exact List.mem_append_left _ (d.p a b E V y s)
   grind
 . intro t k y I m s D;dsimp only at D ⊢;rw[XW G I];by_cases q:w.AF[i].Thread=t
   . have Z:i<m:=(D i hi q).1 (by simp);have O:w.AF.take m=w.AF.take (i+1)++(w.AF.take m).drop (i+1):=(by have:=ABq (i+1) (w.AF.take m);rw[List.take_take,Nat.min_eq_left (by omega)]at this;exact this.symm);have P:∀e∈(w.AF.take m).drop (i+1),e.Thread≠t:=by
      intro e H g;obtain⟨j,z,rfl⟩:=List.getElem_of_mem H;simp only[List.length_drop,List.length_take]at z;rw[List.getElem_drop,List.getElem_take]at g;have B:i+1+j<w.AF.length:=by omega
      have:=(D (i+1+j) B g).2 (by omega);rcases AAz.1 this with L|L
      . exact J (d.p i (i+1+j) (by omega) B (q.trans g.symm) L)
      . grind
     rw[O,HF_skip _ _ _ P,← AA2 hi,HF_snoc,AAs q,q,own_eq y];congr 1;refine d.h t k y I i (by omega) λj z n=>⟨λN=> ?_,λM=>Q j M (n.trans q.symm)⟩;refine Decidable.byContradiction λhn=> ?_;by_cases e:j=i
     . grind
     . exact J (d.p i j (by omega) z (q.trans n.symm) N)
   . rw[other_eq G y q];refine d.h t k y I m s λj z n=> ?_;grind
theorem SameEvent_self {e:AG} (h:Ev400 e):Gw e e=some true:=by unfold Gw;rw[fS _ (by have:=h.1;omega),fS _ (by have:=h.2;omega)];simp;rfl
theorem yO (l:List AG) (a:l.length≤1000000) (h:∀e∈l,Ev400 e):∀n i:Nat,i≤l.length->l.length<n+i->E9.AZ l l n (i:Int)=some true
 |0,i,h1,h2=>by omega
 |n+1,i,h1,h2=>by
  rw[E9.AZ];unfold E9.L1;by_cases hi:i<l.length
  . rw[BC (by omega),CZ hi,AAg,AAg,SameEvent_self (h _ (AA0 hi)),AAg,AAp (by simp),Ai (by omega)];exact yO l a h n (i+1) (by omega) (by omega)
  . rw[Ad (by omega)];rfl
theorem SameEvents_self (l:List AG) (a:l.length≤1000000) (h:∀e∈l,Ev400 e):E9 l l=some true:=by unfold E9;rw[AAp (by simp)];exact yO l a h BP 0 (by omega) (by have:=BU;omega)
theorem Same18_self {t:Aw} (h:AT t) {k i:Nat} (hi:i≤t.AF.length):Jf (aB t k i) (aB t k i)=some true:=by have b:=h.l;unfold Jf aB;simp only[SameWorld_self (DF h.w),AAg,AA5,ABb,SameSnap_self (h.small hi)];rw[SameEvents_self _ (by simp;omega) (λe a=>h.ev (List.mem_of_mem_drop (AB4 a)))];rfl
theorem AT.evok {t:Aw} (h:AT t) {e:AG} (a:e∈t.AF):JC e:=⟨by have:=(h.ev a).1;omega,by have:=(h.ev a).2;omega⟩
theorem yK {c:Type} (a:List c) (x y:c) (b:List c):(a++x::b).set a.length y=a++y::b:=by simp
end Go.Abs
namespace Go.Abs
theorem awake18:IM=some true:=by decide +kernel
end Go.Abs
namespace Go.Abs
set_option maxHeartbeats 4000000
theorem snap_small {t:Aw} (h:AT t) (n:Int):SmallN (snapS t n).1:=by
 have e:SmallN NH:=⟨by decide,by decide,by decide,by decide,by decide,by decide,λx a=>by cases a⟩;unfold snapS;split
 . exact e
 . split
   . exact e
   . exact h.small (by omega)
theorem split_same {t:Aw} (h:AT t) (size:Int) {i:Nat} (hi:i<(Qr t size).1.length):(Qr t size).1.length≤100000/\Jf (Qr t size).1[i] (Qr t size).1[i]=some true:=by
 revert hi;unfold Qr;split
 . intro hi;simp at hi
 . split
   . intro hi;simp at hi
   . intro hi;simp only[Wo]at hi ⊢;have b:=winN_le (k:=size.toNat) (by omega) t.AF.length;have c:=h.l;refine⟨by omega,?_⟩;simp only[Ld,List.getElem_map,List.getElem_range];refine Same18_self h ?_;have:i*size.toNat<t.AF.length:=(by unfold VE at hi;have a:=(Nat.le_div_iff_mul_le (by omega)).1 (show i+1≤_ from hi);rw[ABl]at a;omega);omega
theorem WMade_tot {r:Uf} (l:RunOK r) (e d:Int):B7 (El r e d) λb=>b=true:=by
 have q:=BU;have j1:∀z,(z=false->r.Program.length≤200)->B7 (El.J1 d r e z) λb=>b=true:=by
  intro z o;unfold El.J1;refine tI (λ_=>tR rfl) λh=>tB (sI l (m:=30) (by omega) (by omega) (by have:=o h;omega)) ?_;rintro t ⟨c,_⟩;have a:∀e∈t.AF,JC e:=λe k=>c.evok k;rw[Split_eq t a,AAg,xF t a,AAg,Snapshot_eq t a,AAg,rSnapshot_eq t a,AAg,SameSnap_self (snap_small c _),AAg];refine tI (λh=>by simp at h) λ_=>tI (λh=>by simp at h) λ_=>tI (λh=>by simp at h) λ_=> ?_;generalize (A1 e).tmod 20=size;unfold El.J2;refine tI (λh=>by cases h) λ_=> ?_;have key:∀(n i:Nat),(Qr t size).1.length<n+i->i≤(Qr t size).1.length->B7 (El.AZ (Qr t size) (Qr t size) n i) λb=>b=true:=by
   intro n;induction n with
   |zero=>intro i f j;omega
   |succ n ih=>
    intro i f j;unfold El.AZ El.L1;refine tI (λh=> ?_) λ_=> ?_
    . have h:=AAq h;have hi:i<(Qr t size).1.length:=(by omega);obtain⟨p,g2⟩:=split_same c size hi;rw[CZ hi,AAg,AAg,g2,AAg,Ai (by omega)];exact tI (λh=>by cases h) λ_=>ih (i+1) (by omega) (by omega)
    . unfold El.J3;rw[awake18];exact tR rfl
  refine key BP 0 ?_ (by omega);by_cases g:0<(Qr t size).1.length
  . have:=(split_same c size g).1;omega
  . omega
 unfold El;exact tI (λ_=>j1 _ λh=>by cases h) λf=>tI (λ_=>j1 _ λh=>by cases h) λ_=>j1 _ λ_=>by have:=of_decide_eq_false f;omega
def LW (w:Bool) (h:D5):List Int:=O3 (if w=true then h.HW else h.HW++h.MX)
def OJ (a:DO) (t:Int) (w:Bool) (h:D5):DO×Bool:=
 if a.State=0∨a.State=1/\t=a.B6 then(⟨1,t,[]⟩,false)
 else(⟨if w=true then 3 else if a.State=1 then 2 else a.State,0,if a.State=1 then LW w h else a.AE.filter (LW w h).contains⟩,
  (if w=true then 3 else if a.State=1 then 2 else a.State)==3&&((if a.State=1 then LW w h else a.AE.filter (LW w h).contains).length:Int)==0)
structure EI (a:DO):Prop where
 s:a.State=0∨a.State=1∨a.State=2∨a.State=3
 o:a.AE.Pairwise (· < ·)
 l:a.AE.length≤1000
def HL (h:D5):Prop:=h.HW.length≤100/\h.MX.length≤100
theorem o0 {w:Bool} {h:D5} (a:HL h):(LW w h).length≤200:=by
 have b:=a.1;have c:=a.2;unfold LW;refine ABc (UP _) ?_;split
 . omega
 . simp only[ABK];omega
theorem EI.step {a:DO} (b:EI a) {t:Int} {w:Bool} {h:D5} (c:HL h):EI (OJ a t w h).1:=by
 have e:=o0 (w:=w) c;have f:=b.s;unfold OJ;split
 . exact⟨.inr (.inl rfl),.nil,by simp⟩
 . rename_i d;refine⟨?_,?_,?_⟩
   . simp only;split
     . omega
     . split<;>omega
   . simp only;split
     . exact Lo _
     . exact b.o.filter _
   . simp only;split
     . omega
     . exact ABc (List.length_filter_le _ _) b.l
instance:Inhabited DO:=⟨⟨0,0,[]⟩⟩
def accB (wv:AD) (e:AG):Bool:=(e.Kind==3||e.Kind==4)&& !(ix wv.Cells e.Obj).Gl
def sF (wv:AD) (i:Int) (e:AG) (h:D5) (s:List DO×List Int):List DO×List Int:=
 if accB wv e=true then
  let r:=OJ (ix s.1 e.Obj) e.Thread (e.Kind==4) h
  (s.1.set e.Obj.toNat r.1,if r.2=true/\ix s.2 e.Obj<0 then s.2.set e.Obj.toNat i else s.2)
 else s
def CE (wv:AD) (e:AG):Prop:=e.Kind=3∨e.Kind=4->Df e.Obj wv.Cells.length=true
structure WS (n:Nat) (s:List DO×List Int):Prop where
 a:s.1.length=n
 b:s.2.length=n
 e:∀x∈s.1,EI x
theorem ix_mem {a:Type} [Inhabited a] {l:List a} {i:Int} (h:Df i l.length=true):ix l i∈l:=by
 have:=Cb h;unfold gt at this;split at this
 . exact AAu this
 . cases this
theorem WS.step {n:Nat} {wv:AD} (hn:n=wv.Cells.length) {s:List DO×List Int} (c:WS n s) {e:AG} (g:CE wv e) {h:D5} (j:HL h) (i:Int):WS n (sF wv i e h s):=by
 unfold sF;split
 . rename_i d;have k:e.Kind=3∨e.Kind=4:=(by unfold accB at d;simp at d;exact d.1);have hi:Df e.Obj s.1.length=true:=(by rw[c.a,hn];exact g k);refine⟨by simpa using c.a,?_,λx f=> ?_⟩
   . simp only;split<;>simpa using c.b
   . rcases ABB f with f|rfl
     . exact c.e x f
     . exact(c.e _ (ix_mem hi)).step j
 . exact c
theorem fill {c:Type} {L:Nat->List Int->Int->AB8 c} {N:Nat} {R:List Int->AB8 c} (f:N≤1000) (b:∀(n i:Nat) (l:List Int),i<N->l.length=N->L (n+1) l (i:Int)=L n (l.set i (-1)) ((i+1:Nat):Int)) (a:∀n l,L (n+1) l (N:Int)=R l):∀(n i:Nat),i≤N->N<n+i->L n (List.replicate i (-1)++List.replicate (N-i) 0) (i:Int)=R (List.replicate N (-1))
 |0,i,h1,h2=>by omega
 |n+1,i,h1,h2=>by
  by_cases hi:i<N
  . have d:N-i=(N-(i+1))+1:=(by omega);rw[b n i _ hi (by simp;omega),d,List.replicate_succ];have e:(List.replicate i (-1:Int)++(0:Int)::List.replicate (N-(i+1)) 0).set i (-1)=List.replicate (i+1) (-1)++List.replicate (N-(i+1)) 0:=(by have:=yK (List.replicate i (-1:Int)) 0 (-1) (List.replicate (N-(i+1)) 0);rw[ABp]at this;rw[this,AB5];simp);rw[e];exact fill f b a n (i+1) (by omega) (by omega)
  . obtain rfl:i=N:=(by omega);rw[a];simp
theorem AT.ce {t:Aw} (h:AT t) {e:AG} (d:e∈t.AF):CE t.World e:=by intro a;obtain⟨i,hi,rfl⟩:=List.getElem_of_mem d;have b:=h.poss hi;unfold IZ CT at b;simp only[AAi]at b;have c:=b.2.2.1.2.2.1;unfold CF at c;rcases a with a|a<;>simpa[a]using c
theorem v8 {b:Type} [Inhabited b] {l:List b} {i:Int} (h:Df i l.length=true) (a:b):ix (l.set i.toNat a) i=a:=by have h:=Bb.1 h;unfold ix;rw[AAk (by omega)];rfl
theorem bJ {b:Type} [Inhabited b] {l:List b} {i j:Int} (hi:0≤i) (c:0≤j) (h:i≠j) (a:b):ix (l.set i.toNat a) j=ix l j:=by unfold ix;rw[AAn (by omega)]
def holdB (c k:Int) (x:AG×D5):Bool:= !((x.1.Kind==3||x.1.Kind==4)&&x.1.Obj==c)||(x.2.HW.contains k||(x.1.Kind==3&&x.2.MX.contains k))
def DI (c k:Int) (s:List DO×List Int):Prop:=((ix s.1 c).State=0∨(ix s.1 c).State=1∨k∈(ix s.1 c).AE)/\ix s.2 c<0
theorem DI.step {wv:AD} {c k:Int} {s:List DO×List Int} (h:DI c k s) (r:WS wv.Cells.length s) (p:Df c wv.Cells.length=true) {e:AG} {hd:D5} (q:CE wv e) (d:holdB c k (e,hd)=true) (i:Int):DI c k (sF wv i e hd s):=by
 unfold sF;split
 . rename_i l;dsimp only;have f:e.Kind=3∨e.Kind=4:=(by unfold accB at l;simp at l;exact l.1);have hi:=q f;have t:=Bb.1 hi;have u:=Bb.1 p;by_cases b:e.Obj=c
   . subst b;have m:k∈LW (e.Kind==4) hd:=by
      unfold holdB at d;simp only[ABb,Bool.and_true,ABE,ABR,AAi,AA3]at d;unfold LW;rw[Kt];rcases f with f|f
      . simp[f]at d ⊢;exact d
      . simp[f]at d ⊢;exact d
     have n:(OJ (ix s.1 e.Obj) e.Thread (e.Kind==4) hd).2=false/\((OJ (ix s.1 e.Obj) e.Thread (e.Kind==4) hd).1.State=1∨k∈(OJ (ix s.1 e.Obj) e.Thread (e.Kind==4) hd).1.AE):=by
      unfold OJ;split
      . exact⟨rfl,.inl rfl⟩
      . rename_i hn;have o:k∈(if(ix s.1 e.Obj).State=1 then LW (e.Kind==4) hd else(ix s.1 e.Obj).AE.filter (LW (e.Kind==4) hd).contains):=by
         split
         . exact m
         . rename_i j;rcases h.1 with g|g|g
           . exact absurd (.inl g) hn
           . exact absurd g j
           . exact List.mem_filter.2 ⟨g,by simpa using m⟩
        refine⟨?_,.inr o⟩;have:((if(ix s.1 e.Obj).State=1 then LW (e.Kind==4) hd else(ix s.1 e.Obj).AE.filter (LW (e.Kind==4) hd).contains).length:Int)≠0:=by have:=List.length_pos_of_mem o;omega
        simp only[Bool.and_eq_false_iff,ABv];exact .inr this
     unfold DI;dsimp only;rw[v8 (by rw[r.a];exact hi),AAp (by rw[n.1];simp)];exact⟨n.2.elim (λg=>.inr (.inl g)) λg=>.inr (.inr g),h.2⟩
   . unfold DI;dsimp only;rw[bJ (by omega) (by omega) b];refine⟨h.1,?_⟩;split
     . rw[bJ (by omega) (by omega) b];exact h.2
     . exact h.2
 . exact h
end Go.Abs
namespace Go.Abs
open Go.Proofs Go.RowKit
set_option maxRecDepth 100000
set_option maxHeartbeats 4000000
theorem kR {b:Type} {e:b->List AV} {ok:b->Prop}:∀(rows:List (List AV)),(∀a∈rows,∃x:b,a=e x/\ok x)->∃l:List b,rows=l.map e/\∀x∈l,ok x
 |[],_=>⟨[],rfl,λ_ h=>by simp at h⟩
 |r::rs,h=>by
  obtain⟨l,f,g⟩:=kR rs (λa i=>h a (by simp[i]));obtain⟨x,j,c⟩:=h r (by simp);refine⟨x::l,by rw[j,f];rfl,λy d=> ?_⟩;rcases ABH.1 d with rfl|d
  . exact c
  . exact g y d
def SO (x:Int):Prop:=(Lit.int .u8 x).wf=true
structure KZ (x:List Int):Prop where
 len:x.length*1≤reachBytes
 all:∀y∈x,SO y
structure okRun (x:Uf):Prop where
 f0:KZ x.Program
 f1:KZ x.Ct
 f2:KZ x.RJ
theorem op5:N7 Tryz.prog 5 (λa=>∃x:Int,a=[.sc (.int .u8 x)]/\SO x):=(lY Tryz.underlying5).mono λ_ ⟨n,h,b⟩=>⟨n,h,b⟩
theorem op22:N7 Tryz.prog 22 (λc=>∃x:List Int,c=[.sl false 1 (x.map Ww)]/\KZ x):=by
 refine(kC (k:=1) Tryz.underlying22 (by kernel_rfl) (by omega) op5).mono ?_;rintro c ⟨rows,rfl,g,d⟩;obtain⟨l,rfl,f⟩:=kR (e:=Ww) (ok:=SO) rows λb h=>(g b h).1;have a:Tryz.prog.bytesOf 5=1:=by kernel_rfl
 rw[a,ABI]at d;exact⟨l,rfl,d,f⟩
theorem op24:N7 Tryz.prog 24 (λa=>∃x:Uf,a=sJ x/\okRun x):=by refine(eN (Xs:=[λa=>∃x:List Int,a=[.sl false 1 (x.map Ww)]/\KZ x,λa=>∃x:List Int,a=[.sl false 1 (x.map Ww)]/\KZ x,λa=>∃x:List Int,a=[.sl false 1 (x.map Ww)]/\KZ x]) Tryz.underlying24 ⟨by kernel_rfl,op22,⟨by kernel_rfl,op22,⟨by kernel_rfl,op22,trivial⟩⟩⟩ (by kernel_rfl)).mono ?_;rintro a ⟨a0,j,rfl,⟨e,rfl,b⟩,⟨h,k,rfl,⟨f,rfl,c⟩,⟨i,l,rfl,⟨g,rfl,d⟩,rfl⟩⟩⟩;exact⟨⟨e,f,g⟩,rfl,⟨b,c,d⟩⟩
theorem arg24 (a:List AV):ZZ Tryz.prog 24 a= .agg a:=by unfold ZZ;rw[Tryz.underlying24];rfl
def okI_i8 (x:Int):Prop:=(Lit.int .i8 x).wf=true
theorem op75:N7 Tryz.prog 75 (λa=>∃x:Int,a=[.sc (.int .i8 x)]/\okI_i8 x):=(lY Tryz.underlying75).mono λ_ ⟨n,h,b⟩=>⟨n,h,b⟩
theorem arg75 (a:AV):ZZ Tryz.prog 75 [a]=a:=by unfold ZZ;rw[Tryz.underlying75];rfl
theorem laid:laidOutB Tryz.prog=true:=by kernel_rfl
theorem own0:ownKnob Tryz.prog.godebug=none:=by kernel_rfl
abbrev jX:List (String×DataW Unit):=[("interleave/token.keywords",Go.Proofs.YthmijagacgnmkaaGreatDoor.Rows.laid_interleave_token_keywords)]
theorem gName:Tryz.prog.globalNamed "interleave/token.keywords" =some 0:=by kernel_rfl
theorem gType:(Tryz.prog.globals[0]?).map (·.type)=some 318:=by kernel_rfl
theorem wI:(Go.Proofs.YthmijagacgnmkaaGreatDoor.Rows.laid_interleave_token_keywords:DataW Unit)= .agg (Lz.map λs=>.lit (.string s.data.toList)):=rfl
theorem oB {W:World} (h:laidMetH Tryz.prog jX W):GI W (Old W):=by
 rw[MakeChecks.laidMetH_plain _ _ _ (by kernel_rfl)]at h;obtain⟨G,⟨g0,I,c,f0,F,H,i,n,o,f,_,_⟩,_,_⟩:=h;obtain rfl:=AAl (gName.symm.trans i);obtain rfl:=AAl (gType.symm.trans n);obtain⟨w,m,rfl,p,t,hn,g⟩:=DataW.trod_array Tryz.underlying318 f;have ce:Tryz.prog.cellsOf 9=1:=by kernel_rfl
 rw[wI]at p;simp only[AAv,DataW.agg.injEq]at p;have r:∀(j:Nat) s,Lz[j]? =some s->W.cell? ⟨0,j,none⟩=some (.string s):=by
  intro j s b;have k:j<22:=by have:=(AAj.1 b).1;exact this
  have a:(w.map (·.1))[j]? =some (.lit (.string s.data.toList)):=by rw[← p.1,AAt,b];rfl
  rw[AAt]at a;cases hxs:w[j]? with
  |none=>rw[hxs]at a;cases a
  |some y=>have u:=g j k;rw[hxs,ce]at u;obtain⟨e,B,D,_⟩:=DataW.trod_string Tryz.underlying9 u;rw[hxs]at a;simp only[AA9,AAh]at a;rw[D]at a;simp only[DataW.lit.injEq,Lit.string.injEq]at a;have l:e=s:=ByteArray.ext (Array.toList_inj.1 a);subst l;rw[World.var?_cell gName o j];have:(c.toList.drop (j*1)).take 1=[.string e]:=B;rw[Nat.mul_one]at this;have d:c.toList[j]? =some (.string e):=(by have C:((c.toList.drop j).take 1)[0]? =some (.string e):=(by rw[this];rfl);simpa using C);simpa using d
 intro x q;have:x=(0,Lz.map Value.string):=by simpa[Gam]using q
 subst this;have d:=r 0 _ rfl;obtain⟨_,z⟩:=qM d;refine⟨z,?_⟩;unfold World.cell? at d;cases hb:W.heap[0]? with
 |none=>simp[hb]at d
 |some Mg=>
  cases Mg with
  |cells arr E fz=>
   refine⟨arr,E,fz,rfl,λj v b=> ?_⟩;rw[AAt]at b;cases hs:Lz[j]? with
   |none=>rw[hs]at b;cases b
   |some s=>
    rw[hs]at b;simp only[AA9,AAh]at b;subst b
    have:=r j s hs;unfold World.cell? at this;simpa[hb]using this
  |_=>simp[hb]at d
end Go.Abs
namespace Go.Abs
theorem u8_of {x:Int} (h:SO x):0≤x/\x<256:=by unfold SO Lit.wf at h;simp only[AAi,AA1]at h;have c:=h.1;have d:=h.2;have a:IntKind.u8.min=0:=rfl;have b:IntKind.u8.max=255:=rfl;omega
theorem true_of {o:AB8 Bool} (h:B7 o λb=>b=true):o=some true:=by obtain⟨b,h,rfl⟩:=h;exact h
theorem YU {l:List Int} (h:KZ l):Rl l:=λx a=>u8_of (h.all x a)
theorem run_in {r:Uf} (h:okRun r):RunOK r:=⟨YU h.f0,YU h.f1,YU h.f2⟩
theorem WMade_law {r:Uf} {a b:Int} (h:okRun r):El r a b=some true:=true_of (WMade_tot (run_in h) a b)
end Go.Abs
