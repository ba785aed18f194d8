/- What the typed programs give, in plain Lean. -/
import Derived.Test.YthmijagacgnmkaaGreatDoorWalkT
import Derived.Test.YthmijagacgnmkaaGreatDoorPlainC
import Derived.Test.YthmijagacgnmkaaGreatDoorRows
import Derived.Test.YthmijagacgnmkaaGreatDoorTie
import Derived.ProofKit
import Derived.LaidMore
import Derived.OpenShut
set_option linter.unusedSimpArgs false
set_option linter.unusedVariables false
namespace Go.Abs
set_option maxHeartbeats 4000000
section
theorem aJ {nt:Nat} {i:Int} (hi:i<nt):∀(S:List Dp) (m:Int) (R:List Dp),SN i m S->Gu nt i m (S++R)=Gu nt i (m+S.length) R:=by
 intro S;induction S with
 |nil=>intro m R _;simp
 |cons x r ih=>
  intro m R h;obtain⟨d,a⟩:=h 0 x rfl;have b:SN i (m+1) r:=λj y c=>by have:=h (j+1) y (by simpa using c);exact⟨this.1,by rw[this.2];omega⟩
  rw[AA6,Gu,AAZ (by omega),AAZ (by omega),ih _ _ b,a];simp only[AA4];rw[show m+((0:Nat):Int)=m from by omega,show m+1+(r.length:Int)=m+((r.length+1:Nat):Int)from by omega];simp
theorem nY {nt:Nat} {i t n:Int} (hi:i<nt) (h:t<i∨t=i/\n=0) {S:List Dp} (a:SN i 0 S):∃b c,(b<i+1∨b=i+1/\c=0)/\∀R,Gu nt t n (S++R)=Gu nt b c R:=by
 rcases h with h|⟨rfl,rfl⟩
 . cases S with
   |nil=>exact⟨t,n,.inl (by omega),λ_=>rfl⟩
   |cons x r=>obtain⟨d,e⟩:=a 0 x rfl;have f:SN i 1 r:=λj y g=>(by have:=a (j+1) y (by simpa using g);exact⟨this.1,by rw[this.2];omega⟩);refine⟨i,1+r.length,.inl (by omega),λR=> ?_⟩;rw[AA6,Gu,AAZ (by omega),AAa (by omega),d,aJ hi _ _ _ f,e];simp
 . exact⟨t,0+S.length,.inl (by omega),λR=>aJ hi _ _ _ a⟩
def S4 (p:AQ) (i:Nat):Nat:=((p.AA.take i).map λt=>NX 4 t.Body).sum
theorem aB {p:AQ} {i:Nat} (h:i<p.AA.length):S4 p (i+1)=S4 p i+NX 4 p.AA[i].Body:=aN h _
theorem cO {p:AQ} (h:(p.AA.map λt=>NX 4 t.Body).sum≤60) (i:Nat):S4 p i≤60:=by
 have:((p.AA.map λt=>NX 4 t.Body)).sum=S4 p i+((p.AA.drop i).map λt=>NX 4 t.Body).sum:=by
  conv=>lhs;rw[← ABj i p.AA,AA3,List.sum_append]
  rfl
 omega
theorem uZ {p:AQ} {i j:Nat} (h:i≤j):S4 p i≤S4 p j:=by
 have:S4 p j=S4 p i+(((p.AA.take j).drop i).map λt=>NX 4 t.Body).sum:=by
  unfold S4
  conv=>lhs;rw[← ABj i (p.AA.take j),List.take_take,Nat.min_eq_left h,AA3,List.sum_append]
 omega
structure WV (p:AQ) (N:Nat) (w:AB):Prop where
 c:w.Cells=LA
 l:w.AF=Xa
 d:w.Ah=[⟨cN,0⟩]
 f:w.AK=[⟨#[102]⟩]
 t:w.AA=(p.AA.take N).map (·.Name)
 n:w.BF.length=S4 p N
 o:∀j k,j<N->S4 p j≤k->k<S4 p (j+1)->∃y,w.BF[k]? =some y/\y.Thread=(j:Int)
 s:∃t n:Int,(t<N∨t=N/\n=0)/\∀R,Gu p.AA.length 0 0 (w.BF++R)=Gu p.AA.length t n R
theorem xX {p:AQ} (h:MP p) (u:∃l,A2 p=some (0,l)) (E:(p.AA.map λt=>NX 4 t.Body).sum≤60):Bx (Bm p) (WV p p.AA.length):=by
 obtain⟨l,u⟩:=u;have P:=h.t;unfold Bm;refine tE u (tI (λh=>by cases h) λ_=> ?_);have key:∀D T,Eg=some D->Bm.AZ ⟨D,T⟩ BU (AB.mk [] [] [] [] [] []) 0=Bm.J4 ⟨D,T⟩ ⟨LA,Xa,[⟨cN,0⟩],[⟨#[102]⟩],[],[]⟩:=by
  intro D T y;unfold Eg at y;obtain rfl:=AAU y
  kernel_rfl
 rw[show Bm.AZ p BU (AB.mk [] [] [] [] [] []) 0=_ from key p.Decls p.AA h.d];unfold Bm.J4;show Bx (Bm.Hz p BU ⟨LA,Xa,[⟨cN,0⟩],[⟨#[102]⟩],[],[]⟩ 0) _;refine Pr p.AA.length (λi w=>WV p i w) (F:=λn s i=>Bm.Hz _ n s i) (by omega) ⟨rfl,rfl,rfl,rfl,rfl,rfl,λj k h=>by omega,0,0,.inr ⟨rfl,rfl⟩,λ_=>rfl⟩ λn i w hi a k=> ?_;unfold Bm.Hz Bm.L3 Bm.J5;refine tD (λg=>aO (by omega) ?_) λQ=>tR ?_
 . have g:i<p.AA.length:=(by omega);have G:=aB g;have H:=cO E (i+1);have hn:=a.n;refine tC (BM (by rw[a.t];simp;omega)) (tB (sites_ok 4 _ _ _ _ _ (MI (by omega)) (by omega) (by omega) (h.b _ (AAl g))) λv I=>k _ (by omega) ?_);obtain⟨S,x,V,B,W⟩:=I;obtain⟨t,m,L,M⟩:=a.s;obtain⟨K,J,U,N⟩:=nY (nt:=p.AA.length) (i:=i) (by omega) L B;refine⟨a.c,a.l,a.d,a.f,?_,?_,?_,K,J,by omega,λR=> ?_⟩
   . simp only;rw[a.t,← AAm g,AA3];rfl
   . simp only;rw[x,AAz];omega
   . intro j q O r C;simp only;rw[x];by_cases e:j<i
     . have:=uZ (p:=p) (show j+1≤i by omega);rw[AAr (by omega)];exact a.o j q e r C
     . obtain rfl:j=i:=(by omega);rw[AAy (by omega)];have z:q-w.BF.length<S.length:=(by omega);exact⟨S[q-w.BF.length],AAV z,(B _ _ (AAV z)).1⟩
   . simp only;rw[x,ABB,M,N]
 . have:i=p.AA.length:=(by omega);rw[this]at a;exact a
theorem WV.names {p:AQ} {w:AB} (a:WV p p.AA.length w):w.AA=p.AA.map (·.Name):=by rw[a.t,List.take_length]
theorem wF {p:AQ} {w:AB} (h:MP p) (o:(p.AA.map λt=>NX 4 t.Body).sum≤60) (a:WV p p.AA.length w):Cz w=true:=by
 obtain⟨n,z,B,nm⟩:=h.nm;have e:=a.names;rw[nm]at e;obtain⟨t,m,C,y⟩:=a.s;have b:=y [];rw[List.append_nil]at b;have x:p.AA.length=w.AA.length:=by rw[a.names,AA0]
 rw[x]at b;have hn:=a.n;have q:=cO o p.AA.length;have g:=a.c;have i:=a.l;have j:=a.d;have k:=a.f;obtain⟨c,l,d,f,T,S⟩:=w;simp only at g i j k e hn b;subst g i j k;have v:AU LA=some ([⟨#[120]⟩,⟨#[121]⟩,⟨#[118]⟩,qS],true):=by decide +kernel
 have r:Gu T.length 0 0 S=true:=b;have u:T=MG.take 1∨T=MG.take 2∨T=MG.take 3∨T=MG.take 4:=by
  have:n=1∨n=2∨n=3∨n=4:=by omega
  rcases this with rfl|rfl|rfl|rfl<;>simp[e]
 unfold Cz;simp only[v,r];have hd:decide (S.length≤60)=true:=decide_eq_true (by omega);rw[hd];rcases u with rfl|rfl|rfl|rfl<;>(show @Eq Bool _ true;kernel_rfl)
theorem l9 {p:AQ} (h:MP p) (O:∃l,A2 p=some (0,l)):Bx (As p) λr=>CK r.1/\Bq r.1=some true:=by
 obtain⟨q,hq,T⟩:=check60 h;have S:(p.AA.map λt=>NX 4 t.Body).sum≤60:=by obtain⟨l,O⟩:=O;rw[O]at hq;cases hq;exact T rfl
 have ht:=h.t
 let Q:BL->Prop:=λc=>WV p p.AA.length c.World/\c.AA.length=p.AA.length/\∀(j:Nat) t,c.AA[j]? =some t->VO c.World j t
 have par:MA (As p) λr=>Q r.1:=by
  obtain⟨l,mU⟩:=O;unfold As;refine pE mU (pI (λh=>by cases h) λ_=>pB (pA (pT (ZW h ⟨l,mU⟩)) (pT (xX h ⟨l,mU⟩ S))) λw B=> ?_);obtain⟨mw,B⟩:=B;have wf:WF (λs=>s∈p.AA.map (·.Name)) w:=⟨B.c,B.l,B.d,B.f,λs W=>by rw[B.names];exact W,by rw[B.names,AA0];exact ht⟩;refine pLs p.AA.length (λi (s:BL×Int)=>s.1.World=w/\s.1.AA.length=i/\s.2=S4 p i/\∀(j:Nat) t,s.1.AA[j]? =some t->VO w j t) (F:=λn s i=>As.AZ p n s.1 s.2 i) (s0:=(_,_)) (λ_ _=>rfl) (by omega) ⟨rfl,rfl,rfl,by simp⟩ λn i s hi W k=> ?_;obtain⟨G,s2,s3,s4⟩:=W;unfold As.AZ As.L1 As.J4;refine pD (λH=>pE (Cw (by omega)) ?_) λkB=>pR ⟨by simp only;rw[G];exact B,by simp only;omega,by simp only;rw[G];exact s4⟩;have H:i<p.AA.length:=by omega
  have L:p.AA[i]∈p.AA:=AAl H;have ho1:=aB H;have ho2:=cO S (i+1);have hc:cg 4=336840:=rfl;have g0:GB (A6.mk s.1.World p.AA[i].GG [] 0 s.2) 4000000:=⟨by rw[G];exact mw,h.l _ L,by simp⟩;refine pB (pA (pT (W8 4 _ _ _ (MI (by omega)) (g0.less (by omega)) (h.b _ L))) (vX 4 _ _ (MI (by omega)) (h.b _ L) ⟨s.1.World,p.AA[i].GG,[],0,s.2⟩ ⟨by rw[G];exact wf,h.lo _ L⟩ (by simp only;omega))) λv hv=>pB (put_eq _) λu hu=> ?_;obtain⟨v0,v1,v2⟩:=hv;have v0:=v0.b;simp only[ABM]at v0;have V:(u.locals.length:Int)=2:=by rw[hu];simp only;rw[v1.l];simp only;rw[h.lo _ L];rfl
  have R:u.out=v.out++[⟨28,0,0,0,0, -1⟩]:=by rw[hu]
  have sg:=v1.s;simp only[ABM,G,s3]at sg;have v2':v.next=S4 p (i+1):=by rw[v2];simp only;omega
  have rb:∀y∈u.out,∀r∈rg y,0≤r/\r<32:=by
   intro y x r e;rw[R]at x;rcases AAh.1 x with x|x
   . obtain⟨m,m1,m2⟩:=List.getElem_of_mem x;exact(sg.i m y (by omega) m1 (by rw[AAV m1,m2])).g r e
   . rw[AAj.1 x,rg0 (.inr (.inr rfl))]at e;cases e
  rw[V];have aV:u.out.length<1000000000000:=by rw[R];simp;omega
  refine pLs u.out.length (λk (t:Av)=>t.Bg=u.out/\(2≤t.CY/\t.CY≤32)/\∀y∈u.out.take k,∀r∈rg y,r<t.CY) (F:=λn t k=>As.Cf _ _ _ _ _ n t k) (λ_ _=>rfl) aV ⟨rfl,by simp,by simp⟩ λm q t hq2 X k2=> ?_;obtain⟨t1,t2,t3⟩:=X;unfold As.Cf As.L2 As.J2 As.J3;refine pD (λhlt2=>pE (Cw (by omega)) ?_) λhge2=>pC λ_=>k (_,_) (by omega) ⟨G,by simp;omega,v2',?_⟩
  . have x:u.out[q]∈u.out:=AAl (by omega);have ry:=rb _ x;have K:q<u.out.length:=(by omega);have tk:=AAm K;generalize u.out[q]=y at x ry tk;refine pE (GZ y).1 (pLs (rg y).length (λl (t:Av)=>t.Bg=u.out/\(2≤t.CY/\t.CY≤32)/\(∀y∈u.out.take q,∀r∈rg y,r<t.CY)/\∀r∈(rg y).take l,r<t.CY) (F:=λn t k=>As.Hz _ _ _ n t k) (λ_ _=>rfl) (by have:=(GZ y).2;omega) ⟨t1,t2,t3,by simp⟩ λm3 M D hq3 Z k3=> ?_);obtain⟨x1,x2,x3,x4⟩:=Z;unfold As.Hz As.L3 As.J1;refine pD (λhlt3=>pE (Cw (by omega)) ?_) λhge3=>k2 _ K ⟨x1,x2,λz C r e=> ?_⟩
    . have e:(rg y)[M]'(by omega)∈rg y:=AAl (by omega);have U:=ry _ e;have N:=AAm (show M<(rg y).length by omega);generalize (rg y)[M]'(by omega)=r at e U N;rw[CX (by omega) (by omega)];have J:∀z,(if r+1>D.CY then r+1 else D.CY)=z->D.CY≤z/\r<z/\z≤32:=by intro z C;split at C<;>omega
      generalize C:(if r+1>D.CY then r+1 else D.CY)=z
      obtain⟨z1,z2,z3⟩:=J z C;refine k3 _ (by omega) ⟨x1,by simp only;omega,λy x r e=>by have:=x3 y x r e;simp only;omega,?_⟩;rw[← N];intro a I;rcases AAh.1 I with I|I
      . have:=x4 a I;simp only;omega
      . rw[AAj.1 I];exact z2
    . rw[← tk]at C;rcases AAh.1 C with C|C
      . exact x3 z C r e
      . rw[AAj.1 C]at e;rw[AA9 (by omega)]at x4;exact x4 r e
  . intro j D E;simp only at E;by_cases hj:j<s.1.AA.length
    . rw[AAr hj]at E;exact s4 j D E
    . have:=(AAS.1 E).1;simp at this;obtain rfl:j=s.1.AA.length:=(by omega);rw[show(s.1.AA++[t])[s.1.AA.length]? =some t from by simp]at E;obtain rfl:=AAU E;rw[s2];rw[AA9 (by omega)]at t3;refine⟨t2,⟨v.out,_,_,by rw[t1,R],sg,λk k1 k2=> ?_⟩,by rw[t1];exact t3⟩;obtain⟨k,rfl⟩:∃m:Nat,k=m:=⟨k.toNat,by omega⟩;rw[JN];exact B.o i k H (by omega) (by omega)
 obtain⟨r,e,P⟩:=fH h;refine⟨r,e,P,?_⟩;obtain⟨q1,q2,M⟩:=par r e;have hl:r.1.AA.length=r.1.World.AA.length:=by rw[q2,q1.names,AA0]
 have hn:=P.n;have key:Bx (Bq r.1) λb=>b=true:=by unfold Bq;refine tE (Lq _) ?_;rw[wF h S q1];refine tI (λh=>by cases h) λ_=> ?_;rw[hl,show((r.1.World.AA.length:Int) != r.1.World.AA.length)=false from by simp];unfold Bq.J1;refine tI (λh=>by cases h) λ_=>Pr r.1.AA.length (λ_ (_:Unit)=>True) (s0:=()) (F:=λn _ i=>Bq.AZ r.1 n i) (by omega) trivial λn i _ hi _ k=> ?_;unfold Bq.AZ Bq.L1 Bq.J2;refine tD (λH=>aO (by omega) ?_) λ_=>tR rfl;refine tE (UZ (P.i _ (AAl (by omega))) (M i _ (AAV (by omega)))) (tI (λh=>by cases h) λ_=>k () (by omega) trivial)
 obtain⟨b,U,rfl⟩:=key;exact U
end
theorem Code_ok {l:List Int} (d:l.length≤4000000000000000000) (e:∀x∈l,0≤x/\x<256):Bx (NL l) λc=>CK c/\Bq c=some true:=by unfold NL;exact tB (eE d e) λp a=>tB (l9 a.1 a.2) λc b=>tR b
theorem xW {p s:List Int} (g:p.length≤4000000000000000000) (j:∀x∈p,0≤x/\x<256) (i:s.length≤1000):Bx (Ll p s) λt=>TA s.length t/\Cz t.World=true:=by unfold Ll;refine tB (Code_ok g j) λc b=>tB (dW i) λl o=>tB (tP (Run_ok b.1 (by omega)) (Q:=λr=>Cz r.1.World=true) ?_) λr a=>tR ⟨⟨⟨by have:=a.1.m.n;omega,a.1.m.e,a.1.m.w⟩,a.1.c⟩,a.2⟩;obtain⟨v,d,f⟩:=P2 b.1;rw[b.2]at d;have k:=f (AAU d).symm;unfold LW;exact pE b.2 (pI (λh=>by cases h) λ_=>pB' λ_=>pB' λ_=>pR k.w)
theorem xJ {n:Nat} {t:Ac} (a:TA n t) (hn:n≤400) (b:Cz t.World=true):M9 t=(0,0):=by have:=a.m.n;unfold M9;rw[AAZ (by omega),AAa b,a.c]
theorem sceneW_m:EX.Ah.all (λc=>Du c.Mutex EX.AF.length)=true:=by decide +kernel
structure SL (s:AD):Prop where
 l:s.Sync.AF.length=3
 d:s.Sync.B6.length=1
 t:s.Sync.AA.length=4
 c:s.Cells.length=5
 u:s.AK.length=1
 n:s.Count.length=4
 r:RB 1 s.Sync
theorem SL.sc {s:AD} (h:SL s):SC 1 s:=by refine⟨?_,h.r⟩;simp only[JV,GY,AAR,AAg,YE,Tm,Tl,h.d,h.t,h.c,h.u,h.n,and_self,and_true];exact⟨sceneW_m,by rw[h.l,YF]⟩
def Q5 (l:List Int):Prop:=∀x∈l,0≤x/\x<256
theorem tape_of {l:List Int} (a:l.length≤4000000000000000000) (h:Q5 l):FH ⟨l,0⟩:=⟨a,⟨Int.le_refl _,by simp⟩,h⟩
structure WG (w:BQ):Prop where
 v:validW w=true
 e:∀e∈w.AH,JF e
 r:RB 1000 w.Init.Sync
theorem Vo {p:List Int} (w:Q5 p) (a:Int):Bx (C8 p a) λt=>AT t/\t.AH.length≤100:=by
 have H:=Bj;have j1:∀i:List Int,i.length≤600->Q5 i->Bx (C8.J1 a i) λt=>AT t/\t.AH.length≤100:=by
  intro i hi hi';unfold C8.J1;rw[aI,AAP,Oo EX jE,AAP];refine tB (Hw (tape_of (by omega) hi') (by omega)) ?_;rintro b ⟨I,bA,_⟩;have B:SC 0 (FQ EX):=by refine⟨?_,RB.start EX⟩;have k:SL (FQ EX):=(by refine⟨?_,?_,?_,?_,?_,?_,RB.mono (RB.start EX) (by omega)⟩<;>simp[FQ,JE,YF,YE,Tm,Tl]);exact k.sc.f
  have F:∀(d:List AE),d.length≤9->(∀e∈d,JF e)->Bx (C8.J2 a EX (FQ EX) b d) λt=>AT t/\t.AH.length≤100:=by
   intro d hd s;have key:∀(n i:Nat) (E:List AE) (o:AD),d.length<n+i->i≤d.length->E.length≤i->(∀e∈E,JF e)->SC i o->
    Bx (C8.Cf d a b n ⟨EX,E⟩ o i) λt=>AT t/\t.AH.length≤100:=by
    intro n;induction n with
    |zero=>intro i E o k q;omega
    |succ n ih=>
     intro i E o k q z m g;unfold C8.Cf C8.L2;refine tI (λh=> ?_) λ_=> ?_
     . have h:=AAc h;refine tG (by omega) λv y=>tB (g.step (by omega) (s v y)) λu C=> ?_;unfold C8.J3;rw[Ao (by omega)];refine tI (λh=>tC (BM (by simp only;omega)) (ih (i+1) _ _ (by omega) (by omega) (by simp;omega) ?_ (C h))) λ_=>ih (i+1) E o (by omega) (by omega) (by omega) m (g.mono (by omega));intro e c;rcases AAh.1 c with c|c
       . exact m e c
       . rw[AAj.1 c];exact s v y
     . unfold C8.J4;refine tB (play_tot bA.1 (g.mono (by omega)) (by split<;>split<;>omega) false) ?_;rintro t ⟨J,G⟩;refine tC (BM (by simp only;omega)) ?_;have r:∀e∈E++t.1,JF e:=λe c=>(AAh.1 c).elim (m e) (G e);rw[jT ⟨EX,E++t.1⟩ r,AAP];refine tI (λ_=> ?_) λh=>tR ⟨AT.of r (by simpa using h),by simp;omega⟩;rw[aI,AAP];exact tR ⟨AT.of (t:=⟨EX,[]⟩) (by simp) (by decide +kernel),by simp⟩
   exact key BU 0 [] _ (by omega) (by omega) (by simp) (by simp) B
  have key:∀(n j:Nat) (l:List AE),4<n+j->1≤j->j≤4->l.length+1≤2*j->(∀e∈l,JF e)->Bx (C8.AZ a EX (FQ EX) b n l j) λt=>AT t/\t.AH.length≤100:=by
   intro n;induction n with
   |zero=>intro j l k q;omega
   |succ n ih=>
    intro j l k q z m g;unfold C8.AZ C8.L1;rw[CX (n:=1+b.1) (by omega) (by omega)];refine tI (λh=> ?_) λ_=>F l (by omega) g;have h:=AAc h;rw[Ao (by omega)];refine tC (BM (by omega)) (ih (j+1) _ (by omega) (by omega) (by omega) (by simp;omega) ?_);intro e c;rcases AAh.1 c with c|c
    . exact g e c
    . simp only[AAp,ABG,ABD]at c;rcases c with rfl|rfl<;>exact⟨by simp,by simp⟩
  exact key BU 1 _ (by omega) (by omega) (by omega) (by simp) (by intro e c;rw[AAj.1 c];exact⟨by simp,by simp⟩)
 unfold C8;refine tI (λh=> ?_) λh=>j1 _ (by have:=of_decide_eq_false h;omega) w;have h:=AAc h;exact tC (by omega) (j1 _ (by simp;omega) λx D=>w x (ABp D))
structure xE (r:KH):Prop where
 p:Q5 r.Program
 s:Q5 r.Dy
 c:Q5 r.WY
theorem madeAT {n:Nat} {t:Ac} (h:TA n t) (hn:n≤400) (b:Cz t.World=true):AT t:=AT.of (λe a=>(h.m.e e a).ok) (by rw[xJ h hn b])
theorem Ym {r:KH} (d:xE r) {m:Int} (h:0≤m) (j:m≤200) (f:r.Program.length≤4000000000000000000):Bx (D8 r m) λt=>AT t/\t.AH.length≤200:=by
 unfold D8;refine tI (λ_=>tB (Vo d.c m) λt g=>tR ⟨g.1,by omega⟩) λ_=> ?_;have b:0≤(if m<(r.Dy.length:Int)then m else(r.Dy.length:Int))/\((if m<(r.Dy.length:Int)then m else(r.Dy.length:Int)).toNat)≤r.Dy.length/\((if m<(r.Dy.length:Int)then m else(r.Dy.length:Int)).toNat)≤200:=by split<;>omega
 refine tC ⟨b.1,b.2.1⟩ (tB (xW f d.p (by rw[List.length_take];omega)) ?_);rintro t ⟨a,e⟩;have i:(r.Dy.take ((if m<(r.Dy.length:Int)then m else(r.Dy.length:Int)).toNat)).length≤200:=by rw[List.length_take];omega
 exact tR ⟨madeAT a (by omega) e,by have:=a.m.n;omega⟩
def dV (wv:AB):AD->List AE->Prop
 |_,[]=>True
 |s,e::r=>Iv wv s e=true/\dV wv (Ex wv s e) r
theorem dV.step {wv:AB} (d:Small wv) {s:AD} {N:Nat} (c:RB N s.Sync) (a:N≤1000000) {e:AE} (b:JF e) (f:Iv wv s e=true):BW wv s e=some (Ex wv s e,true)/\BZ wv s e=some (Ex wv s e,true):=by rw[jR wv d s (c.mono a) e b,VY wv d s (c.mono a) e b];unfold QK;rw[AAa f];exact⟨rfl,rfl⟩
theorem dV.of {wv:AB}:∀{l:List AE} {s:AD},(∀(i:Nat) (hi:i<l.length),Iv wv ((l.take i).foldl (Ex wv) s) l[i]=true)->dV wv s l:=by
 intro l;induction l with
 |nil=>intro s _;trivial
 |cons e r ih=>intro s h;exact⟨h 0 (by simp),ih λi hi=>h (i+1) (by simpa using hi)⟩
theorem AT.possL {t:Ac} (h:AT t):dV t.World (FQ t.World) t.AH:=dV.of λ_ hi=>h.poss hi
def Uq (wv:AB) (t kk o k:Int) (x:AY):AY:=
 if(kk=6∨kk=10)/\k=o∨kk=17/\k=(ix wv.Ah o).Mutex then⟨t,x.Ax⟩
 else if(kk=7∨kk=11)/\k=o∨kk=16/\k=(ix wv.Ah o).Mutex then⟨-1,x.Ax⟩
 else if kk=8/\k=o then⟨x.Bz,Lz (x.Ax++[t])⟩
 else if kk=9/\k=o then⟨x.Bz,x.Ax.filter λy=> !(y==t)⟩
 else x
theorem setT_L (s:AN) (t:Int) (g:AG->AG):(Kd s t g).AF=s.AF:=rfl
theorem dB {s:AN} {i k:Int} (hi:Du i s.AF.length=true) (a:Du k s.AF.length=true) (f:AY->AY):ix (Kc s i f).AF k=if k=i then f (ix s.AF i)else ix s.AF k:=Lh hi a
theorem eP {wv:AB} {s:AN} {t o wake:Int} {k:Int} (b:Du k s.AF.length=true):∀a,(a=6∨a=7∨a=8∨a=9∨a=10∨a=11->Du o s.AF.length=true)->(a=16∨a=17->Du (ix wv.Ah o).Mutex s.AF.length=true)->
 ix (DN wv s t a o wake).1.AF k=Uq wv t a o k (ix s.AF k):=by
 refine kinds ?_ ?_ ?_ ?_ ?_ ?_ ?_ ?_ ?_ ?_ ?_ ?_ ?_ ?_ ?_ ?_ ?_ ?_ ?_ ?_ ?_ ?_ ?_ (λa g i j l m n p q r w x u y z B e C D E d F f G=> ?_)
 all_goals
  intro v c;unfold DN Uq
 all_goals first
  | (simp(decide:=true)only[AAq,AAd,ABn,ABo,ABD,false_or,true_and,false_and,Kd];done)
  | (simp(decide:=true)only[AAq,AAd,ABn,ABo,ABD,false_or,true_and,false_and];rw[dB (v (by omega)) b];split<;>simp[*];done)
  | (simp(decide:=true)only[AAq,AAd,ABn,ABo,ABD,false_or,true_and,false_and];refine(dB (c (by omega)) b _).trans ?_;split<;>rename_i h<;>simp only[h,AAq,AAd];done)
  | (simp(decide:=true)only[AAq,AAd,ABn,ABo,ABD,false_or,true_and,false_and];split<;>rfl)
  | (simp only[g,i,j,l,m,n,p,q,r,w,x,u,y,z,B,e,C,D,E,d,F,f,G,AAd,or_self,false_and];done)
  |skip
 all_goals
  simp(decide:=true)only[AAq,AAd,ABn,ABo,ABD,false_or,true_and,false_and];rw[setT_L,dB (c (by omega)) b];split
  . rename_i h;simp only[h,AAq,AAd]
  . rename_i h;simp only[h,AAq,AAd]
theorem Wi {wv:AB} {s:AN} {t b o wake:Int} (c:CL wv s t b o=true) {k:Int} (e:Du k wv.AF.length=true):ix (DN wv s t b o wake).1.AF k=Uq wv t b o k (ix s.AF k):=by
 unfold CL at c;simp only[AAR]at c;obtain⟨d,_,a,_⟩:=c;have f:=(EY d).1;have g:=λh=>G7 d (o:=o) h;rw[← f]at e g;refine eP e b (λh=> ?_) λh=>g ?_
 . rw[f];unfold B8 at a;rcases h with h|h|h|h|h|h<;>subst h<;>simp(decide:=true)only[AAq,AAd,ABn,ABo,ABD,AAR]at a<;>exact a.1
 . unfold B8 at a;rcases h with h|h<;>subst h<;>simpa(decide:=true)only[AAq,AAd,ABn,ABo,ABD]using a
def hpL (t:Int) (x:AY):Bool×Bool:=(x.Bz==t,x.Ax.contains t)
def ownF (wv:AB) (kk o k:Int) (p:Bool×Bool):Bool×Bool:=
 if(kk=6∨kk=10)/\k=o∨kk=17/\k=(ix wv.Ah o).Mutex then(true,p.2)
 else if(kk=7∨kk=11)/\k=o∨kk=16/\k=(ix wv.Ah o).Mutex then(false,p.2)
 else if kk=8/\k=o then(p.1,true)
 else if kk=9/\k=o then(p.1,false)
 else p
def XI (wv:AB) (s:AN):Prop:=∀k,Du k wv.AF.length=true->(ix s.AF k).Ax≠[]->(ix wv.AF k).RW=true/\(ix s.AF k).Bz= -1
def MQ (wv:AB):Prop:=∀o,Du o wv.Ah.length=true->(ix wv.AF (ix wv.Ah o).Mutex).RW=false
theorem own_eq {wv:AB} {t a o k:Int} (c:0≤t) (x:AY):hpL t (Uq wv t a o k x)=ownF wv a o k (hpL t x):=by
 have b:((-1:Int)==t)=false:=by simp;omega
 unfold Uq ownF hpL;split
 . simp
 . split
   . simp[b]
   . split
     . have:(Lz (x.Ax++[t])).contains t=true:=(by rw[AAn,KF];simp);simp only[this]
     . split
       . have:(x.Ax.filter λy=> !(y==t)).contains t=false:=(by rw[Bool.eq_false_iff,ne_eq,AAn,List.mem_filter];simp);simp only[this]
       . rfl
theorem Xl {wv:AB} {s:AN} {u c o:Int} (d:CL wv s u c o=true):
 (c=6->(ix s.AF o).Bz= -1/\(ix wv.AF o).RW=false)/\(c=10->(ix s.AF o).Bz= -1/\(ix s.AF o).Ax=[])/\(c=8->(ix s.AF o).Bz= -1/\(ix wv.AF o).RW=true)/\(c=7∨c=11->(ix s.AF o).Bz=u)/\
 (c=16->(ix s.AF (ix wv.Ah o).Mutex).Bz=u/\Du o wv.Ah.length=true)/\(c=17->(ix s.AF (ix wv.Ah o).Mutex).Bz= -1/\Du o wv.Ah.length=true):=by
 unfold CL at d;simp only[AAR]at d;obtain⟨_,_,b,a⟩:=d;unfold B8 at b;unfold Ka at a;refine⟨λh=> ?_,λh=> ?_,λh=> ?_,λh=> ?_,λh=> ?_,λh=> ?_⟩
 . subst h;simp(decide:=true)only[AAq,AAd,ABn,ABo,ABD,AAR,AAg,ABA]at b a;exact⟨a.2,b.2⟩
 . subst h;simp(decide:=true)only[AAq,AAd,ABn,ABo,ABD,AAR,AAg,ABA]at b a;exact⟨a.2.1,ABc (by omega)⟩
 . subst h;simp(decide:=true)only[AAq,AAd,ABn,ABo,ABD,AAR,AAg,ABA]at b a;exact⟨a.2.1,b.2⟩
 . rcases h with h|h<;>subst h<;>simp(decide:=true)only[AAq,AAd,ABn,ABo,ABD,AAR,AAg,ABA]at b a<;>exact a.2
 . subst h;simp(decide:=true)only[AAq,AAd,ABn,ABo,ABD,AAR,AAg,ABA]at b a;exact⟨a.2,b⟩
 . subst h;simp(decide:=true)only[AAq,AAd,ABn,ABo,ABD,AAR,AAg,ABA]at b a;exact⟨a.2.2,b⟩
theorem other_eq {wv:AB} {s:AN} {u t g o k:Int} (i:CL wv s u g o=true) (m:0≤t) (hn:u≠t):hpL t (Uq wv u g o k (ix s.AF k))=hpL t (ix s.AF k):=by
 obtain⟨j,a,n,l,b,c⟩:=Xl i;have d:((-1:Int)==t)=false:=by simp;omega
 have f:(u==t)=false:=by simpa using hn
 unfold Uq hpL;split
 . rename_i h;have:(ix s.AF k).Bz= -1:=by
    rcases h with⟨h|h,rfl⟩|⟨h,rfl⟩
    . exact(j h).1
    . exact(a h).1
    . exact(c h).1
   simp only[this,d,f]
 . split
   . rename_i h;have:(ix s.AF k).Bz=u:=by
      rcases h with⟨h,rfl⟩|⟨h,rfl⟩
      . exact l h
      . exact(b h).1
     simp only[this,d,f]
   . split
     . have:(Lz ((ix s.AF k).Ax++[u])).contains t=(ix s.AF k).Ax.contains t:=(by rw[Bool.eq_iff_iff,AAn,AAn,KF];simp only[AAh,AAj];exact⟨λh=>h.resolve_right λe=>hn e.symm,.inl⟩);simp only[this]
     . split
       . have:((ix s.AF k).Ax.filter λy=> !(y==u)).contains t=(ix s.AF k).Ax.contains t:=(by rw[Bool.eq_iff_iff,AAn,AAn,List.mem_filter];exact⟨λh=>h.1,λh=>⟨h,by simpa usingλe=>hn e.symm⟩⟩);simp only[this]
       . rfl
theorem XI.apply {wv:AB} {s:AN} (m:MQ wv) (h:XI wv s) {u j o wake:Int} (g:CL wv s u j o=true):XI wv (DN wv s u j o wake).1:=by
 intro k i;obtain⟨p,d,l,q,n,f⟩:=Xl g;rw[Wi g i];have b:=h k i;unfold Uq;split
 . rename_i a;intro c;have b:=b c;rcases a with⟨a|a,rfl⟩|⟨a,rfl⟩
   . rw[(p a).2]at b;cases b.1
   . exact absurd (d a).2 c
   . rw[m _ (f a).2]at b;cases b.1
 . split
   . intro c;exact⟨(b c).1,rfl⟩
   . split
     . rename_i a;obtain⟨a,rfl⟩:=a;exactλ_=>⟨(l a).2,(l a).1⟩
     . split
       . intro c;refine b λe=>c ?_;simp only[e];rfl
       . exact b
def HF (wv:AB) (t k:Int) (l:List AE) (p:Bool×Bool):Bool×Bool:=l.foldl (λp e=>if e.Thread=t then ownF wv e.Kind e.Obj k p else p) p
theorem HF_snoc (wv:AB) (t k:Int) (l:List AE) (e:AE) (p:Bool×Bool):HF wv t k (l++[e]) p=if e.Thread=t then ownF wv e.Kind e.Obj k (HF wv t k l p)else HF wv t k l p:=by unfold HF;rw[List.foldl_append];rfl
theorem HF_skip (wv:AB) (t k:Int) {l r:List AE} (h:∀e∈r,e.Thread≠t) (p:Bool×Bool):HF wv t k (l++r) p=HF wv t k l p:=by
 unfold HF;rw[List.foldl_append];generalize l.foldl _ p=q;revert q;induction r with
 |nil=>intro q;rfl
 |cons e r ih=>intro q;rw[List.foldl_cons,AAZ (h e (by simp))];exact ih (λx a=>h x (by simp[a])) q
instance:Inhabited SB:=⟨⟨0,false⟩⟩
structure WQ (w:BQ):Prop where
 g:WG w
 f:WinF w
theorem WG.q {w:BQ} (h:WG w):WQ w:=by refine⟨h,?_⟩;have a:=h.v;unfold validW at a;simp only[AAR,AAk]at a;exact⟨a.1,a.2.1,a.2.2.1⟩
structure GIw (w:BQ) (K:Nat) (c:oS):Prop where
 f:GY w.World c.Sync=true
 r:RB (1000+K) c.Sync
 l:c.Cells.length=w.World.Cells.length
 u:c.AK.length=w.World.AK.length
 x:c.Fixed.length=w.AH.length
 k:c.Woke.length=w.AH.length
 o:c.Order.length≤K
 p:∀(i j:Nat) (hi:i<j) (hj:j<w.AH.length),w.AH[i].Thread=w.AH[j].Thread->(j:Int)∈c.Order->(i:Int)∈c.Order
 h:∀t k,0≤t->Du k w.World.AF.length=true->∀m,m≤w.AH.length->(∀(i:Nat) (hi:i<w.AH.length),w.AH[i].Thread=t->((i:Int)∈c.Order↔i<m))->hpL t (ix c.Sync.AF k)=HF w.World t k (w.AH.take m) (hpL t (ix w.Init.Sync.AF k))
 X:XI w.World c.Sync
theorem GIw.step {w:BQ} (hw:WQ w) {K:Nat} {c:oS} (d:GIw w K c) {i:Nat} (hi:i<w.AH.length) (G:(i:Int)∉c.Order) (M:∀(j:Nat) (z:j<i),w.AH[j].Thread=w.AH[i].Thread->(j:Int)∈c.Order) (H:CL w.World c.Sync w.AH[i].Thread w.AH[i].Kind w.AH[i].Obj=true) (wake:Int)
 {C F:List SB} {X:List Bool} {W:List Int} (R:C.length=c.Cells.length) (S:F.length=c.AK.length) (U:X.length=c.Fixed.length) (T:W.length=c.Woke.length):
 GIw w (K+1) ⟨(DN w.World c.Sync w.AH[i].Thread w.AH[i].Kind w.AH[i].Obj wake).1,C,F,c.Order++[(i:Int)],X,W⟩:=by
 have hq:=RA hw.f.v;refine⟨W0 d.f _ _ _ _,d.r.apply _ _ _ _ _,R.trans d.l,S.trans d.u,U.trans d.x,T.trans d.k,by have:=d.o;simp;omega,?_,?_,d.X.apply hq H⟩
 . intro a b N V y n;rcases AAh.1 n with n|n
   . exact List.mem_append_left _ (d.p a b N V y n)
   . have n:=AAj.1 n;obtain rfl:b=i:=(by omega);exact List.mem_append_left _ (M a N y)
 . intro t k y J m n D;dsimp only at D ⊢;rw[Wi H J];by_cases q:w.AH[i].Thread=t
   . have Z:i<m:=(D i hi q).1 (by simp);have P:w.AH.take m=w.AH.take (i+1)++(w.AH.take m).drop (i+1):=(by have:=ABj (i+1) (w.AH.take m);rw[List.take_take,Nat.min_eq_left (by omega)]at this;exact this.symm);have Q:∀e∈(w.AH.take m).drop (i+1),e.Thread≠t:=by
      intro e I s;obtain⟨j,z,rfl⟩:=List.getElem_of_mem I;simp only[List.length_drop,List.length_take]at z;rw[List.getElem_drop,List.getElem_take]at s;have B:i+1+j<w.AH.length:=by omega
      have:=(D (i+1+j) B s).2 (by omega);rcases AAh.1 this with E|E
      . exact G (d.p i (i+1+j) (by omega) B (q.trans s.symm) E)
      . have:=AAj.1 E;omega
     rw[P,HF_skip _ _ _ Q,← AAm hi,HF_snoc,AAa q,q,own_eq y];congr 1;refine d.h t k y J i (by omega) λj z g=>⟨λL=> ?_,λO=>M j O (g.trans q.symm)⟩;refine Decidable.byContradiction λhn=> ?_;by_cases e:j=i
     . subst e;exact G L
     . exact G (d.p i j (by omega) z (q.trans g.symm) L)
   . rw[other_eq H y q];refine d.h t k y J m n λj z g=> ?_;rw[← D j z g,AAh];refine⟨.inl,λh=>h.resolve_right λh=> ?_⟩
     have:=AAj.1 h;obtain rfl:j=i:=(by omega);exact q g
def exL (t:Int):Nat->List AY->List Int
 |_,[]=>[]
 |i,x::r=>if x.Bz==t then(i:Int)::exL t (i+1) r else exL t (i+1) r
def shL (t:Int):Nat->List AY->List Int
 |_,[]=>[]
 |i,x::r=>if x.Ax.contains t then(i:Int)::shL t (i+1) r else shL t (i+1) r
def Tz (wv:AB) (s:AN) (t:Int):Be:=if GY wv s=true/\Du t wv.AA.length=true then⟨exL t 0 s.AF,shL t 0 s.AF⟩else⟨[],[]⟩
theorem exL_len (t:Int) (l:List AY):∀i,(exL t i l).length≤l.length:=by
 induction l with
 |nil=>intro i;simp[exL]
 |cons x r ih=>intro i;have:=ih (i+1);unfold exL;split<;>simp<;>omega
theorem shL_len (t:Int) (l:List AY):∀i,(shL t i l).length≤l.length:=by
 induction l with
 |nil=>intro i;simp[shL]
 |cons x r ih=>intro i;have:=ih (i+1);unfold shL;split<;>simp<;>omega
theorem holds_len {wv:AB} (a:Small wv) (s:AN) (t:Int):(Tz wv s t).E9.length≤4/\(Tz wv s t).JK.length≤4:=by
 unfold Tz;split
 . rename_i h;have b:=(EY h.1).1;have:=a.l;have c:=exL_len t s.AF 0;have d:=shL_len t s.AF 0;exact⟨by simp only;omega,by simp only;omega⟩
 . exact⟨by simp,by simp⟩
theorem Xf (s:AN) (t:Int) (e:s.AF.length≤100) (d:RB 1000000000 s):∀(n i:Nat) (a b:List Int),i≤s.AF.length->s.AF.length<n+i->a.length≤i->b.length≤i->Dc.AZ s t n a b i=some (a++exL t i (s.AF.drop i),b++shL t i (s.AF.drop i))
 |0,i,a,b,h1,h2,_,_=>by omega
 |n+1,i,a,b,h1,h2,h3,h4=>by
  rw[Dc.AZ];unfold Dc.L1;by_cases hi:i<s.AF.length
  . rw[BG (by omega),Cw hi,AAP,Eu hi];have h:=WO (s.AF[i].Ax) t (d _ (AAl hi));have f:∀c,c.length≤i+1->Dc.J2 (Dc.AZ s t n) b i t s.AF[i] c=some (c++exL t (i+1) (s.AF.drop (i+1)),b++shL t i (s.AF[i]::s.AF.drop (i+1))):=by
     intro c g;unfold Dc.J2 Dc.J3;rw[h,AAP,Ao (by omega),shL];split
     . rw[BO (by omega),Xf s t e d n (i+1) c _ (by omega) (by omega) (by omega) (by simp;omega)];simp
     . rw[Xf s t e d n (i+1) c b (by omega) (by omega) (by omega) (by omega)]
    rw[exL];split
    . rw[BO (by omega),f _ (by simp;omega)];simp
    . rw[f _ (by omega)]
  . rw[Ad (by omega),GQ (by omega)];simp[Dc.J4,exL,shL]
theorem jY (wv:AB) (a:Small wv) (s:AN) (b:RB 1000000000 s) (t:Int):Dc wv s t=some ((Tz wv s t).E9,(Tz wv s t).JK):=by
 have d:=Bj;unfold Dc Tz;rw[My wv a,AAP,JD,AAP];cases hf:GY wv s with
 |false=>simp[Dc.J1]
 |true=>
  cases ht:Du t wv.AA.length with
  |false=>simp[Dc.J1]
  |true=>have c:=(EY hf).1;have:=a.l;simp only[Bool.not_true,AAY,AAd,Dc.J1];exact Xf s t (by omega) b BU 0 [] [] (by omega) (by omega) (by simp) (by simp)
theorem rholds_loop (s:AN) (t:Int) (e:s.AF.length≤100) (d:RB 1000000000 s):∀(n i:Nat) (a b:List Int),i≤s.AF.length->s.AF.length<n+i->a.length≤i->b.length≤i->GX.AZ s t n a b i=some (a++exL t i (s.AF.drop i),b++shL t i (s.AF.drop i))
 |0,i,a,b,h1,h2,_,_=>by omega
 |n+1,i,a,b,h1,h2,h3,h4=>by
  rw[GX.AZ];unfold GX.L1;by_cases hi:i<s.AF.length
  . rw[BG (by omega),Cw hi,AAP,Eu hi];have h:=jV (s.AF[i].Ax) t (d _ (AAl hi));have f:∀c,c.length≤i+1->GX.J2 (GX.AZ s t n) b i s t c=some (c++exL t (i+1) (s.AF.drop (i+1)),b++shL t i (s.AF[i]::s.AF.drop (i+1))):=by
     intro c g;unfold GX.J2 GX.J3;rw[Cw hi,AAP,h,AAP,Ao (by omega),shL];split
     . rw[BO (by omega),rholds_loop s t e d n (i+1) c _ (by omega) (by omega) (by omega) (by simp;omega)];simp
     . rw[rholds_loop s t e d n (i+1) c b (by omega) (by omega) (by omega) (by omega)]
    rw[exL];split
    . rw[BO (by omega),f _ (by simp;omega)];simp
    . rw[f _ (by omega)]
  . rw[Ad (by omega),GQ (by omega)];simp[GX.J4,exL,shL]
theorem ref08_Holds_eq (wv:AB) (a:Small wv) (s:AN) (b:RB 1000000000 s) (t:Int):GX wv s t=some ((Tz wv s t).E9,(Tz wv s t).JK):=by
 have d:=Bj;unfold GX Tz;rw[Ly wv a,AAP,aG,AAP];cases hf:GY wv s with
 |false=>simp[GX.J1]
 |true=>
  cases ht:Du t wv.AA.length with
  |false=>simp[GX.J1]
  |true=>have c:=(EY hf).1;have:=a.l;simp only[Bool.not_true,AAY,AAd,GX.J1];exact rholds_loop s t (by omega) b BU 0 [] [] (by omega) (by omega) (by simp) (by simp)
def K9 (wv:AB):AD->List AE->List Be
 |_,[]=>[]
 |s,e::r=>Tz wv s.Sync e.Thread::K9 wv (Ex wv s e) r
theorem ZQ (wv:AB) (l:List AE):∀s,(K9 wv s l).length=l.length:=by
 induction l with
 |nil=>intro s;rfl
 |cons e r ih=>intro s;simp[K9,ih]
theorem helds_drop (wv:AB) (l:List AE):∀s (k:Nat),K9 wv ((l.take k).foldl (Ex wv) s) (l.drop k)=(K9 wv s l).drop k:=by
 induction l with
 |nil=>intro s k;simp[K9]
 |cons e r ih=>
  intro s k;cases k with
  |zero=>rfl
  |succ k=>simp[K9,ih]
theorem wJ {wv:AB} (b:Small wv) (l:List AE):∀s,∀h∈K9 wv s l,h.E9.length≤4/\h.JK.length≤4:=by
 induction l with
 |nil=>intro s h a;cases a
 |cons e r ih=>
  intro s h a;unfold K9 at a;rcases AAp.1 a with rfl|a
  . exact holds_len b _ _
  . exact ih _ h a
theorem kI {c:Type} (a:List c) (x y:c) (b:List c):(a++x::b).set a.length y=a++y::b:=by simp
theorem gt_mid {c:Type} (a:List c) (x:c) (b:List c):gt (a++x::b) (a.length:Int)=some x:=by rw[JN];simp
theorem fN (l:List AE) (wv:AB) (c:Small wv) (d:∀e∈l,JF e) (g:l.length≤1000):∀(n:Nat) (s:AD) (a:List Be),a.length≤l.length->l.length<n+a.length->RB (a.length+1000) s.Sync->dV wv s (l.drop a.length)->
 EV.AZ l wv n s (a++List.replicate (l.length-a.length) ⟨[],[]⟩) a.length=some (a++K9 wv s (l.drop a.length))
 |0,s,a,h1,h2,_,_=>by omega
 |n+1,s,a,h1,h2,h4,b=>by
  rw[EV.AZ];unfold EV.L1;by_cases hi:a.length<l.length
  . rw[Eu hi]at b ⊢;obtain⟨h,b⟩:=b;have f:l.length-a.length=(l.length-(a.length+1))+1:=(by omega);rw[BG (by omega),Cw hi,AAP,jY wv c _ (h4.mono (by omega)),AAP,f,List.replicate_succ,gt_mid,AAP,ABO,kI,gt_mid,AAP,(dV.step c h4 (by omega) (d _ (AAl _)) h).1,AAP,kI,Ao (by omega)]
    have:=fN l wv c d g n (Ex wv s l[a.length]) (a++[Tz wv s.Sync l[a.length].Thread]) (by simp only[AAz,List.length_singleton];omega) (by simp only[AAz,List.length_singleton];omega) ((h4.apply _ _ _ _ _).mono (by simp only[AAz,List.length_singleton];omega)) (by simpa using b);simpa[K9]using this
  . rw[Ad (by omega),GQ (by omega)];have:l.length-a.length=0:=(by omega);simp[EV.J1,K9,this]
theorem follow_eq {l:List AE} {wv:AB} (f:Small wv) (a:∀e∈l,JF e) (b:l.length≤1000) {s:AD} (d:RB 1000 s.Sync) (c:dV wv s l):EV wv s l=some (K9 wv s l):=by
 have g:=Bj;unfold EV;rw[AAa ⟨by omega,by omega,BM (by omega)⟩]
 have:=fN l wv f a b BU s [] (by simp) (by simp;omega) (by simpa using d) (by simpa using c);simpa using this
def q7 (wv:AB):AD->List AE->List AN
 |s,[]=>[s.Sync]
 |s,e::r=>s.Sync::q7 wv (Ex wv s e) r
theorem poss_apply {wv:AB} (g:Small wv) {s:AD} {N:Nat} (f:RB N s.Sync) (b:N≤1000000) {e:AE} (a:Iv wv s e=true) (o:Int) (d:o=if e.Kind=18 then e.Value else -1):∃x,DD wv s.Sync e.Thread e.Kind e.Obj o=some ((Ex wv s e).Sync,x):=by
 have c:CL wv s.Sync e.Thread e.Kind e.Obj=true:=by unfold Iv at a;simp only[AAR]at a;exact a.2.2.1
 rw[Nw wv g s.Sync (f.mono b)];unfold NV;rw[AAa c];subst d;exact⟨_,rfl⟩
theorem states_loop (l:List AE) (wv:AB) (d:Small wv) (e:l.length≤1000):∀(n i:Nat) (s:AD) (a:List AN),i≤l.length->l.length<n+i->a.length≤i->RB (i+1000) s.Sync->dV wv s (l.drop i)->
 Gq.AZ l wv n s.Sync (a++[s.Sync]) i=some (a++q7 wv s (l.drop i))
 |0,i,s,a,h1,h2,_,_,_=>by omega
 |n+1,i,s,a,h1,h2,h3,h4,b=>by
  rw[Gq.AZ];unfold Gq.L1;by_cases hi:i<l.length
  . rw[Eu hi]at b ⊢;obtain⟨g,b⟩:=b;rw[BG (by omega),Cw hi,AAP];have j1:∀o,o=(if l[i].Kind=18 then l[i].Value else -1)->Gq.J1 (Gq.AZ l wv n) (a++[s.Sync]) s.Sync i wv l[i] o=some (a++q7 wv s (l[i]::l.drop (i+1))):=by
     intro o f;unfold Gq.J1;obtain⟨x,h⟩:=poss_apply d h4 (by omega) g o f;rw[h,AAP,BO (by simp;omega),Ao (by omega)]
     have:=states_loop l wv d e n (i+1) (Ex wv s l[i]) (a++[s.Sync]) (by omega) (by omega) (by simp;omega) ((h4.apply _ _ _ _ _).mono (by omega)) b;simpa[q7]using this
    split
    . rename_i c;exact j1 _ (by rw[AAa (by simpa using c)])
    . rename_i c;exact j1 _ (by rw[AAZ (by simpa using c)])
  . rw[Ad (by omega),GQ (by omega)];rfl
theorem states_eq {l:List AE} {wv:AB} (d:Small wv) (a:l.length≤1000) {s:AD} (c:RB 1000 s.Sync) (b:dV wv s l):Gq wv s.Sync l=some (q7 wv s l):=by
 have e:=Bj;unfold Gq
 have:=states_loop l wv d a BU 0 s [] (by omega) (by omega) (by simp) (by simpa using c) (by simpa using b);simpa using this
theorem states_get (wv:AB) (l:List AE):∀s (i:Nat),i≤l.length->(q7 wv s l)[i]? =some ((l.take i).foldl (Ex wv) s).Sync:=by
  induction l with
  |nil=>
   intro s i hi;have:i=0:=by simpa using hi
   subst this;rfl
  |cons e r ih=>
    intro s i hi;cases i with
    |zero=>rfl
    |succ i=>simpa[q7]using ih (Ex wv s e) i (by simpa using hi)
theorem fold_rb {wv:AB} (l:List AE):∀{s:AD} {N:Nat},RB N s.Sync->RB (N+l.length) (l.foldl (Ex wv) s).Sync:=by
 induction l with
 |nil=>exactλh=>h
 |cons e r ih=>
  intro s N h
  have:=ih (s:=Ex wv s e) (h.apply wv _ _ _ _);simpa[Nat.add_assoc,Nat.add_comm 1]using this
theorem rheld_loop (l:List AE) (wv:AB) (d:Small wv) (f:l.length≤1000) (s:AD) (c:RB 1000 s.Sync):∀(n i:Nat) (a:List Be),i≤l.length->l.length<n+i->a.length≤i->
 HZ.AZ l (q7 wv s l) wv n a i=some (a++(K9 wv s l).drop i)
 |0,i,a,h1,h2,_=>by omega
 |n+1,i,a,h1,h2,h3=>by
  rw[HZ.AZ];unfold HZ.L1;by_cases hi:i<l.length
  . have g:=states_get wv l s i (by omega);have b:RB 1000000000 ((l.take i).foldl (Ex wv) s).Sync:=(fold_rb (wv:=wv) (l.take i) c).mono (by simp;omega);have e:(K9 wv s l).drop i=Tz wv ((l.take i).foldl (Ex wv) s).Sync l[i].Thread::(K9 wv s l).drop (i+1):=(by rw[← helds_drop,Eu hi,K9,← helds_drop];congr 2;rw[← AAm hi,List.foldl_append];rfl);rw[BG (by omega),Cw hi,AAP,JN,g,AAP,ref08_Holds_eq wv d _ b,AAP,BO (by omega),Ao (by omega),rheld_loop l wv d f s c n (i+1) _ (by omega) (by omega) (by simp;omega),e];simp
  . rw[Ad (by omega),List.drop_of_length_le (by rw[ZQ];omega)];simp[HZ.J1]
theorem rHeld_eq {l:List AE} {wv:AB} (c:Small wv) (a:l.length≤1000) {s:AD} (b:RB 1000 s.Sync) (d:dV wv s l):HZ wv s.Sync l=some (K9 wv s l):=by have e:=Bj;unfold HZ;rw[states_eq c a b d,AAP];simpa using rheld_loop l wv c a s b BU 0 [] (by omega) (by omega) (by simp)
theorem Equal_loop (l:List Int) (a:l.length≤1000000000):∀n i:Nat,i≤l.length->l.length<n+i->GD.AZ l l n (i:Int)=some true
 |0,i,h1,h2=>by omega
 |n+1,i,h1,h2=>by
  rw[GD.AZ];unfold GD.L1;by_cases hi:i<l.length
  . rw[BG (by omega),Cw hi,AAP,AAP,AAZ (by simp),Ao (by omega)];exact Equal_loop l a n (i+1) (by omega) (by omega)
  . rw[Ad (by omega)];rfl
theorem Equal_self (l:List Int) (a:l.length≤1000000000):GD l l=some true:=by unfold GD;rw[AAZ (by simp)];exact Equal_loop l a BU 0 (by omega) (by have:=Bj;omega)
theorem SameHeld_loop (l:List Be) (a:l.length≤1000000) (h:∀x∈l,x.E9.length≤4/\x.JK.length≤4):∀n i:Nat,i≤l.length->l.length<n+i->Gt.AZ l l n (i:Int)=some true
 |0,i,h1,h2=>by omega
 |n+1,i,h1,h2=>by
  rw[Gt.AZ];unfold Gt.L1;by_cases hi:i<l.length
  . have b:=h _ (AAl hi);rw[BG (by omega),Cw hi,AAP,AAP,Equal_self _ (by omega),AAP,AAZ (by simp),Equal_self _ (by omega),AAP];unfold Gt.J1;rw[AAZ (by simp),Ao (by omega)];exact SameHeld_loop l a h n (i+1) (by omega) (by omega)
  . rw[Ad (by omega)];rfl
theorem SameHeld_self (l:List Be) (a:l.length≤1000000) (h:∀x∈l,x.E9.length≤4/\x.JK.length≤4):Gt l l=some true:=by unfold Gt;rw[AAZ (by simp)];exact SameHeld_loop l a h BU 0 (by omega) (by have:=Bj;omega)
end Go.Abs
namespace Go.Abs
theorem awake28:GA=some true:=by decide +kernel
end Go.Abs
namespace Go.Abs
set_option maxHeartbeats 4000000
theorem Held_eq {t:Ac} (h:AT t):HO t=some (K9 t.World (FQ t.World) t.AH,0):=by unfold HO;rw[wM t λe a=>h.e e a,AAP,h.check,AAZ (by simp),LX _ (DJ h.w),AAP,follow_eq (DJ h.w) h.e (by have:=h.l;omega) (RB.mono (RB.start _) (by omega)) h.possL];rfl
theorem rHeldT_eq {t:Ac} (h:AT t):HZ t.World (JE t.World) t.AH=some (K9 t.World (FQ t.World) t.AH):=
 rHeld_eq (s:=FQ t.World) (DJ h.w) (by have:=h.l;omega) (RB.mono (RB.start _) (by omega)) h.possL
theorem LHeld_tot {r:KH} (d:xE r) (c:r.Program.length≤4000000000000000000):Bx (Gb r) λb=>b=true:=by
 unfold Gb Gb.J1;refine tB (Ym d (m:=60) (by omega) (by omega) c) ?_;rintro t ⟨a,_⟩;have e:=a.l;rw[Held_eq a,AAP];refine tI (λ_=> ?_) λh=>by simp at h
 rw[Ny _ (DJ a.w),AAP,rHeldT_eq a,AAP,SameHeld_self _ (by rw[ZQ];omega) (wJ (DJ a.w) _ _),AAP,awake28];exact tI (λ_=>tR rfl) λh=>by cases h
def Kg (w:Bool) (h:Be):List Int:=Lz (if w=true then h.E9 else h.E9++h.JK)
def I6 (a:Ae) (t:Int) (w:Bool) (h:Be):Ae×Bool:=
 if a.State=0∨a.State=1/\t=a.Bz then(⟨1,t,[]⟩,false)
 else(⟨if w=true then 3 else if a.State=1 then 2 else a.State,0,if a.State=1 then Kg w h else a.AF.filter (Kg w h).contains⟩,
  (if w=true then 3 else if a.State=1 then 2 else a.State)==3&&((if a.State=1 then Kg w h else a.AF.filter (Kg w h).contains).length:Int)==0)
structure EI (a:Ae):Prop where
 s:a.State=0∨a.State=1∨a.State=2∨a.State=3
 o:a.AF.Pairwise (· < ·)
 l:a.AF.length≤1000
def HL (h:Be):Prop:=h.E9.length≤100/\h.JK.length≤100
theorem jX {w:Bool} {h:Be} (a:HL h):(Kg w h).length≤200:=by
 have b:=a.1;have c:=a.2;unfold Kg;refine ABK (N5 _) ?_;split
 . omega
 . simp only[AAz];omega
theorem EI.step {a:Ae} (b:EI a) {t:Int} {w:Bool} {h:Be} (c:HL h):EI (I6 a t w h).1:=by
 have e:=jX (w:=w) c;have f:=b.s;unfold I6;split
 . exact⟨.inr (.inl rfl),.nil,by simp⟩
 . rename_i d;refine⟨?_,?_,?_⟩
   . simp only;split
     . omega
     . split<;>omega
   . simp only;split
     . exact KC _
     . exact b.o.filter _
   . simp only;split
     . omega
     . exact ABK (ABg _ _) b.l
instance:Inhabited Ae:=⟨⟨0,0,[]⟩⟩
def wI (wv:AB) (e:AE):Bool:=(e.Kind==3||e.Kind==4)&& !(ix wv.Cells e.Obj).F6
def Rp (wv:AB) (i:Int) (e:AE) (h:Be) (s:List Ae×List Int):List Ae×List Int:=
 if wI wv e=true then
  let r:=I6 (ix s.1 e.Obj) e.Thread (e.Kind==4) h
  (s.1.set e.Obj.toNat r.1,if r.2=true/\ix s.2 e.Obj<0 then s.2.set e.Obj.toNat i else s.2)
 else s
def CE (wv:AB) (e:AE):Prop:=e.Kind=3∨e.Kind=4->Du e.Obj wv.Cells.length=true
structure WS (n:Nat) (s:List Ae×List Int):Prop where
 a:s.1.length=n
 b:s.2.length=n
 e:∀x∈s.1,EI x
theorem ix_mem {a:Type} [Inhabited a] {l:List a} {i:Int} (h:Du i l.length=true):ix l i∈l:=by
 have:=C1 h;unfold gt at this;split at this
 . exact AAe this
 . cases this
theorem WS.step {n:Nat} {wv:AB} (hn:n=wv.Cells.length) {s:List Ae×List Int} (c:WS n s) {e:AE} (g:CE wv e) {h:Be} (j:HL h) (i:Int):WS n (Rp wv i e h s):=by
 unfold Rp;split
 . rename_i d;have k:e.Kind=3∨e.Kind=4:=(by unfold wI at d;simp at d;exact d.1);have hi:Du e.Obj s.1.length=true:=(by rw[c.a,hn];exact g k);refine⟨by simpa using c.a,?_,λx f=> ?_⟩
   . simp only;split<;>simpa using c.b
   . rcases AAs f with f|rfl
     . exact c.e x f
     . exact(c.e _ (ix_mem hi)).step j
 . exact c
theorem fill {c:Type} {L:Nat->List Int->Int->ABr c} {N:Nat} {R:List Int->ABr c} (f:N≤1000) (b:∀(n i:Nat) (l:List Int),i<N->l.length=N->L (n+1) l (i:Int)=L n (l.set i (-1)) ((i+1:Nat):Int)) (a:∀n l,L (n+1) l (N:Int)=R l):∀(n i:Nat),i≤N->N<n+i->L n (List.replicate i (-1)++List.replicate (N-i) 0) (i:Int)=R (List.replicate N (-1))
 |0,i,h1,h2=>by omega
 |n+1,i,h1,h2=>by
  by_cases hi:i<N
  . have d:N-i=(N-(i+1))+1:=(by omega);rw[b n i _ hi (by simp;omega),d,List.replicate_succ];have e:(List.replicate i (-1:Int)++(0:Int)::List.replicate (N-(i+1)) 0).set i (-1)=List.replicate (i+1) (-1)++List.replicate (N-(i+1)) 0:=(by have:=kI (List.replicate i (-1:Int)) 0 (-1) (List.replicate (N-(i+1)) 0);rw[ABb]at this;rw[this,ABq];simp);rw[e];exact fill f b a n (i+1) (by omega) (by omega)
  . obtain rfl:i=N:=(by omega);rw[a];simp
theorem AT.ce {t:Ac} (h:AT t) {e:AE} (d:e∈t.AH):CE t.World e:=by intro a;obtain⟨i,hi,rfl⟩:=List.getElem_of_mem d;have b:=h.poss hi;unfold Iv CL at b;simp only[AAR]at b;have c:=b.2.2.1.2.2.1;unfold B8 at c;rcases a with a|a<;>simpa[a]using c
theorem uF {b:Type} [Inhabited b] {l:List b} {i:Int} (h:Du i l.length=true) (a:b):ix (l.set i.toNat a) i=a:=by have h:=CJ.1 h;unfold ix;rw[AAT (by omega)];rfl
theorem Zv {b:Type} [Inhabited b] {l:List b} {i j:Int} (hi:0≤i) (c:0≤j) (h:i≠j) (a:b):ix (l.set i.toNat a) j=ix l j:=by unfold ix;rw[AAW (by omega)]
def wX (c k:Int) (x:AE×Be):Bool:= !((x.1.Kind==3||x.1.Kind==4)&&x.1.Obj==c)||(x.2.E9.contains k||(x.1.Kind==3&&x.2.JK.contains k))
def DI (c k:Int) (s:List Ae×List Int):Prop:=((ix s.1 c).State=0∨(ix s.1 c).State=1∨k∈(ix s.1 c).AF)/\ix s.2 c<0
theorem DI.step {wv:AB} {c k:Int} {s:List Ae×List Int} (h:DI c k s) (r:WS wv.Cells.length s) (p:Du c wv.Cells.length=true) {e:AE} {hd:Be} (q:CE wv e) (d:wX c k (e,hd)=true) (i:Int):DI c k (Rp wv i e hd s):=by
 unfold Rp;split
 . rename_i l;dsimp only;have f:e.Kind=3∨e.Kind=4:=(by unfold wI at l;simp at l;exact l.1);have hi:=q f;have t:=CJ.1 hi;have u:=CJ.1 p;by_cases b:e.Obj=c
   . subst b;have n:k∈Kg (e.Kind==4) hd:=by
      unfold wX at d;simp only[ABC,Bool.and_true,AA2,ABA,AAR,AAn]at d;unfold Kg;rw[KF];rcases f with f|f
      . simp[f]at d ⊢;exact d
      . simp[f]at d ⊢;exact d
     have o:(I6 (ix s.1 e.Obj) e.Thread (e.Kind==4) hd).2=false/\((I6 (ix s.1 e.Obj) e.Thread (e.Kind==4) hd).1.State=1∨k∈(I6 (ix s.1 e.Obj) e.Thread (e.Kind==4) hd).1.AF):=by
      unfold I6;split
      . exact⟨rfl,.inl rfl⟩
      . rename_i hn;have m:k∈(if(ix s.1 e.Obj).State=1 then Kg (e.Kind==4) hd else(ix s.1 e.Obj).AF.filter (Kg (e.Kind==4) hd).contains):=by
         split
         . exact n
         . rename_i j;rcases h.1 with g|g|g
           . exact absurd (.inl g) hn
           . exact absurd g j
           . exact List.mem_filter.2 ⟨g,by simpa using n⟩
        refine⟨?_,.inr m⟩;have:((if(ix s.1 e.Obj).State=1 then Kg (e.Kind==4) hd else(ix s.1 e.Obj).AF.filter (Kg (e.Kind==4) hd).contains).length:Int)≠0:=by have:=List.length_pos_of_mem m;omega
        simp only[Bool.and_eq_false_iff,ABZ];exact .inr this
     unfold DI;dsimp only;rw[uF (by rw[r.a];exact hi),AAZ (by rw[o.1];simp)];exact⟨o.2.elim (λg=>.inr (.inl g)) λg=>.inr (.inr g),h.2⟩
   . unfold DI;dsimp only;rw[Zv (by omega) (by omega) b];refine⟨h.1,?_⟩;split
     . rw[Zv (by omega) (by omega) b];exact h.2
     . exact h.2
 . exact h
end Go.Abs
namespace Go.Abs
open Go.Proofs Go.RowKit
set_option maxRecDepth 100000
set_option maxHeartbeats 4000000
theorem Uz {b:Type} {e:b->List AV} {ok:b->Prop}:∀(rows:List (List AV)),(∀a∈rows,∃x:b,a=e x/\ok x)->∃l:List b,rows=l.map e/\∀x∈l,ok x
 |[],_=>⟨[],rfl,λ_ h=>by simp at h⟩
 |r::rs,h=>by
  obtain⟨l,f,g⟩:=Uz rs (λa i=>h a (by simp[i]));obtain⟨x,j,c⟩:=h r (by simp);refine⟨x::l,by rw[j,f];rfl,λy d=> ?_⟩;rcases AAp.1 d with rfl|d
  . exact c
  . exact g y d
def Nr (x:Int):Prop:=(Lit.int .u8 x).wf=true
structure JB (x:List Int):Prop where
 len:x.length*1≤reachBytes
 all:∀y∈x,Nr y
structure qM (x:KH):Prop where
 f0:JB x.Program
 f1:JB x.Dy
 f2:JB x.WY
theorem op5:KJ Tryz.prog 5 (λa=>∃x:Int,a=[.sc (.int .u8 x)]/\Nr x):=(jS Tryz.underlying5).mono λ_ ⟨n,h,b⟩=>⟨n,h,b⟩
theorem op22:KJ Tryz.prog 22 (λc=>∃x:List Int,c=[.sl false 1 (x.map Yf)]/\JB x):=by
 refine(Ru (k:=1) Tryz.underlying22 (by kernel_rfl) (by omega) op5).mono ?_;rintro c ⟨rows,rfl,g,d⟩;obtain⟨l,rfl,f⟩:=Uz (e:=Yf) (ok:=Nr) rows λb h=>(g b h).1;have a:Tryz.prog.bytesOf 5=1:=by kernel_rfl
 rw[a,AA0]at d;exact⟨l,rfl,d,f⟩
theorem op24:KJ Tryz.prog 24 (λa=>∃x:KH,a=SV x/\qM x):=by refine(Ow (Xs:=[λa=>∃x:List Int,a=[.sl false 1 (x.map Yf)]/\JB x,λa=>∃x:List Int,a=[.sl false 1 (x.map Yf)]/\JB x,λa=>∃x:List Int,a=[.sl false 1 (x.map Yf)]/\JB x]) Tryz.underlying24 ⟨by kernel_rfl,op22,⟨by kernel_rfl,op22,⟨by kernel_rfl,op22,trivial⟩⟩⟩ (by kernel_rfl)).mono ?_;rintro a ⟨a0,j,rfl,⟨e,rfl,b⟩,⟨h,k,rfl,⟨f,rfl,c⟩,⟨i,l,rfl,⟨g,rfl,d⟩,rfl⟩⟩⟩;exact⟨⟨e,f,g⟩,rfl,⟨b,c,d⟩⟩
theorem arg24 (a:List AV):ZZ Tryz.prog 24 a= .agg a:=by unfold ZZ;rw[Tryz.underlying24];rfl
theorem laid:laidOutB Tryz.prog=true:=by kernel_rfl
theorem own0:ownKnob Tryz.prog.godebug=none:=by kernel_rfl
abbrev gQ:List (String×DataW Unit):=[("interleave/token.keywords",Go.Proofs.YthmijagacgnmkaaGreatDoor.Rows.laid_interleave_token_keywords)]
theorem gName:Tryz.prog.globalNamed "interleave/token.keywords" =some 0:=by kernel_rfl
theorem gType:(Tryz.prog.globals[0]?).map (·.type)=some 318:=by kernel_rfl
theorem uM:(Go.Proofs.YthmijagacgnmkaaGreatDoor.Rows.laid_interleave_token_keywords:DataW Unit)= .agg (LD.map λs=>.lit (.string s.data.toList)):=rfl
theorem mJ {W:World} (h:laidMetH Tryz.prog gQ W):GI W (Old W):=by
 rw[MakeChecks.laidMetH_plain _ _ _ (by kernel_rfl)]at h;obtain⟨G,⟨g0,I,c,f0,F,H,i,n,o,f,_,_⟩,_,_⟩:=h;obtain rfl:=AAU (gName.symm.trans i);obtain rfl:=AAU (gType.symm.trans n);obtain⟨w,m,rfl,p,t,hn,g⟩:=DataW.trod_array Tryz.underlying318 f;have ce:Tryz.prog.cellsOf 9=1:=by kernel_rfl
 rw[uM]at p;simp only[AAf,DataW.agg.injEq]at p;have r:∀(j:Nat) s,LD[j]? =some s->W.cell? ⟨0,j,none⟩=some (.string s):=by
  intro j s b;have k:j<22:=by have:=(AAS.1 b).1;exact this
  have a:(w.map (·.1))[j]? =some (.lit (.string s.data.toList)):=by rw[← p.1,AAb,b];rfl
  rw[AAb]at a;cases hxs:w[j]? with
  |none=>rw[hxs]at a;cases a
  |some y=>have u:=g j k;rw[hxs,ce]at u;obtain⟨e,B,D,_⟩:=DataW.trod_string Tryz.underlying9 u;rw[hxs]at a;simp only[AAw,AAQ]at a;rw[D]at a;simp only[DataW.lit.injEq,Lit.string.injEq]at a;have l:e=s:=ByteArray.ext (Array.toList_inj.1 a);subst l;rw[World.var?_cell gName o j];have:(c.toList.drop (j*1)).take 1=[.string e]:=B;rw[Nat.mul_one]at this;have d:c.toList[j]? =some (.string e):=(by have C:((c.toList.drop j).take 1)[0]? =some (.string e):=(by rw[this];rfl);simpa using C);simpa using d
 intro x q;have:x=(0,LD.map Value.string):=by simpa[Gam]using q
 subst this;have d:=r 0 _ rfl;obtain⟨_,z⟩:=o0 d;refine⟨z,?_⟩;unfold World.cell? at d;cases hb:W.heap[0]? with
 |none=>simp[hb]at d
 |some MJ=>
  cases MJ with
  |cells arr E fz=>
   refine⟨arr,E,fz,rfl,λj v b=> ?_⟩;rw[AAb]at b;cases hs:LD[j]? with
   |none=>rw[hs]at b;cases b
   |some s=>
    rw[hs]at b;simp only[AAw,AAQ]at b;subst b
    have:=r j s hs;unfold World.cell? at this;simpa[hb]using this
  |_=>simp[hb]at d
end Go.Abs
namespace Go.Abs
theorem u8_of {x:Int} (h:Nr x):0≤x/\x<256:=by unfold Nr Lit.wf at h;simp only[AAR,AAk]at h;have c:=h.1;have d:=h.2;have a:IntKind.u8.min=0:=rfl;have b:IntKind.u8.max=255:=rfl;omega
theorem true_of {o:ABr Bool} (h:Bx o λb=>b=true):o=some true:=by obtain⟨b,h,rfl⟩:=h;exact h
theorem Xe {l:List Int} (h:JB l):Q5 l:=λx a=>u8_of (h.all x a)
theorem run_in {r:KH} (h:qM r):xE r:=⟨Xe h.f0,Xe h.f1,Xe h.f2⟩
theorem len_in {l:List Int} (h:JB l):l.length≤4000000000000000000:=by have:=h.len;unfold reachBytes at this;omega
theorem LHeld_law {r:KH} (h:qM r):Gb r=some true:=true_of (LHeld_tot (run_in h) (len_in h.f0))
end Go.Abs
