/- What the typed programs give, in plain Lean. -/
import Derived.Test.YtdojkofgkcmagaaGreatDoorWalkT
import Derived.Test.YtdojkofgkcmagaaGreatDoorPlainC
set_option linter.defProp false
set_option linter.unusedSimpArgs false
set_option linter.unusedVariables false
namespace Go.Abs
variable{p:AU}{t k a i o:Int}{S j:mu}{K n nt:Nat}{m:Ai}{R:lx}{wv:AF}{l d:iq}{v:AX}{C:ke}{w:AG}{s:AQ}{e:AH}{c:Ac}{z:Ao}{r:AE}{B:iy}{b:Type}
section
set_option maxHeartbeats 4000000
section
variable{T:kp}
def QL:Nat->List AR->Nat
 |0,_=>0
 |d+1,l=>(l.map λs=>1+QL d s.dx+QL d s.d7).sum
theorem sum_le{l:jh}{k:Nat}(h:∀x∈l,x<=k):l.sum<=l.length*k:=by
 induction l with
 |nil=>simp
 |cons x r ih=>have b:=h x ABT;have c:=ih λy a=>h y (ABg _ a);rw[List.sum_cons,ABU,ABm];omega
theorem kX(d:Nat):∀l,Uq T d l->QL d l<=10*II d:=by
 induction d with
 |zero=>exactλ_ _=>Nat.zero_le _
 |succ d ih=>intro l ⟨h1,h2⟩;have f:II (d+1)=1+20*II d:=rfl;refine ABO (sum_le (k:=II (d+1)) ?_) (by rw[AA6];exact ABC _ h1);intro x b;obtain⟨s,a,rfl⟩:=ABh.1 b;have c:=ih _ (h2 s a).body;have e:=ih _ (h2 s a).els;omega
theorem aY{l:ju}{i:Nat}(h:i<l.length)(f:AR->Nat):((l.take (i+1)).map f).sum=((l.take i).map f).sum+f l[i]:=by rw[<- AAp h,AA5,List.sum_append];simp
theorem Nt(l:ju)(i:Nat)(f:AR->Nat):((l.take i).map f).sum<=(l.map f).sum:=by
 conv=>rhs;rw[<- ABS i l,AA5,List.sum_append]
 omega
theorem cst_le{d:Nat}(h:d<=4):II d<=8421:=by
 have:d=0\/d=1\/d=2\/d=3\/d=4:=ah
 rcases this with rfl|rfl|rfl|rfl|rfl<;>decide
theorem Count_eq(d:Nat):∀(n:Nat)(l:ju),d<=4->d+1<=n->Uq T d l->B5 (HE n l) λr=>r=(QL d l:Int):=by
 induction d with
 |zero=>intro n l _ hn ⟨_,h⟩;obtain⟨n,rfl⟩:∃k,n=k+1:=⟨n-1,ah⟩;have:l=[]:=ABB.2 λx a=>(h x a).elim;subst this;show B5 (DG (HE n) []) _;exact tR rfl
 |succ d ih=>
  intro n l hd hn ⟨h1,h2⟩;obtain⟨n,rfl⟩:∃k,n=k+1:=⟨n-1,ah⟩;show B5 (DG (HE n) l) _;unfold DG;have t:=cst_le (d:=d) ah;have g:=kX (T:=T) (d+1) l ⟨h1,h2⟩;have o:=cst_le hd
  let f:AR->Nat:=λs=>1+QL d s.dx+QL d s.d7
  refine RI l.length (λi (s:Int)=>s+i=((l.take i).map f).sum+l.length) (F:=λn s i=>DG.AW _ l n s i) ah ak λm i s hi y k=> ?_;unfold DG.AW DG.L1 DG.J1;have w:=Nt l i f;have C:QL (d+1) l=(l.map f).sum:=rfl;refine tD (λj=>gC ah ?_) λ_=>tR ?_
  . have a:l[i]∈l:=AAi ah;have b:=(h2 _ a).body;have c:=(h2 _ a).els;have p:=kX d _ b;have q:=kX d _ c;have e:=Nt l (i+1) f;have st:=aY ah f (i:=i) (l:=l);refine tB (ih n _ ah ah b) λv B=>tB (ih n _ ah ah c) λu z=>k _ ah ?_;rw[CG (n:=s+v) ah ah,CG ah ah,st];grind
  grind
theorem gA{l:List C7}{i:Nat}(h:i<l.length)(f:C7->Nat):((l.take (i+1)).map f).sum=((l.take i).map f).sum+f l[i]:=by rw[<- AAp h,AA5,List.sum_append];simp
theorem check60(h:MP p):B5 (BF p) λr=>r.1=0->(p.AA.map λt=>QL 4 t.dx).sum<=60:=by
 have hd:=h.dl;have j:=h.t;have D:II 4=8421:=rfl;have N:∀{a b:Int}{P:Prop},(a != 0)=true->B5 (some (a,b)) λr:Int×Int=>r.1=0->P:=λh=>tR λB=>am
 unfold BF;refine JQ (YY h) λ_=>tI (λ_=>N rfl) λ_=>JQ (eM h) λ_=>tI (λh=>N h) λ_=>tI (λ_=>N rfl) λ_=>JQ (W7 h) λ_=>tI (λh=>N h) λ_=> ?_
 let f:C7->Nat:=λt=>QL 4 t.dx
 have c:∀t∈p.AA,f t<=84210:=λt j=>by have:=kX 4 _ (h.b t j);grind
 refine RI p.AA.length (λi (s:Int)=>s=((p.AA.take i).map f).sum/\s<=i*84210) (F:=λn s i=>BF.AW p n s i) ah ak λm i s hi g k=> ?_;unfold BF.AW BF.L1 BF.J1;refine tD (λ_=>gC ah (tB (Count_eq 4 _ _ ah (NT ah) (h.b _ (AAi ah))) λv o=>k _ ah ?_)) λE=>tD (λ_=>N rfl) λu=> ?_
 . have st:=gA (l:=p.AA) (i:=i) ah f;have C:=c _ (AAi (show i<p.AA.length by omega));have e:f p.AA[i]=QL 4 p.AA[i].dx:=rfl;rw[CG ah ah,st];omega
 have d:i=p.AA.length:=ah
 rw[d,List.take_length]at g;have q:(p.AA.map f).sum<=60:=ah
 refine RI p.AA.length (λi w=>WK p 0 (i*84210) w) (F:=λn s i=>BF.CC p n s i) ah ⟨rfl,rfl,ak,ak⟩ λm i s hi c k=> ?_;unfold BF.CC BF.L2 BF.J2;refine tD (λz=>tG ah λx y=> ?_) λ_=>tR λ_=>q;refine tB (v7 h 4 _ 0 (i*84210) _ _ (NT ah) ah ah ⟨c.p,c.a,c.s,c.t⟩ (h.b x y)) λv o=>tI (λh=>N h) λ_=>k _ ah (o.mono ah)
def SN(t nv:Int)(l:mu):Prop:=∀(j:Nat) x,l[j]? =some x->x.cr=t/\x.ek=nv+j
theorem SN.app(h:SN t k S)(g:SN t (k+S.length) j):SN t k (S++j):=by
 intro b x c;by_cases e:b<S.length
 . rw[AA0 e]at c;exact h b x c
 . rw[AAx ah]at c
   have:=g _ x c;omega
theorem SN.one:SN t a [⟨t,a,k⟩]:=by intro j x b;grind
theorem sites_ok(d:Nat):∀(n:Nat)(o:mu)(t a:Int)(l:ju),d+1<=n->o.length+QL d l<=900000->(0<=a/\a+QL d l<=900000)->Uq T d l->B5 (HG n o t a l) λr=>∃S,r.1=o++S/\S.length=QL d l/\SN t a S/\r.2=a+QL d l:=by
 induction d with
 |zero=>intro n o t a l hn _ _ ⟨_,h⟩;obtain⟨n,rfl⟩:∃k,n=k+1:=⟨n-1,ah⟩;have:l=[]:=ABB.2 λx b=>(h x b).elim;subst this;show B5 (DH (HG n) o t a []) _;exact tR ⟨[],ak,rfl,λj x b=>by simp at b,by simp[QL]⟩
 |succ d ih=>
  intro n o t a l hn I J ⟨h1,h2⟩;obtain⟨n,rfl⟩:∃k,n=k+1:=⟨n-1,ah⟩;show B5 (DH (HG n) o t a l) _;unfold DH
  let f:AR->Nat:=λs=>1+QL d s.dx+QL d s.d7
  have K:QL (d+1) l=(l.map f).sum:=rfl;refine RI l.length (λi (s:List EG×Int)=>∃S,s.1=o++S/\S.length=((l.take i).map f).sum/\SN t a S/\s.2=a+((l.take i).map f).sum) (F:=λm s i=>DH.AW _ l t m s.1 s.2 i) (s0:=(o,a)) ah ⟨[],ak,rfl,λj x b=>by simp at b,ak⟩ λm i s hi B k=> ?_;obtain⟨S,q,c,w,g⟩:=B;unfold DH.AW DH.L1 DH.J1;refine tD (λG=>gC ah ?_) λL=> ?_
  . have st:=aY (l:=l) (i:=i) ah f;have z:=Nt l (i+1) f;have b:l[i]∈l:=AAi ah;have H:f l[i]=1+QL d l[i].dx+QL d l[i].d7:=rfl;have p:s.1.length=o.length+((l.take i).map f).sum:=(by rw[q,AA8,c]);refine tC (Bs ah) ?_;rw[g,CG (n:=a+((l.take i).map f).sum+1) ah ah];refine tB (ih n _ t _ _ ah an ah (h2 _ b).body) λv D=> ?_;obtain⟨S2,Q,R,E,U⟩:=D;refine tB (ih n _ t _ _ ah aS ah (h2 _ b).els) λu C=> ?_;obtain⟨y,M,N,O,P⟩:=C;refine k (_,_) ah ⟨S++([⟨t,a+((l.take i).map f).sum,l[i].GH⟩]++(S2++y)),?_,?_,?_,?_⟩
    . simp_all
    . grind
    . refine w.app ?_;rw[c];refine SN.one.app ?_;rw[show a+((l.take i).map f).sum+(([⟨t,a+((l.take i).map f).sum,l[i].GH⟩]:List EG).length:Int)=a+((l.take i).map f).sum+1 from by simp];refine E.app ?_;simp_all
    omega
  . have e:i=l.length:=ah;subst e;rw[List.take_length]at c g;exact tR ⟨S,q,c,w,g⟩
end
section
variable{T:kp}{g h r:BL}{lo hi lo' hi':Int}
def BS(T:kp)(R:lx)(l:ju)(n:Nat):Prop:=
 ∀g,GW T g->(0<=g.next/\g.next+n<=1000000)->NJ (R g l) λr=>GV g r g.next (g.next+n)/\r.next=g.next+n
def Rg{l k:li}(h:K<l.length):(l++k)[K]? =l[K]? :=AA0 h
theorem YC{l:li}:(l++[m])[l.length]? =some m:=ak
theorem rJ{s:AR}(o:GW T g)(j:lo<=g.dt/\g.dt<hi)(hn:0<=g.next/\g.next+n<=1000000)(b:lo<=g.next)(q:g.next+n<=hi)(m:BS T R s.dx n)(x:11<=a/\a<=25)(y:11<=t/\t<=25)(i:∀p S,p=a\/p=t->AO g.w ⟨p,k,0,0,0,S⟩=some true):NJ (DP R g s a t k) λr=>GV g r lo hi/\r.next=g.next+n:=by
 unfold DP;refine pB (xL (lo:=lo) (hi:=hi) ⟨aA,i _ _ (.inl rfl),by rw[rg0 aA];simp,j,aA,aA⟩ aA) λv d=> ?_;have e:=m v (o.next d.1) (by rw[d.2.2];exact hn);rw[d.2.2]at e;refine pB e λu c=> ?_;have f:=d.1.trans (c.1.mono b q);have l:=f.dt g.dt u.next;refine pM (JH (lo:=lo) (hi:=hi) ⟨aA,?_,by rw[rg0 aA];simp,j,aA,aA⟩ aA) λ_ h=>⟨l.trans h.1,h.2.2.trans c.2⟩;simp only;rw[f.w];exact i _ _ (.inr rfl)
theorem gY{s:AR}(E:GW T g)(N:lo<=g.dt/\g.dt<hi)(hn:0<=g.next/\g.next+n+K<=1000000)(hl:lo<=g.next)(hh:g.next+n+K<=hi)(M:Up 2 s.dv)(hR:BS T R s.dx n)(hE:BS T R s.d7 K)(h3:s.Op=3->K=0)(h0:s.d7=[]->K=0):NJ (DC R g s) λr=>GV g r lo hi/\r.next=g.next+n+K:=by
 have W:(g.dq.length:Int)=2:=by rw[E.l];rfl
 unfold DC;rw[W];refine pB (Va M E N ah) λd hd=> ?_;have dL:(d.dq.length:Int)=2:=by rw[hd.1.l];exact W
 rw[dL];refine pB (put_eq _) λq hq=> ?_;have KX:d.dt=g.dt:=hd.2.1;have u:d.next=g.next:=hd.2.2;subst hq;have G:=E.next hd.1;have j:=hR ⟨d.w,d.dq,d.dr++[⟨10,2,0,0,0,d.dt⟩],d.dt,d.next⟩ ⟨G.w,G.l⟩ (by simp only;rw[u];omega);refine pB j λb t=> ?_;obtain⟨t,D⟩:=t;simp only at D;rw[u]at D;have t:=t.mono (lo':=lo) (hi':=hi) (by simp only;rw[u];exact hl) (by simp only;rw[u];omega);have q1:=hd.1.n;have b1:d.dr.length+1<=b.dr.length:=by have:=t.n;simpa using this
 have I:∀i,i<d.dr.length+1->b.dr[i]? =(d.dr++[(⟨10,2,0,0,0,d.dt⟩:Ai)])[i]? :=λi hi=>t.p i (by simpa using hi);have S:SG d.w lo hi b.dr (d.dr.length+1) b.dr.length b.dr.length:=by have:=t.s;simpa using this
 have C:b.w=g.w:=t.w.trans hd.1.w;have H:b.dq=g.dq:=t.l.trans hd.1.l;have dw:=hd.1.w;rw[dw]at S
 -- a list that goes on as these do, but for the branch
 have val:∀(F:li),b.dr.length<=F.length->(∀i,i<d.dr.length->F[i]? =b.dr[i]?)->SG g.w lo hi F g.dr.length d.dr.length F.length:=λF f1 f2=>
  hd.1.s.frame (λi _ hi=>by rw[f2 i hi,I i ah,Rg hi]) ah ah ah ah
 have pre:∀(F:li),(∀i,i<d.dr.length->F[i]? =b.dr[i]?)->∀i,i<g.dr.length->F[i]? =g.dr[i]? :=λF f2 i hi=>by rw[f2 i ah,I i ah,Rg ah,hd.1.p i hi]
 have v:∀(F:li)(c:Nat),b.dr.length<=F.length->b.dr.length<=c->(∀i,d.dr.length<i->i<b.dr.length->F[i]? =b.dr[i]?)->SG g.w lo hi F (d.dr.length+1) b.dr.length c:=λF c f1 f3 f2=>
  S.frame (λi j o=>(f2 i ah o).symm) f1 ah ah f3
 have J:∀(c:Nat)(B:Nat),B<=c->LV g.w lo hi c ⟨10,2,(B:Int),0,0,d.dt⟩:=λc B V=>⟨ak,uJ ak,by rw[rg10 rfl];exact jZ (x:=0) ak,by simp only;rw[KX];exact N,ak,λ_=>aA⟩;have Z:∀(c:Nat)(A:Nat),A<=c->LV g.w lo hi c ⟨5,(A:Int),0,0,0,g.dt⟩:=λc A U=>⟨ak,uJ ak,by rw[rg0 (.inl rfl)];simp,N,λ_=>aA,ak⟩;have bd:b.dr[d.dr.length]? =some ⟨10,2,0,0,0,d.dt⟩:=by rw[I _ ah];exact YC
 refine pI (λh=> ?_) λMe=>pI (λh=> ?_) λX=> ?_
 . -- a loop
   have hm:=h3 (eq_of_beq h);refine pB (put_eq _) λe M=> ?_;subst M;refine pE (y:=⟨10,2,0,0,0,d.dt⟩) (by rw[Jz];simp only;rw[Rg (by omega)];exact bd) (pR ⟨?_,aA⟩);simp only;generalize a:(b.dr++[(⟨5,(g.dr.length:Int),0,0,0,g.dt⟩:Ai)]).set d.dr.length ⟨10,2,((b.dr++[(⟨5,(g.dr.length:Int),0,0,0,g.dt⟩:Ai)]).length:Int),0,0,d.dt⟩=F;have fl:F.length=b.dr.length+1:=(by rw[<- a];simp);have f1:∀i,i≠d.dr.length->i<b.dr.length->F[i]? =b.dr[i]? :=λi j o=>(by rw[<- a,AAe (by omega),Rg o]);have f2:F[d.dr.length]? =some ⟨10,2,((b.dr.length+1:Nat):Int),0,0,d.dt⟩:=(by rw[<- a,AAX (by simp;omega)];simp);have f3:F[b.dr.length]? =some ⟨5,(g.dr.length:Int),0,0,0,g.dt⟩:=(by rw[<- a,AAe (by omega)];exact YC);refine⟨C,H,aA,pre F λi hi=>f1 i ah ah,?_⟩;simp only
   have:=SG.back (val F ah λi hi=>f1 i ah ah) f2 (J _ _ ah) rfl (v F F.length ah ah λi j o=>f1 i ah o) f3 (Z _ _ ah) rfl rfl;rw[fl]at this |-;exact this
 . -- without another part
   have hm:K=0:=h0 (by have:=eq_of_beq h;exact List.length_eq_zero_iff.1 (by omega));refine pE (y:=⟨10,2,0,0,0,d.dt⟩) (by rw[Jz];exact bd) (pR ⟨?_,aA⟩);simp only;generalize a:b.dr.set d.dr.length ⟨10,2,(b.dr.length:Int),0,0,d.dt⟩=F;have fl:F.length=b.dr.length:=(by rw[<- a];simp);have f1:∀i,i≠d.dr.length->F[i]? =b.dr[i]? :=λi j=>(by rw[<- a,AAe (by omega)]);have f2:F[d.dr.length]? =some ⟨10,2,(b.dr.length:Int),0,0,d.dt⟩:=(by rw[<- a,AAX (by omega)]);refine⟨C,H,aA,pre F λi hi=>f1 i ah,?_⟩;simp only
   have:=((val F ah λi hi=>f1 i ah).app (SG.one f2 (J _ _ ah) ak)).app (v F F.length ah ah λi j o=>f1 i ah);rw[fl]at this |-;exact this
 . -- with another part
   refine pB (put_eq _) λf hf=> ?_;subst hf;refine pE (y:=⟨10,2,0,0,0,d.dt⟩) (by rw[Jz];simp only;rw[Rg (by omega)];exact bd) ?_;simp only;generalize a:(b.dr++[(⟨5,0,0,0,0,g.dt⟩:Ai)]).set d.dr.length ⟨10,2,((b.dr++[(⟨5,0,0,0,0,g.dt⟩:Ai)]).length:Int),0,0,d.dt⟩=F;have fl:F.length=b.dr.length+1:=(by rw[<- a];simp);have f1:∀i,i≠d.dr.length->i<b.dr.length->F[i]? =b.dr[i]? :=λi j o=>(by rw[<- a,AAe (by omega),Rg o]);have f2:F[d.dr.length]? =some ⟨10,2,((b.dr.length+1:Nat):Int),0,0,d.dt⟩:=(by rw[<- a,AAX (by simp;omega)];simp);have f3:F[b.dr.length]? =some ⟨5,0,0,0,0,g.dt⟩:=(by rw[<- a,AAe (by omega)];exact YC);have h4:=hE ⟨b.w,b.dq,F,g.dt,b.next⟩ ⟨by simp only;rw[C];exact E.w,H.trans E.l⟩ aA;refine pB h4 λi hi=> ?_;obtain⟨z,Su⟩:=hi;simp only at Su;have z:=z.mono (lo':=lo) (hi':=hi) aA aA;have i1:b.dr.length+1<=i.dr.length:=(by have:=z.n;simp only[fl]at this;exact this);have O:∀k,k<b.dr.length+1->i.dr[k]? =F[k]? :=λk hk=>z.p k (by simp only[fl];exact hk);have is:SG g.w lo hi i.dr (b.dr.length+1) i.dr.length i.dr.length:=(by have:=z.s;simp only[fl,C]at this;exact this);refine pE (y:=⟨5,0,0,0,0,g.dt⟩) (by rw[Jz,O _ (by omega)];exact f3) (pR ⟨?_,aA⟩);simp only;generalize L:i.dr.set b.dr.length ⟨5,(i.dr.length:Int),0,0,0,g.dt⟩=m;have kl:m.length=i.dr.length:=(by rw[<- L];simp);have P:∀k,k≠b.dr.length->m[k]? =i.dr[k]? :=λk j=>(by rw[<- L,AAe (by omega)]);have Q:∀k,k≠d.dr.length->k<b.dr.length->m[k]? =b.dr[k]? :=λk j o=>(by rw[P k (by omega),O k (by omega),f1 k j o]);have k3:m[d.dr.length]? =some ⟨10,2,((b.dr.length+1:Nat):Int),0,0,d.dt⟩:=(by rw[P _ (by omega),O _ (by omega)];exact f2);have k4:m[b.dr.length]? =some ⟨5,(i.dr.length:Int),0,0,0,g.dt⟩:=(by rw[<- L,AAX (by omega)]);refine⟨z.w.trans C,z.l.trans H,aA,pre m λi hi=>Q i ah ah,?_⟩;simp only;have U:=((val m ah λi hi=>Q i ah ah).app (SG.one k3 (J _ _ ah) ak)).app (v m m.length ah ah λi j o=>Q i ah o);have V:SG g.w lo hi m (b.dr.length+1) i.dr.length m.length:=is.frame (λk j _=>(P k ah).symm) ah ah ah ah
   have:=U.jump k4 (Z _ _ ah) rfl rfl V;rw[kl]at this |-;exact this
theorem xY(d:Nat):QL d []=0:=by cases d<;>rfl
end
section
variable{T:kp}{g h r:BL}{lo hi lo' hi':Int}
theorem iH(h:g.w.Ak=[⟨cN,0⟩]):Cj g cN=some (0,g):=by unfold Cj;have a:=BP;obtain⟨n,hn⟩:∃n,BT=n+1:=⟨BT-1,ah⟩;rw[hn];unfold Cj.AW Cj.L1;rw[h];simp[gt]
theorem At_par{l:jf}{s:ABv}(e:l.length<1000000):NJ (Ch l s) λr=>s∈l->0<=r/\r<l.length:=by
 unfold Ch;refine pLs l.length (λi (_:Unit)=>∀j:Nat,j<i->l[j]? ≠some s) (s0:=()) (F:=λn _ i=>Ch.AW l s n i) (λ_ _=>rfl) ah (λj d=>ah) λn i _ hi f k=> ?_;unfold Ch.AW Ch.L1 Ch.J1;refine pD (λb=>pE (B4 ah) (pI (λ_=>pR λ_=>ah) λc=>k () ah ?_)) λh=>pR λa=> ?_
 . grind
 . obtain⟨j,j1,g⟩:=ABX a;grind
theorem stmt_par{s:AR}(m:GW T g)(u:Iz T (K+1) s)(hn:0<=g.next/\g.next+(1+n+nt)<=1000000)(hB:BS T R s.dx n)(hE:BS T R s.d7 nt)(b0:s.dx=[]->n=0)(e0:s.d7=[]->nt=0):
 NJ (Cw (DC R) (DP R) g s) λr=>GV g r g.next (g.next+(1+n+nt))/\r.next=g.next+(1+n+nt):=by
 have hw:A6 (g.next+1)=g.next+1:=CG ah ah;have bd:=u.2.2.2.2.2.2.2.2.1;have nm:=u.2.2.2.2.2.2.2.2.2;have nB:s.Op∉[(2:Int),3,4,5,6,7,8]->n=0:=λh=>b0 (bd.1 h);have k:s.Op≠2->nt=0:=λh=>e0 (bd.2 h);unfold Cw;rw[hw];generalize o:BL.mk g.w g.dq g.dr g.next (g.next+1)=g1;have I:GW T g1:=by rw[<- o];exact⟨m.w,m.l⟩
 have gs:g1.dt=g.next:=by rw[<- o]
 have H:g1.next=g.next+1:=by rw[<- o]
 have j:g1.w=g.w:=by rw[<- o]
 have gl:(g1.dq.length:Int)=2:=by rw[I.l];rfl
 have up:∀{r lo hi},GV g1 r lo hi->GV g r lo hi:=λh=>by rw[<- o]at h;exact⟨h.w,h.l,h.n,h.p,h.s⟩
 have si:g.next<=g1.dt/\g1.dt<g.next+(1+n+nt):=by rw[gs];omega
 -- one instruction
 have P:∀i:Ai,s.Op∉[(2:Int),3,4,5,6,7,8]->LV g1.w g.next (g.next+(1+n+nt)) (g1.dr.length+1) ⟨i.Op,i.A,i.B,i.C,i.N,g1.dt⟩->i.Op≠5->NJ ((BH g1 i).bind λv=>some v) λr=>GV g r g.next (g.next+(1+n+nt))/\r.next=g.next+(1+n+nt):=by intro i F J h3;have z1:=nB F;have z2:=k (by intro h;rw[h]at F;simp at F);exact pM (JH J h3) λr h=>⟨up h.1,by rw[h.2.2,H];omega⟩
 have A:∀{a b c:Int},s.Op≠2->11<=a/\a<=25->11<=b/\b<=25->(∀p S,p=a\/p=b->AO g1.w ⟨p,c,0,0,0,S⟩=some true)->NJ ((DP R g1 s a b c).bind λv=>some v) λr=>GV g r g.next (g.next+(1+n+nt))/\r.next=g.next+(1+n+nt):=by intro a b c J ha O V;have z2:=k J;exact pB (rJ (lo:=g.next) (hi:=g.next+(1+n+nt)) I si ah ah ah hB ha O V) λr h=>pR ⟨up h.1,by rw[h.2,H];omega⟩
 have lk:g.w.AK=ZY:=m.w.l;have j1:∀b,(b=true->s.Op=2\/s.Op=3)->(b=false->s.Op≠1/\s.Op≠2/\s.Op≠3)->NJ (Cw.J1 (DC R) (DP R) g s b) λr=>GV g r g.next (g.next+(1+n+nt))/\r.next=g.next+(1+n+nt):=by
  intro b O Q;unfold Cw.J1;rw[hw,o];refine pI (λh=> ?_) λh0=> ?_
  . have V:=O h;have U:Up 2 s.dv:=u.2.2.1.resolve_right λh=>h.1 (by rcases V with h|h<;>simp[h]);exact pB (gY (lo:=g.next) (hi:=g.next+(1+n+nt)) I si ah ah ah U hB hE (λh=>k ah) e0) λr h=>pR ⟨up h.1,by rw[h.2,H];omega⟩
  have n0:=Q h0;refine pI (λh=> ?_) λn4=>pI (λh=> ?_) λn5=>pI (λh=> ?_) λn6=>pI (λh=> ?_) λn7=>pI (λh=> ?_) λn8=> ?_
  . have h:=eq_of_beq h;rw[lk];rcases nm.2.1 h with F|F<;>rw[F]
    . exact pE (y:=0) (by decide +kernel) (A ah ah ah λp S G=>objM aA (y:=⟨⟨#[109]⟩,false⟩) (by rw[j,lk];rfl) rfl)
    . exact pE (y:=1) (by decide +kernel) (A ah ah ah λp S G=>objM aA (y:=⟨⟨#[110]⟩,false⟩) (by rw[j,lk];rfl) rfl)
  . have h:=eq_of_beq h;rw[lk,nm.2.2.1 (.inl h)];exact pE (y:=2) (by decide +kernel) (A ah ah ah λp S G=>objR aA (y:=⟨⟨#[114]⟩,true⟩) (by rw[j,lk];rfl) rfl)
  . have h:=eq_of_beq h;rw[lk,nm.2.2.1 (.inr h)];exact pE (y:=2) (by decide +kernel) (A ah ah ah λp S G=>objR aA (y:=⟨⟨#[114]⟩,true⟩) (by rw[j,lk];rfl) rfl)
  . have h:=eq_of_beq h;exact A ah ah ah λp S G=>uJ (by rcases G with h|h<;>simp[h])
  . have h:=eq_of_beq h;exact A ah ah ah λp S G=>uJ (by rcases G with h|h<;>simp[h])
  simp only[ABZ,ne_eq]at n4 n5 n6 n7 n8;have D:s.Op∉[(2:Int),3,4,5,6,7,8]:=an
  have L:∀{p c e:Int},11<=p/\p<=25->AO g1.w ⟨p,c,0,0,0,g1.dt⟩=some true->LV g1.w g.next (g.next+(1+n+nt)) (g1.dr.length+1) ⟨p,c,0,0,0,g1.dt⟩:=λF J=>
   ⟨aA,J,by rw[rg0 aA];simp,si,aA,aA⟩
  have M:g1.w.Ak=[⟨cN,0⟩]:=by rw[j];exact m.w.d
  have HT:(g1.w.Ak.length:Int)=1:=by rw[M];rfl
  refine pI (λh=> ?_) λn9=>pI (λh=> ?_) λW=>pI (λh=> ?_) λX=>pI (λh=> ?_) λZ=>pI (λh=> ?_) λn13=>pI (λh=> ?_) λn14=>pI (λh=> ?_) λn15=> ?_
  . rw[u.2.2.2.1 (by simp[eq_of_beq h])];exact pE (iH M) (P ⟨21,0,0,0,0,0⟩ D (L (e:=0) ak (objC (.inl rfl) aA)) ak)
  . rw[u.2.2.2.1 (by simp[eq_of_beq h])];exact pE (iH M) (P ⟨22,0,0,0,0,0⟩ D (L (e:=0) ak (objC (.inr (.inl rfl)) aA)) ak)
  . rw[u.2.2.2.1 (by simp[eq_of_beq h])];exact pE (iH M) (P ⟨23,0,0,0,0,0⟩ D (L (e:=0) ak (objC (.inr (.inr rfl)) aA)) ak)
  . refine pB (At_par (by have:=m.w.n;omega)) λv z=> ?_
    have:=z (m.w.t _ (nm.2.2.2.1 (.inl (eq_of_beq h))));exact P ⟨24,v,0,0,0,0⟩ D (L (e:=0) ak (objT (.inl rfl) (by simp only;rw[j];exact this))) ak
  . refine pB (At_par (by have:=m.w.n;omega)) λv z=> ?_
    have:=z (m.w.t _ (nm.2.2.2.1 (.inr (eq_of_beq h))));exact P ⟨25,v,0,0,0,0⟩ D (L (e:=0) ak (objT (.inr rfl) (by simp only;rw[j];exact this))) ak
  . have h:=eq_of_beq h;have U:Up 2 s.dv:=u.2.2.1.resolve_right λq=>q.1 (by simp[h]);have z1:=nB D;have z2:=k ah;rw[show(g.dq.length:Int)=2 from by rw[m.l];rfl];refine pB (Va (lo:=g.next) (hi:=g.next+(1+n+nt)) U I si ah) λv z=> ?_;have hf:v.w.AL=[⟨#[102]⟩]:=(by rw[z.1.w,j];exact m.w.f);rw[hf,nm.2.2.2.2.1 h];refine pE (y:=0) (by decide +kernel) (pM (JH ⟨ak,obj26 rfl (by rw[hf];simp),by rw[rg26 rfl];exact jZ (x:=0) ak,by rw[z.2.1];exact si,ak,ak⟩ ak) λr h=>⟨up (z.trans h).1,by rw[h.2.2,z.2.2,H];omega⟩)
  . have h:=eq_of_beq h;have hn:=nm.2.2.2.2.2 h;rw[m.l,m.w.f,hn.1,hn.2];refine pE (y:=0) (by decide +kernel) (pE (y:=0) (by decide +kernel) (P ⟨27,0,0,0,0,0⟩ D ⟨ak,obj27 rfl (by rw[j,m.w.f];simp),by rw[rg27 rfl];exact jZ (x:=0) ak,si,ak,ak⟩ ak))
  . have:=u.1;simp only[ABZ,ne_eq]at n9 W X Z n13 n14 n15;omega
 refine pI (λh=> ?_) λn1=>pI (λh=>j1 _ (λ_=>.inl (eq_of_beq h)) λh'=>by rw[h']at h;cases h) λn2=>j1 _ (λh=>.inr (eq_of_beq h)) λh=>⟨by simpa using n1,by simpa using n2,by simpa using h⟩;have h:=eq_of_beq h;have z1:=nB (by rw[h];decide);have z2:=k ah;exact pB (rM (lo:=g.next) (hi:=g.next+(1+n+nt)) I si u h) λr h=>pR ⟨up h.1,by rw[h.2.2,H];omega⟩
theorem stmts_par(d:Nat):∀(n:Nat)(l:ju),3*d+1<=n->Uq T d l->BS T (Dl n) l (QL d l):=by
 induction d with
 |zero=>intro n l hn ⟨_,h⟩ g hg c;obtain⟨n,rfl⟩:∃k,n=k+1:=⟨n-1,ah⟩;have:l=[]:=ABB.2 λx c=>(h x c).elim;subst this;show NJ (some g) _;exact pR ⟨GV.refl,by simp[QL]⟩
 |succ d ih=>
  intro n l hn ⟨h1,h2⟩ g hg c;obtain⟨n,rfl⟩:∃k,n=k+3:=⟨n-3,ah⟩;show NJ (CV (Cw (DC (Dl n)) (DP (Dl n))) g l) _;unfold CV
  let f:AR->Nat:=λs=>1+QL d s.dx+QL d s.d7
  have t:QL (d+1) l=(l.map f).sum:=rfl;refine pLs l.length (λi s=>GV g s g.next (g.next+((l.take i).map f).sum)/\s.next=g.next+((l.take i).map f).sum) (F:=λm s i=>CV.AW _ l m s i) (λ_ _=>rfl) ah ⟨GV.refl,ak⟩ λm i s hi p k=> ?_;obtain⟨a,e⟩:=p;unfold CV.AW CV.L1;refine pD (λq=>pE (B4 ah) ?_) λu=> ?_
  . have st:=aY (l:=l) (i:=i) ah f;have o:=Nt l (i+1) f;have b:l[i]∈l:=AAi ah;have r:f l[i]=1+QL d l[i].dx+QL d l[i].d7:=rfl;refine pB (stmt_par (hg.next a) (h2 _ b) ah (ih n _ ah (h2 _ b).body) (ih n _ ah (h2 _ b).els) (λh=>by rw[h];exact xY d) λh=>by rw[h];exact xY d) λv j=>k _ ah ?_;rw[e]at j;refine⟨(a.mono ah ah).trans (j.1.mono ah ah),ah⟩
  . have:i=l.length:=ah;subst this;rw[List.take_length]at a e;exact pR ⟨a,e⟩
theorem Tc{l:li}{a b:Nat}(h:l.length<=8000000)(g:b<=l.length):∀(n fuel i k m:Nat),Rx l a b n k m->Ev l m->n+i<=l.length->l.length+1<fuel+i->CW.AW l fuel k i=some true:=by
 intro n;induction n with
 |zero=>intro fuel i k m r ⟨x,x1,x2⟩ h1 h2;cases r;obtain⟨fuel,rfl⟩:∃f,fuel=f+1:=⟨fuel-1,ah⟩;have c:=(AAV.1 x1).1;unfold CW.AW CW.L1 CW.J1;rw[BC ah,Ad ah,AAa an,Jz,x1,AAS,RT,x2];rfl
 |succ n ih=>
  intro fuel i k m ⟨c,j,⟨x,x1,x2,x3⟩,r⟩ ev h1 h2;obtain⟨fuel,rfl⟩:∃f,fuel=f+1:=⟨fuel-1,ah⟩;unfold CW.AW CW.L1 CW.J1 CW.J2;have c:=(AAV.1 x1).1;rw[BC ah,Ad ah,AAa an,Jz,x1,AAS,RT,x2,AAS,Af ah]
  have:=ih fuel (i+1) j m r ev ah ah;rcases x3 with⟨d,e⟩|⟨d,rfl⟩
  . simp_all
  . rw[AAa ak,AAa am,Af ah];exact this
structure VO (w:AF) (t:Int) (c:A5):Prop where
 r:2<=c.C3/\c.C3<=32
 n:∃out lo hi,c.B8=out++[⟨28,0,0,0,0, -1⟩]/\SG w lo hi out 0 out.length out.length/\(∀k,lo<=k->k<hi->∃y,gt w.Be k=some y/\y.cr=t)
 g:∀x∈c.B8,∀y∈rg x,y<c.C3
theorem objE(h:m.Op=28):AO wv m=some true:=by simp[AO,AO.J3,AO.J5,AO.J7,AO.J8,h]
theorem WM{c:A5}(C:c.B8.length<=8000000)(S:VO wv t c):AZ wv t c=some true:=by
 obtain⟨⟨r1,r2⟩,⟨out,lo,hi,H,I,V⟩,Q⟩:=S;have Z:c.B8.length=out.length+1:=by rw[H];simp
 have L:=BP
 -- an instruction
 have l:∀(i:Nat) x,c.B8[i]? =some x->(i<out.length/\out[i]? =some x)\/i=out.length/\x=⟨28,0,0,0,0, -1⟩:=by
  intro i x q;rw[H]at q;by_cases h:i<out.length
  . grind
  . grind
 have U:c.B8[out.length]? =some ⟨28,0,0,0,0, -1⟩:=by rw[H];exact YC
 have v:∀i:Nat,i<c.B8.length->CW c.B8 (i:Int)=some true:=by
  intro i hi;have K:∀{n k m},Rx out 0 out.length n k m->Rx c.B8 0 out.length n k m:=λr=>r.frame (λj _ R=>aS) ah ah;have J:Ev c.B8 out.length:=⟨_,U,rfl⟩;unfold CW;by_cases h:i<out.length
  . rcases I.f i ah h with⟨n,m,r,m1,⟨x,x1,W⟩,hn⟩|⟨n,r,hn⟩
    . exact Tc C ah n BT 0 i m (K r) ⟨x,aS,W⟩ ah ah
    . exact Tc C ah n BT 0 i _ (K r) J ah ah
  . obtain rfl:i=out.length:=ah;exact Tc (a:=0) (b:=0) C ah 0 BT 0 _ _ rfl J ah ah
 have key:B5 (AZ wv t c) λb=>b=true:=by
  unfold AZ;refine tD bN λ_=>tD bN λ_=> ?_;rw[show((c.B8.length:Int)==0)=false from ABZ.2 ah];unfold AZ.J1;refine tI bm λ_=>RI c.B8.length (λ_ (_:Unit)=>True) (s0:=()) (F:=λn _ i=>AZ.AW c t wv n i) ah trivial λn i _ hi _ k=> ?_;unfold AZ.AW AZ.L1 AZ.J6;refine tD (λX=>gC ah ?_) λ_=>tR rfl;have q:c.B8[i]? =some c.B8[i]:=AAZ ah;have u:c.B8[i]∈c.B8:=AAi ah;generalize c.B8[i]=x at q u;have M:CW c.B8 (i:Int)=some true:=v i ah;have N:A6 ((c.B8.length:Int)-1)=out.length:=by rw[CG ah ah];omega
  -- the registers
  have z:B5 (AZ.J4 (AZ.AW c t wv n) c i x false) λb=>b=true:=by
   unfold AZ.J4;refine tI bm λ_=>tE (HC x).1 (RI (rg x).length (λ_ (_:Unit)=>True) (s0:=()) (F:=λn _ i=>AZ.CC _ c _ (rg x) n i) (by have:=(HC x).2;omega) trivial λm j _ R _ T=> ?_);unfold AZ.CC AZ.L2 AZ.J5;refine tD (λ_=>gC ah ?_) λ_=>k () ah trivial;have E:(rg x)[j]∈rg x:=AAi ah;have O:0<=(rg x)[j]:=by
    rcases l i x q with⟨h,B⟩|⟨_,rfl⟩
    . exact((I.i i x ah h B).g _ E).1
    . have:=List.length_pos_of_mem E;rw[rg0 (.inr (.inr rfl))]at this;cases this
   exact tE (JW ⟨O,Q x u _ E⟩) (tI bm λ_=>T () ah trivial)
  rcases l i x q with⟨p,B⟩|⟨D,rfl⟩
  . have d:=I.i i x ah p B;have lo':=d.o;have G:x.Op≠28:=ah;refine tD bN λ_=>tD bN λ_=> ?_;rw[N,show(x.Op==28)=false from by simp_all,show((i:Int)==(out.length:Int))=false from by simp;omega];refine tI bm λ_=>tE d.ob (tI bm λ_=>tE M ?_);unfold AZ.J2;obtain⟨y,y1,y2⟩:=V _ d.s.1 d.s.2;refine tI bm λ_=>tI (λh=>absurd (eq_of_beq h) G) λ_=>tI (λ_=> ?_) λh=>am;refine tE (JW (eW y1)) (tI bm λ_=>tE y1 ?_);rw[y2,show(t != t)=false from by simp];unfold AZ.J3;refine tI bm λ_=>tI (λP=> ?_) λ_=>tI (λe=> ?_) λ_=>z
    . have:=d.j (eq_of_beq P);refine tE (JW ah) (tI bm λ_=>tI (λe=> ?_) λ_=>z);simp_all
    . have:=d.b (eq_of_beq e);exact tE (JW ah) z
  . refine tD (λh=>by simp at h) λ_=>tD (λh=>by simp at h) λ_=> ?_;rw[N,D];simp only[ABM,Bool.not_true];refine tI bm λ_=>tE (objE rfl) (tI bm λ_=>tE (D▸M) ?_);rw[D]at z;unfold AZ.J2 AZ.J3;simp_all
 obtain⟨b,L,rfl⟩:=key;exact L
end
section
theorem fW(hi:i<nt):∀(S:mu)(m:Int)(R:mu),SN i m S->HY nt i m (S++R)=HY nt i (m+S.length) R:=by
 intro S;induction S with
 |nil=>simp_all
 |cons x r ih=>
  intro m R h;obtain⟨c,a⟩:=h 0 x rfl;have b:SN i (m+1) r:=λj y d=>by have:=h (j+1) y am;omega
  rw[ABE,HY,AAa ah,AAa ah,ih _ _ b,a];grind
theorem u9(hi:i<nt)(h:t<i\/t=i/\k=0)(a:SN i 0 S):∃b c,(b<i+1\/b=i+1/\c=0)/\∀R,HY nt t k (S++R)=HY nt b c R:=by
 rcases h with h|⟨rfl,rfl⟩
 . cases S with
   |nil=>exact⟨t,k,.inl ah,λ_=>rfl⟩
   |cons x r=>obtain⟨d,e⟩:=a 0 x rfl;have f:SN i 1 r:=λj y g=>(by have:=a (j+1) y (by simp_all);omega);refine⟨i,1+r.length,.inl ah,λR=> ?_⟩;rw[ABE,HY,AAa ah,AAb ah,d,fW hi _ _ _ f,e];simp
 . exact⟨t,0+S.length,.inl ah,λR=>fW hi _ _ _ a⟩
def Uo(p:AU)(i:Nat):Nat:=((p.AA.take i).map λt=>QL 4 t.dx).sum
def fJ(h:K<p.AA.length):Uo p (K+1)=Uo p K+QL 4 p.AA[K].dx:=gA h _
theorem jX(h:(p.AA.map λt=>QL 4 t.dx).sum<=60)(i:Nat):Uo p i<=60:=by
 have:((p.AA.map λt=>QL 4 t.dx)).sum=Uo p i+((p.AA.drop i).map λt=>QL 4 t.dx).sum:=by
  conv=>lhs;rw[<- ABS i p.AA,AA5,List.sum_append]
  rfl
 omega
theorem offP_mono(h:K<=n):Uo p K<=Uo p n:=by
 have:Uo p n=Uo p K+(((p.AA.take n).drop K).map λt=>QL 4 t.dx).sum:=by
  unfold Uo
  conv=>lhs;rw[<- ABS K (p.AA.take n),List.take_take,Nat.min_eq_left h,AA5,List.sum_append]
 omega
structure WV (p:AU) (N:Nat) (w:AF):Prop where
 c:w.df=MM
 l:w.AK=ZY
 d:w.Ak=[⟨cN,0⟩]
 f:w.AL=[⟨#[102]⟩]
 t:w.AA=(p.AA.take N).map (·.di)
 n:w.Be.length=Uo p N
 o:∀j k,j<N->Uo p j<=k->k<Uo p (j+1)->∃y,w.Be[k]? =some y/\y.cr=(j:Int)
 s:∃t n:Int,(t<N\/t=N/\n=0)/\∀R,HY p.AA.length 0 0 (w.Be++R)=HY p.AA.length t n R
theorem World_ok(h:MP p)(u:∃l,BF p=some (0,l))(C:(p.AA.map λt=>QL 4 t.dx).sum<=60):B5 (CA p) (WV p p.AA.length):=by
 obtain⟨l,u⟩:=u;have N:=h.t;unfold CA;refine tE u (tI bm λ_=> ?_);have key:∀D T,E7=some D->CA.AW ⟨D,T⟩ BT (AF.mk [] [] [] [] [] []) 0=CA.J4 ⟨D,T⟩ ⟨MM,ZY,[⟨cN,0⟩],[⟨#[102]⟩],[],[]⟩:=by
  intro D T x;unfold E7 at x;obtain rfl:=AAW x
  kernel_rfl
 rw[show CA.AW p BT (AF.mk [] [] [] [] [] []) 0=_ from key p.d9 p.AA h.d];unfold CA.J4;show B5 (CA.Gc p BT ⟨MM,ZY,[⟨cN,0⟩],[⟨#[102]⟩],[],[]⟩ 0) _;refine RI p.AA.length (λi w=>WV p i w) (F:=λn s i=>CA.Gc _ n s i) ah ⟨rfl,rfl,rfl,rfl,rfl,rfl,λj k h=>ah,0,0,.inr ⟨rfl,rfl⟩,λ_=>rfl⟩ λn i w hi a k=> ?_;unfold CA.Gc CA.L3 CA.J5;refine tD (λg=>gC ah ?_) λO=>tR ?_
 . have g:i<p.AA.length:=ah;have E:=fJ g;have G:=jX C (i+1);have hn:=a.n;refine tC (Bs (by rw[a.t];simp;omega)) (tB (sites_ok 4 _ _ _ _ _ (NT ah) ah ah (h.b _ (AAi g))) λv H=>k _ ah ?_);obtain⟨S,L,V,z,W⟩:=H;obtain⟨t,m,K,P⟩:=a.s;obtain⟨J,I,Q,U⟩:=u9 (nt:=p.AA.length) (i:=i) ah K z;refine⟨a.c,a.l,a.d,a.f,?_,?_,?_,J,I,ah,λR=> ?_⟩
   . simp only;rw[a.t,<- AAp g,AA5];rfl
   . simp_all
   . intro j q M r B;simp only;rw[L];by_cases e:j<i
     . have:=offP_mono (p:=p) (show j+1<=i by omega);rw[AA0 ah];exact a.o j q e r B
     . obtain rfl:j=i:=ah;rw[AAx ah];have y:q-w.Be.length<S.length:=ah;exact⟨S[q-w.Be.length],AAZ y,(z _ _ (AAZ y)).1⟩
   simp_all
 grind
theorem WV.names(a:WV p p.AA.length wv):wv.AA=p.AA.map (·.di):=by rw[a.t,List.take_length]
theorem worldS_ok(h:MP p)(o:(p.AA.map λt=>QL 4 t.dx).sum<=60)(a:WV p p.AA.length wv):Cy wv=true:=by
 obtain⟨n,z,B,nm⟩:=h.nm;have e:=a.names;rw[nm]at e;obtain⟨t,m,C,y⟩:=a.s;have b:=y [];rw[List.append_nil]at b;have x:p.AA.length=wv.AA.length:=by rw[a.names,AA6]
 rw[x]at b;have hn:=a.n;have q:=jX o p.AA.length;have g:=a.c;have i:=a.l;have j:=a.d;have k:=a.f;obtain⟨c,l,d,f,T,S⟩:=wv;simp only at g i j k e hn b;subst g i j k;have v:Aa MM=some ([⟨#[120]⟩,⟨#[121]⟩,⟨#[118]⟩,qS],true):=by decide +kernel
 have r:HY T.length 0 0 S=true:=b;have u:T=QM.take 1\/T=QM.take 2\/T=QM.take 3\/T=QM.take 4:=by
  have:n=1\/n=2\/n=3\/n=4:=ah
  rcases this with rfl|rfl|rfl|rfl<;>simp[e]
 unfold Cy;simp only[v,r];have hd:decide (S.length<=60)=true:=decide_eq_true ah;rw[hd];rcases u with rfl|rfl|rfl|rfl<;>(show @Eq Bool _ true;kernel_rfl)
theorem sP(h:MP p)(O:∃l,BF p=some (0,l)):B5 (A2 p) λr=>CK r.1/\CJ r.1=some true:=by
 obtain⟨q,hq,U⟩:=check60 h;have T:(p.AA.map λt=>QL 4 t.dx).sum<=60:=by obtain⟨l,O⟩:=O;rw[O]at hq;cases hq;exact U rfl
 have ht:=h.t
 let Q:Bj->Prop:=λc=>WV p p.AA.length c.cT/\c.AA.length=p.AA.length/\∀(j:Nat) t,c.AA[j]? =some t->VO c.cT j t
 have par:NJ (A2 p) λr=>Q r.1:=by
  obtain⟨l,S⟩:=O;unfold A2;refine pE S (pI bm λ_=>pB (pA (pT (dX h ⟨l,S⟩)) (pT (World_ok h ⟨l,S⟩ T))) λw B=> ?_);obtain⟨mw,B⟩:=B;have wf:WF (λs=>s∈p.AA.map (·.di)) w:=⟨B.c,B.l,B.d,B.f,λs X=>by rw[B.names];exact X,by rw[B.names,AA6];exact ht⟩;refine pLs p.AA.length (λi (s:Bj×Int)=>s.1.cT=w/\s.1.AA.length=i/\s.2=Uo p i/\∀(j:Nat) t,s.1.AA[j]? =some t->VO w j t) (F:=λn s i=>A2.AW p n s.1 s.2 i) (s0:=(_,_)) (λ_ _=>rfl) ah ⟨rfl,rfl,rfl,ak⟩ λn i s hi X k=> ?_;obtain⟨G,s2,s3,s4⟩:=X;unfold A2.AW A2.L1 A2.J4;refine pD (λH=>pE (B4 ah) ?_) λqK=>pR ⟨by simp only;rw[G];exact B,aA,by simp only;rw[G];exact s4⟩;have H:i<p.AA.length:=ah
  have L:p.AA[i]∈p.AA:=AAi H;have ho1:=fJ H;have ho2:=jX T (i+1);have hc:cg 4=336840:=rfl;have g0:GB (BL.mk s.1.cT p.AA[i].G0 [] 0 s.2) 4000000:=⟨by rw[G];exact mw,h.l _ L,ak⟩;refine pB (pA (pT (Y5 4 _ _ _ (NT ah) (g0.less ah) (h.b _ L))) (stmts_par 4 _ _ (NT ah) (h.b _ L) ⟨s.1.cT,p.AA[i].G0,[],0,s.2⟩ ⟨by rw[G];exact wf,h.lo _ L⟩ aA)) λv hv=>pB (put_eq _) λu hu=> ?_;obtain⟨v0,v1,v2⟩:=hv;have v0:=v0.b;simp only[ABc]at v0;have W:(u.dq.length:Int)=2:=by rw[hu];simp only;rw[v1.l];simp only;rw[h.lo _ L];rfl
  have R:u.dr=v.dr++[⟨28,0,0,0,0, -1⟩]:=by rw[hu]
  have sg:=v1.s;simp only[ABc,G,s3]at sg;have v2':v.next=Uo p (i+1):=by rw[v2];simp only;omega
  have rb:∀y∈u.dr,∀r∈rg y,0<=r/\r<32:=by
   intro y x r e;rw[R]at x;rcases AAo.1 x with x|x
   . obtain⟨m,m1,m2⟩:=ABX x;exact(sg.i m y ah m1 (by rw[AAZ m1,m2])).g r e
   . rw[AAw.1 x,rg0 (.inr (.inr rfl))]at e;cases e
  rw[W];have jF:u.dr.length<1000000000000:=by rw[R];simp;omega
  refine pLs u.dr.length (λk (t:A5)=>t.B8=u.dr/\(2<=t.C3/\t.C3<=32)/\∀y∈u.dr.take k,∀r∈rg y,r<t.C3) (F:=λn t k=>A2.CC _ _ _ _ _ n t k) (λ_ _=>rfl) jF ⟨rfl,ak,ak⟩ λm q t hq2 Z k2=> ?_;obtain⟨t1,t2,t3⟩:=Z;unfold A2.CC A2.L2 A2.J2 A2.J3;refine pD (λhlt2=>pE (B4 ah) ?_) λhge2=>pC λ_=>k (_,_) ah ⟨G,an,v2',?_⟩
  . have x:u.dr[q]∈u.dr:=AAi ah;have ry:=rb _ x;have K:q<u.dr.length:=ah;have tk:=AAp K;generalize u.dr[q]=y at x ry tk;refine pE (HC y).1 (pLs (rg y).length (λl (t:A5)=>t.B8=u.dr/\(2<=t.C3/\t.C3<=32)/\(∀y∈u.dr.take q,∀r∈rg y,r<t.C3)/\∀r∈(rg y).take l,r<t.C3) (F:=λn t k=>A2.Gc _ _ _ n t k) (λ_ _=>rfl) (by have:=(HC y).2;omega) ⟨t1,t2,t3,ak⟩ λm3 M D hq3 ht3 k3=> ?_);obtain⟨x1,x2,x3,x4⟩:=ht3;unfold A2.Gc A2.L3 A2.J1;refine pD (λhlt3=>pE (B4 ah) ?_) λhge3=>k2 _ K ⟨x1,x2,λz C r e=> ?_⟩
    . have e:(rg y)[M]' ah∈rg y:=AAi ah;have V:=ry _ e;have N:=AAp (show M<(rg y).length by omega);generalize (rg y)[M]' ah=r at e V N;rw[CG ah ah];have J:∀z,(if r+1>D.C3 then r+1 else D.C3)=z->D.C3<=z/\r<z/\z<=32:=by intro z C;split at C<;>omega
      generalize C:(if r+1>D.C3 then r+1 else D.C3)=z
      obtain⟨z1,z2,z3⟩:=J z C;refine k3 _ ah ⟨x1,aA,λy x r e=>by have:=x3 y x r e;simp only;omega,?_⟩;rw[<- N];intro a I;rcases AAo.1 I with I|I
      . have:=x4 a I;simp only;omega
      . rw[AAw.1 I];exact z2
    . rw[<- tk]at C;rcases AAo.1 C with C|C
      . exact x3 z C r e
      . rw[AAw.1 C]at e;rw[AA3 ah]at x4;exact x4 r e
  . intro j D E;simp only at E;by_cases hj:j<s.1.AA.length
    . rw[AA0 hj]at E;exact s4 j D E
    . have:=(AAV.1 E).1;simp at this;obtain rfl:j=s.1.AA.length:=ah;rw[show(s.1.AA++[t])[s.1.AA.length]? =some t from by simp]at E;obtain rfl:=AAW E;rw[s2];rw[AA3 ah]at t3;refine⟨t2,⟨v.dr,_,_,by rw[t1,R],sg,λk k1 k2=> ?_⟩,by rw[t1];exact t3⟩;obtain⟨k,rfl⟩:∃m:Nat,k=m:=⟨k.toNat,ah⟩;rw[Jz];exact B.o i k H ah ah
 obtain⟨r,e,P⟩:=nA h;refine⟨r,e,P,?_⟩;obtain⟨q1,q2,M⟩:=par r e;have hl:r.1.AA.length=r.1.cT.AA.length:=by rw[q2,q1.names,AA6]
 have hn:=P.n;have key:B5 (CJ r.1) λb=>b=true:=by unfold CJ;refine tE (Ky _) ?_;rw[worldS_ok h T q1];refine tI bm λ_=> ?_;rw[hl,show((r.1.cT.AA.length:Int) != r.1.cT.AA.length)=false from by simp];unfold CJ.J1;refine tI bm λ_=>RI r.1.AA.length (λ_ (_:Unit)=>True) (s0:=()) (F:=λn _ i=>CJ.AW r.1 n i) ah trivial λn i _ hi _ k=> ?_;unfold CJ.AW CJ.L1 CJ.J2;refine tD (λH=>gC ah ?_) λ_=>tR rfl;refine tE (WM (P.i _ (AAi ah)) (M i _ (AAZ ah))) (tI bm λ_=>k () ah trivial)
 obtain⟨b,V,rfl⟩:=key;exact V
end
theorem Code_ok(d:l.length<=4000000000000000000)(e:∀x∈l,0<=x/\x<256):B5 (Od l) λc=>CK c/\CJ c=some true:=by unfold Od;exact tB (l8 d e) λp a=>tB (sP a.1 a.2) λc b=>tR b
theorem Trace_wf(g:l.length<=4000000000000000000)(j:∀x∈l,0<=x/\x<256)(i:d.length<=1000):B5 (M6 l d) λt=>TA d.length t/\Cy t.cT=true:=by unfold M6;refine tB (Code_ok g j) λc b=>tB (lW i) λp o=>tB (tP (Run_ok b.1 ah) (Q:=λr=>Cy r.1.cT=true) ?_) λr a=>tR ⟨⟨⟨by have:=a.1.m.n;omega,a.1.m.e,a.1.m.w⟩,a.1.c⟩,a.2⟩;obtain⟨v,s,f⟩:=RU b.1;rw[b.2]at s;have k:=f (AAW s).symm;unfold Ml;exact pE b.2 (pI bm λ_=>pB' λ_=>pB' λ_=>pR k.w)
theorem Check_ok{t:Ca}(a:TA n t)(hn:n<=400)(b:Cy t.cT=true):Jq t=(0,0):=by have:=a.m.n;unfold Jq;rw[AAa ah,AAb b,a.c]
theorem sceneW_m:Fw.Ak.all (λc=>Cp c.dm Fw.AK.length)=true:=by decide +kernel
structure SL (s:AD):Prop where
 l:s.de.AK.length=3
 d:s.de.Bp.length=1
 t:s.de.AA.length=4
 c:s.df.length=5
 u:s.AL.length=1
 n:s.dc.length=4
 r:RB 1 s.de
theorem SL.sc{s:AD}(h:SL s):SC 1 s:=by refine⟨?_,h.r⟩;simp only[JD,HJ,AAT,AAh,aH,VU,VS,h.d,h.t,h.c,h.u,h.n,and_self,and_true];exact⟨sceneW_m,by rw[h.l,aI]⟩
theorem eE(b:DX v)(x:Int)(d:l.length<=900):B5 (HO v x l) λr=>(-1<=r.1/\r.1<l.length)/\DX r.2:=by unfold HO HO.J1;rw[CG (n:=(l.length:Int)+2) ah ah];refine tB (FB b ah) ?_;rintro t ⟨e,a,_⟩;rw[CG (n:=t.1-2) ah ah];refine tI (λh=> ?_) λh=>tG aS λy _=>tI (λ_=>tR ⟨ah,a.1⟩) λ_=>tR ⟨aS,a.1⟩;exact tI (λ_=>tR ⟨ah,a.1⟩) λh=>by cases h
abbrev BG(o:ABu (AD×AX)):Prop:=B5 o λr=>SL r.1/\DX r.2
theorem Yj(e:DX v){s:AD}(g:SL s):BG (Aj.bT v s):=by
 have o:=BP;have key:∀(n i:Nat)(v:AX)(f:AD),5<n+i->i<=5->DX v->SL f->BG (Aj.Gc s n v f i):=by
  intro n;induction n with
  |zero=>omega
  |succ n ih=>
   intro i v f k m e b;unfold Aj.Gc Aj.L3 Aj.vY;refine tI (λh=> ?_) λ_=>tR ⟨b,e⟩;have h:=AAc h
   have:=g.c;have:=b.c;refine tB (FB e ah) ?_;rintro a ⟨_,j,_⟩;rw[Af ah];exact tG ah λx _=>ih (i+1) _ _ ah ah j.1 ⟨b.l,b.d,b.t,am,b.u,b.n,b.r⟩
 exact key BT 0 v s ah ah e g
theorem WX(g:DX v){s:AD}(e:SL s):BG (Aj.QP v s):=by
 unfold Aj.QP;refine tB (FB g ah) ?_;rintro a ⟨_,f,_⟩
 have:=e.d;have:=e.u;refine tI (λ_=>tG ah λx _=>tB (FB f.1 ah) ?_) λ_=>Yj f.1 e;rintro b ⟨_,bA,_⟩;exact tG ah λx _=>Yj bA.1 ⟨e.l,am,e.t,e.c,am,e.n,e.r⟩
theorem rT(g:DX v){s:AD}(e:SL s):BG (Aj.J9 v s):=by unfold Aj.J9;refine tB (FB g ah) ?_;rintro a ⟨_,f,_⟩;refine tI (λ_=>tB (eE f.1 _ (by have:=e.n;omega)) ?_) λ_=>WX f.1 e;rintro b ⟨_,bA⟩;exact WX bA ⟨e.l,e.d,e.t,e.c,e.u,e.n,e.r⟩
theorem SL.lock{s:AD}(h:SL s)(i:Nat)(x:AY)(b:x.An.length<=1):SL (AD.mk (AQ.mk (s.de.AK.set i x) s.de.Tx s.de.Bp s.de.AA) s.df s.AL s.dc):=by
 refine⟨by simpa using h.l,h.d,h.t,h.c,h.u,h.n,?_⟩;intro y a;rcases mem_set a with a|rfl
 . exact h.r y a
 . exact b
theorem rS(g:DX v){s:AD}(q:SL s):BG (Aj.J5 v s):=by
 have D:=BP;have key:∀(n i:Nat)(v:AX)(f:AD),3<n+i->i<=3->DX v->SL f->BG (Aj.CC s n v f i):=by
  intro n;induction n with
  |zero=>omega
  |succ n ih=>
   intro i v f B C g e;unfold Aj.CC Aj.L2;refine tI (λh=> ?_) λ_=>rT g e;have h:=AAc h
   have:=q.l;have:=e.l;have:=e.t;have:=e.n;have j:∀c m,DX c->SL m->BG (Aj.J8 (Aj.CC s n) i c m):=(by intro c m d y;unfold Aj.J8;rw[Af (by omega)];exact ih (i+1) _ _ (by omega) (by omega) d y);refine tB (eE g _ ah) ?_;rintro a ⟨a0,k⟩;refine tI (λ_=>j _ _ k e) λp=> ?_;have p:=of_decide_eq_false p;have o:∀c z,DX c->BG (Aj.J7 (Aj.CC s n) f i c a z):=(by intro c z d;unfold Aj.J7;exact tI (λ_=>j _ _ d e) λ_=>tG ah λx u=>j _ _ d (e.lock _ _ (e.r x u)));have w:∀c z,DX c->BG (Aj.J6 (Aj.CC s n) f i a c z):=(by intro c z d;unfold Aj.J6;exact tI (λ_=>tG ah λx u=>j _ _ d (e.lock _ _ ak)) λ_=>tI (λ_=>tG ah λx _=>tI (λ_=>o _ _ d) λ_=>o _ _ d) λ_=>o _ _ d);refine tI (λ_=>tB (FB k ah) ?_) λ_=>w _ _ k;rintro b ⟨_,bA,_⟩;exact w _ _ bA.1
 exact key BT 0 v s ah ah g q
def SL.thr{s:AD}(h:SL s)(b:C.length=4)(a:l.length=4):SL (AD.mk (AQ.mk s.de.AK s.de.Tx s.de.Bp C) s.df s.AL l):=⟨h.l,h.d,b,h.c,h.u,a,h.r⟩
theorem bV(s:DX v):BG (Aj v Fw):=by
 have a:=BP;unfold Aj;rw[K5 Fw aJ,AAS];have f:SL (Hi Fw):=by refine⟨?_,?_,?_,?_,?_,?_,RB.mono (RB.start Fw) ah⟩<;>simp[Hi,KS,aI,aH,VU,VS]
 generalize Hi Fw=p at f;have key:∀(n i:Nat)(u:AX)(b:AD),4<n+i->i<=4->DX u->SL b->BG (Aj.AW p n u b i):=by
  intro n;induction n with
  |zero=>omega
  |succ n ih=>
   intro i u b B C k a;unfold Aj.AW Aj.L1;refine tI (λh=> ?_) λ_=>rS k a;have h:=AAc h
   have:=f.n;have:=a.n;have:=a.t;have m:∀g e,DX g->SL e->BG (Aj.J4 (Aj.AW p n) i g e):=(by intro g e q r;unfold Aj.J4;rw[Af (by omega)];exact ih (i+1) _ _ (by omega) (by omega) q r);refine tB (FB k ah) ?_;rintro j ⟨j0,o,_⟩;refine tG ah λy _=> ?_;have D:∀t,BG (Aj.J2 (Aj.AW p n) b i j t):=(by intro t;have l:∀v,BG (Aj.J3 (Aj.AW p n) b t i j v):=(by intro v;unfold Aj.J3;refine tI (λ_=>tB (FB o.1 ah) ?_) λ_=>m _ _ o.1 (a.thr am a.n);rintro z ⟨_,c,_⟩;refine tG ah λx _=>tB (FB c.1 ah) ?_;rintro w ⟨_,d,_⟩;exact tG an λx _=>m _ _ d.1 (a.thr am am));unfold Aj.J2;exact tG ah λx _=>tI (λ_=>l _) λ_=>l _);unfold Aj.J1;grind
 exact key BT 0 v p ah ah s f
def TC(l:iq):Prop:=∀x∈l,0<=x/\x<256
theorem tape_of(a:l.length<=4000000000000000000)(h:TC l):DX ⟨l,0⟩:=⟨a,⟨Int.le_refl _,ak⟩,h⟩
structure WG (w:AG):Prop where
 v:MJ w=true
 e:∀e∈w.AB,KE e
 r:RB 1000 w.db.de
theorem Ol(e:TC l)(q:t<=16)(m:0<=t):B5 (D1 l t) WG:=by
 have s:=BP;have j1:∀i:List Int,i.length<=400->TC i->B5 (D1.J1 t i) WG:=by
  intro i hi hi';unfold D1.J1;rw[fV,AAS];refine tB (bV (tape_of ah hi')) ?_;rintro c ⟨cS,j⟩;have key:∀(n d:Nat)(a:Int),4<n+d->d<=4->B5 (D1.AW t c n ⟨Fw,a,c.1,[]⟩ d) WG:=by
   intro n;induction n with
   |zero=>omega
   |succ n ih=>
    intro d a o p
    have:=cS.n;unfold D1.AW D1.L1;refine tI (λh=> ?_) λ_=> ?_
    . have h:=AAc h;rw[Af ah];exact tG ah λb _=>ih (d+1) _ ah ah
    . unfold D1.J2;refine tB (play_tot j (cS.sc.mono ah) ah true) ?_;rintro f ⟨u,g⟩;rw[rValid_eq (w:=⟨Fw,a,c.1,f.1⟩) g (RB.mono cS.r ah),AAS];refine tI (λ_=> ?_) λh=>tR ⟨aS,g,RB.mono cS.r ah⟩;rw[fV,AAS,AAS,K5 Fw aJ,AAS];exact tR ⟨by decide +kernel,ak,RB.mono (RB.start Fw) ah⟩
  exact key BT 0 0 ah ah
 unfold D1;refine tI (λh=> ?_) λh=>j1 _ aS e;have h:=AAc h;exact tC ah (j1 _ an λx k=>e x (ABp k))
structure rC (v:Kk):Prop where
 p:TC v.ed
 s:TC v.GM
 c:TC v.mA
 z:0<=v.B3/\v.B3<256
 w:0<=v.dW/\v.dW<256
theorem madeAT{t:Ca}(h:TA n t)(hn:n<=400)(b:Cy t.cT=true):AT t:=AT.of (λe a=>(h.m.e e a).ok) (by rw[Check_ok h hn b])
theorem XG{v:Kk}(a:rC v)(r:0<t)(F:t<=16)(u:v.ed.length<=4000000000000000000):B5 (EM v t) WG:=by
 have C:((A6 v.B3).tmod t:Int)=v.B3.tmod t:=by rw[CG (by have:=a.z;omega) (by have:=a.z;omega)]
 have D:0<=v.B3.tmod t:=Int.tmod_nonneg _ a.z.1;have E:v.B3.tmod t<t:=Int.tmod_lt_of_pos _ r;unfold EM;rw[C,CG (n:=1+v.B3.tmod t) ah ah];refine tI (λ_=>tC ah (tB (Ol a.c ah ah) λw b=>tR b)) λ_=> ?_;have o:0<=(if 80<(v.GM.length:Int)then 80 else(v.GM.length:Int))/\((if 80<(v.GM.length:Int)then 80 else(v.GM.length:Int)).toNat)<=v.GM.length/\((if 80<(v.GM.length:Int)then 80 else(v.GM.length:Int)).toNat)<=80:=by split<;>omega
 refine tC ⟨o.1,o.2.1⟩ (tB (Trace_wf u a.p (by rw[List.length_take];omega)) ?_);rintro m ⟨g,g2⟩;have f:AT m:=madeAT g (by rw[List.length_take];omega) g2;have s:=f.l;refine tC ah ?_;rw[rSplit_eq m (λe i=>(g.m.e e i).ok),AAS];have y:kV m (1+v.B3.tmod t)=(Pj m (1+v.B3.tmod t).toNat m.AB.length,0):=by unfold kV;rw[AAa (by rw[f.check];simp),AAa ah]
 rw[y];have o:=winN_le (k:=(1+v.B3.tmod t).toNat) ah m.AB.length;have q:=dP m (1+v.B3.tmod t).toNat m.AB.length;refine tI (λ_=>tB (Ol (by intro x B;cases B) ah ah) λw b=>tR b) λh=> ?_;have h:¬((Pj m (1+v.B3.tmod t).toNat m.AB.length).length:Int)=0:=by simpa using h
 refine tC h ?_;rw[CG (n:=v.dW) (by have:=a.w;omega) (by have:=a.w;omega)];refine tG ⟨Int.tmod_nonneg _ a.w.1,Int.tmod_lt_of_pos _ (by show(0:Int)<((Pj m (1+v.B3.tmod t).toNat m.AB.length).length:Int);omega)⟩ λw b=>tR ?_;unfold Pj at b;obtain⟨j,d,rfl⟩:=ABh.1 b;have d:=ABo.1 d;have hi:j*(1+v.B3.tmod t).toNat<=m.AB.length:=by
  unfold lG at d
  have:=(Nat.le_div_iff_mul_le ah).1 (show j+1<=_ from d);rw[ABm]at this;omega
 exact⟨vP f.w s f.c ah hi,λe i=>(g.m.e e (List.mem_of_mem_drop (ABp i))).ok,RB.mono (AT.rb _ hi) ah⟩
def dQ(wv:AF):AD->List AH->Prop
 |_,[]=>True
 |s,e::r=>Hc wv s e=true/\dQ wv (F7 wv s e) r
theorem dQ.step{wv:AF}(d:Small wv){s:AD}{N:Nat}(c:RB N s.de)(a:N<=1000000){e:AH}(b:KE e)(f:Hc wv s e=true):Bu wv s e=some (F7 wv s e,true)/\B1 wv s e=some (F7 wv s e,true):=by rw[X6 wv d s (c.mono a) e b,Qu wv d s (c.mono a) e b];unfold P5;rw[AAb f];exact⟨rfl,rfl⟩
theorem dQ.of:∀{l:jm}{s:AD},(∀(i:Nat)(hi:i<l.length),Hc wv ((l.take i).foldl (F7 wv) s) l[i]=true)->dQ wv s l:=by
 intro l;induction l with
 |nil=>intro s _;trivial
 |cons e r ih=>intro s h;exact⟨h 0 ak,ih λi hi=>h (i+1) (by simpa using hi)⟩
theorem posW_poss:∀{c pre:jm}{s:AD},V4 wv l pre s c=true->dQ wv s c:=by
 intro c;induction c with
 |nil=>intro pre s _;trivial
 |cons e r ih=>intro pre s h;unfold V4 at h;simp only[AAT]at h;exact⟨h.1,ih h.2.2⟩
structure WV2 (w:AG):Prop where
 s:Small w.cT
 n:w.AB.length<=16
 p:dQ w.cT w.db w.AB
theorem Vc(h:MJ w=true):WV2 w:=by unfold MJ at h;simp only[AAT,AAl]at h;exact⟨Di h.1,h.2.2.1,posW_poss h.2.2.2.2⟩
def Wl(wv:AF)(t kk o k:Int)(x:AY):AY:=
 if(kk=6\/kk=10)/\k=o\/kk=17/\k=(ix wv.Ak o).dm then⟨t,x.An⟩
 else if(kk=7\/kk=11)/\k=o\/kk=16/\k=(ix wv.Ak o).dm then⟨-1,x.An⟩
 else if kk=8/\k=o then⟨x.B9,OI (x.An++[t])⟩
 else if kk=9/\k=o then⟨x.B9,x.An.filter λy=> !(y==t)⟩
 else x
theorem setT_L(s:AQ)(t:Int)(g:AM->AM):(LC s t g).AK=s.AK:=rfl
def kQ(hi:Cp i s.AK.length=true)(a:Cp k s.AK.length=true)(f:AY->AY):ix (LB s i f).AK k=if k=i then f (ix s.AK i)else ix s.AK k:=My hi a
theorem mL(n:Cp k s.AK.length=true):∀wake,(wake=6\/wake=7\/wake=8\/wake=9\/wake=10\/wake=11->Cp o s.AK.length=true)->(wake=16\/wake=17->Cp (ix wv.Ak o).dm s.AK.length=true)->
 ix (DR wv s t wake o a).1.AK k=Wl wv t wake o k (ix s.AK k):=by
 refine kinds ?_ ?_ ?_ ?_ ?_ ?_ ?_ ?_ ?_ ?_ ?_ ?_ ?_ ?_ ?_ ?_ ?_ ?_ ?_ ?_ ?_ ?_ ?_ (λwake q r u v w x y z B b c F d e f E g i j D l G m=> ?_)
 all_goals
  intro C p;unfold DR Wl
 all_goals first
  | (simp(decide:=true)only[AAy,AAk,or_true,true_or,ABK,false_or,true_and,false_and,LC];done)
  | (simp(decide:=true)only[AAy,AAk,or_true,true_or,ABK,false_or,true_and,false_and];rw[kQ (C ah) n];simp_all)
  | (simp(decide:=true)only[AAy,AAk,or_true,true_or,ABK,false_or,true_and,false_and];refine(kQ (p ah) n _).trans ?_;split<;>rename_i h<;>simp only[h,AAy,AAk];done)
  | (simp(decide:=true)only[AAy,AAk,or_true,true_or,ABK,false_or,true_and,false_and];split<;>rfl)
  | (simp only[q,r,u,v,w,x,y,z,B,b,c,F,d,e,f,E,g,i,j,D,l,G,m,AAk,or_self,false_and];done)
  |skip
 all_goals
  simp(decide:=true)only[AAy,AAk,or_true,true_or,ABK,false_or,true_and,false_and];rw[setT_L,kQ (p ah) n];simp_all
theorem XC(c:B7 wv s t a o=true)(e:Cp k wv.AK.length=true):ix (DR wv s t a o i).1.AK k=Wl wv t a o k (ix s.AK k):=by
 unfold B7 at c;simp only[AAT]at c;obtain⟨d,_,b,_⟩:=c;have f:=(EO d).1;have g:=λh=>Ho d (o:=o) h;rw[<- f]at e g;refine mL e a (λh=> ?_) λh=>g ?_
 . rw[f];unfold Bm at b;rcases h with h|h|h|h|h|h<;>subst h<;>simp(decide:=true)only[AAy,AAk,or_true,true_or,ABK,AAT]at b<;>exact b.1
 . unfold Bm at b;grind
def x6(t:Int)(x:AY):Bool×Bool:=(x.B9==t,x.An.contains t)
def ownF(wv:AF)(kk o k:Int)(p:Bool×Bool):Bool×Bool:=
 if(kk=6\/kk=10)/\k=o\/kk=17/\k=(ix wv.Ak o).dm then(true,p.2)
 else if(kk=7\/kk=11)/\k=o\/kk=16/\k=(ix wv.Ak o).dm then(false,p.2)
 else if kk=8/\k=o then(p.1,true)
 else if kk=9/\k=o then(p.1,false)
 else p
def XI(wv:AF)(s:AQ):Prop:=∀k,Cp k wv.AK.length=true->(ix s.AK k).An≠[]->(ix wv.AK k).RW=true/\(ix s.AK k).B9= -1
def MQ(wv:AF):Prop:=∀o,Cp o wv.Ak.length=true->(ix wv.AK (ix wv.Ak o).dm).RW=false
theorem own_eq(c:0<=t)(x:AY):x6 t (Wl wv t a o k x)=ownF wv a o k (x6 t x):=by
 have b:((-1:Int)==t)=false:=an
 unfold Wl ownF x6;split
 . simp
 . split
   . simp[b]
   . split
     . have:(OI (x.An++[t])).contains t=true:=(by rw[AAu,Kg];simp);simp_all
     grind
theorem Zj(b:B7 wv s t a o=true):
 (a=6->(ix s.AK o).B9= -1/\(ix wv.AK o).RW=false)/\(a=10->(ix s.AK o).B9= -1/\(ix s.AK o).An=[])/\(a=8->(ix s.AK o).B9= -1/\(ix wv.AK o).RW=true)/\(a=7\/a=11->(ix s.AK o).B9=t)/\
 (a=16->(ix s.AK (ix wv.Ak o).dm).B9=t/\Cp o wv.Ak.length=true)/\(a=17->(ix s.AK (ix wv.Ak o).dm).B9= -1/\Cp o wv.Ak.length=true):=by
 unfold B7 at b;simp only[AAT]at b;obtain⟨_,_,c,d⟩:=b;unfold Bm at c;unfold Jh at d;refine⟨λh=> ?_,λh=> ?_,λh=> ?_,λh=> ?_,λh=> ?_,λh=> ?_⟩
 . simp_all
 . simp_all
 . simp_all
 . grind
 all_goals simp_all
theorem other_eq(d:B7 wv s i a o=true)(j:0<=t)(hn:i≠t):x6 t (Wl wv i a o k (ix s.AK k))=x6 t (ix s.AK k):=by
 obtain⟨l,f,n,m,g,u⟩:=Zj d;have b:((-1:Int)==t)=false:=an
 have c:(i==t)=false:=by simpa using hn
 unfold Wl x6;split
 . rename_i h;have:(ix s.AK k).B9= -1:=by
    rcases h with⟨h|h,rfl⟩|⟨h,rfl⟩
    . omega
    . omega
    . omega
   simp only[this,b,c]
 . split
   . grind
   . split
     . have:(OI ((ix s.AK k).An++[i])).contains t=(ix s.AK k).An.contains t:=(by rw[ABs,AAu,AAu,Kg];simp only[AAo,AAw];exact⟨λh=>h.resolve_right λe=>hn e.symm,.inl⟩);simp_all
     grind
theorem XI.apply(g:MQ wv)(h:XI wv s){wake:Int}(d:B7 wv s t k o=true):XI wv (DR wv s t k o wake).1:=by
 intro f e;obtain⟨m,j,p,n,l,c⟩:=Zj d;rw[XC d e];have b:=h f e;unfold Wl;split
 . rename_i a;intro i;have b:=b i;rcases a with⟨a|a,rfl⟩|⟨a,rfl⟩
   . simp_all
   . simp_all
   . rw[g _ (c a).2]at b;cases b.1
 grind
def HF(wv:AF)(t k:Int)(l:jm)(p:Bool×Bool):Bool×Bool:=l.foldl (λp e=>if e.cr=t then ownF wv e.da e.dn k p else p) p
theorem HF_snoc(wv:AF)(t k:Int)(l:jm)(e:AH)(p:Bool×Bool):HF wv t k (l++[e]) p=if e.cr=t then ownF wv e.da e.dn k (HF wv t k l p)else HF wv t k l p:=by unfold HF;simp_all
theorem HF_skip(wv:AF)(t k:Int){l r:jm}(h:∀e∈r,e.cr≠t)(p:Bool×Bool):HF wv t k (l++r) p=HF wv t k l p:=by
 unfold HF;rw[List.foldl_append];generalize l.foldl _ p=q;revert q;induction r with
 |nil=>grind
 |cons e r ih=>simp_all
theorem poss_en{s:AD}(h:Hc wv s e=true):B7 wv s.de e.cr e.da e.dn=true:=by unfold Hc at h;simp_all
theorem rec_hold(n:MQ wv)(f:0<=t)(m:Cp k wv.AK.length=true):∀(l:jm){s:AD},dQ wv s l->XI wv s.de->∀i,i<=l.length->
 XI wv ((l.take i).foldl (F7 wv) s).de/\x6 t (ix ((l.take i).foldl (F7 wv) s).de.AK k)=HF wv t k (l.take i) (x6 t (ix s.de.AK k)):=by
 intro l;induction l with
 |nil=>intro s _ b i _;simpa[HF]using b
 |cons e r ih=>
  intro s d b i hi;cases i with
  |zero=>exact⟨b,rfl⟩
  |succ i=>
   have c:=poss_en d.1;have g:XI wv (F7 wv s e).de:=b.apply n c;obtain⟨h,j⟩:=ih d.2 g i am;refine⟨h,?_⟩;rw[List.take_succ_cons,List.foldl_cons,j];unfold HF;rw[List.foldl_cons];congr 1;show x6 t (ix (DR _ _ _ _ _ _).1.AK k)=_;rw[XC c m];by_cases a:e.cr=t
   . rw[AAb a,a,own_eq f]
   . rw[AAa a,other_eq c f a]
instance:Inhabited FC:=⟨⟨0,false⟩⟩
structure WQ (w:AG):Prop where
 g:WG w
 f:WinF w
theorem WG.q(h:WG w):WQ w:=by refine⟨h,?_⟩;have a:=h.v;unfold MJ at a;simp only[AAT,AAl]at a;exact⟨a.1,a.2.1,a.2.2.1⟩
def NX(w:AG)(c:Ac)(t r:Int):Prop:=
 (r= -1/\∀(i:Nat)(hi:i<w.AB.length),w.AB[i].cr=t->(i:Int)∈c.du)\/
 ∃(i:Nat)(hi:i<w.AB.length),r=i/\w.AB[i].cr=t/\(i:Int)∉c.du/\∀(j:Nat)(hj:j<i),w.AB[j].cr=t->(j:Int)∈c.du
theorem Next19_tot(hn:w.AB.length<=16)(q:c.du.length<=1000)(t:Int):B5 (Gj w c t) (NX w c t):=by
 have o:=BP;have key:∀(n i:Nat),w.AB.length<n+i->i<=w.AB.length->(∀(j:Nat)(a:j<w.AB.length),j<i->w.AB[j].cr=t->(j:Int)∈c.du)->B5 (Gj.AW c t w n i) (NX w c t):=by
  intro n;induction n with
  |zero=>omega
  |succ n ih=>
   intro i l m d;unfold Gj.AW Gj.L1 Gj.J1 Gj.J2;refine tI (λh=> ?_) λh=>tR (.inl ⟨rfl,λj a=>d j a aS⟩);have h:=AAc h;have hi:i<w.AB.length:=ah;rw[B4 hi,AAS,Af ah];have b:(w.AB[i].cr=t->(i:Int)∈c.du)->B5 (Gj.AW c t w n ((i+1:Nat):Int)) (NX w c t):=by
    intro p;refine ih (i+1) ah ah λj a k=> ?_;by_cases e:j<i
    . simp_all
    . grind
   refine tI (λg=> ?_) λg=>tI bm λ_=>b λe=>absurd e am;rw[qF _ _ ah,AAS];refine tI (λf=>tR (.inr ⟨i,hi,rfl,am,am,λj a=>d j ah a⟩)) λf=>b λ_=>am
 exact key BT 0 ah ah (λj a h=>ah)
theorem Nth_tot(hn:w.AB.length<=16)(t d:Int):B5 (Gx w t d) λ_=>True:=by
 have c:=BP;have key:∀(n i:Nat)(d:Int),w.AB.length<n+i->i<=w.AB.length->B5 (Gx.AW t w n d i) λ_=>True:=by
  intro n;induction n with
  |zero=>omega
  |succ n ih=>intro i d a b;unfold Gx.AW Gx.L1 Gx.J1 Gx.J2;refine tI (λh=> ?_) λ_=>tR trivial;have h:=AAc h;rw[Af ah];exact tG ah λx _=>tI (λ_=>tI (λ_=>tR trivial) λ_=>ih (i+1) _ ah ah) λ_=>ih (i+1) _ ah ah
 exact key BT 0 d ah ah
theorem FixedAll_tot(hn:w.AB.length<=16)(c:Ac)(t:Int)(g:l.length<4611686018427387904):B5 (EY w c t l) λ_=>True:=by
 have f:=BP;have j1:∀z,(z=false->0<=t/\t<w.db.dc.length)->B5 (EY.J1 c l t w z) λ_=>True:=by
  intro z e;unfold EY.J1;refine tI (λ_=>tR trivial) λh=> ?_;have j:=e h;have key:∀(n i:Nat),l.length<n+i->i<=l.length->B5 (EY.AW c l t w n i) λ_=>True:=by
   intro n;induction n with
   |zero=>omega
   |succ n ih=>
    intro i b d;unfold EY.AW EY.L1;refine tI (λh=> ?_) λ_=>tR trivial;have h:=AAc h;have a:∀z,B5 (EY.J2 (EY.AW c l t w n) i z) λ_=>True:=(by intro z;unfold EY.J2 EY.J3;rw[Af (by omega)];exact tI (λ_=>tR trivial) λ_=>ih (i+1) (by omega) (by omega));refine tG ah λx _=>tG ah λy _=>tI (λ_=> ?_) λ_=>tB (Nth_tot hn t _) λr _=>tI (λ_=>a _) λb=>tI (λ_=>a _) λd=>tG ?_ λz _=>a _
    . unfold EY.J3;rw[Af ah];exact ih (i+1) ah ah
    simp_all
  exact key BT 0 ah ah
 unfold EY;grind
structure GIw (w:AG) (K:Nat) (c:Ac):Prop where
 f:HJ w.cT c.de=true
 r:RB (1000+K) c.de
 l:c.df.length=w.cT.df.length
 u:c.AL.length=w.cT.AL.length
 x:c.Ej.length=w.AB.length
 k:c.Nw.length=w.AB.length
 o:c.du.length<=K
 p:∀(i j:Nat)(hi:i<j)(hj:j<w.AB.length),w.AB[i].cr=w.AB[j].cr->(j:Int)∈c.du->(i:Int)∈c.du
 h:∀t k,0<=t->Cp k w.cT.AK.length=true->∀m,m<=w.AB.length->(∀(i:Nat)(hi:i<w.AB.length),w.AB[i].cr=t->((i:Int)∈c.du↔i<m))->x6 t (ix c.de.AK k)=HF w.cT t k (w.AB.take m) (x6 t (ix w.db.de.AK k))
 X:XI w.cT c.de
def EN(w:AG)(c:Ac)(t:Int):Prop:=∃(i:Nat)(hi:i<w.AB.length),Gj w c t=some (i:Int)/\w.AB[i].cr=t/\(i:Int)∉c.du/\(∀(j:Nat)(hj:j<i),w.AB[j].cr=t->(j:Int)∈c.du)/\B7 w.cT c.de t w.AB[i].da w.AB[i].dn=true
theorem lV(a:WQ w)(u:K<=100)(j:GIw w K c)(t:Int):B5 (E5 w c t) λb=>b=true->EN w c t:=by
 unfold E5;have v:=j.o;obtain⟨r,d,k⟩:=Next19_tot a.f.e (c:=c) ah t;rw[d,AAS];refine tI (λ_=>tR λh=>by cases h) λh=> ?_;rcases k with⟨rfl,_⟩|⟨i,hi,rfl,n,p,q⟩
 . cases h
 rw[B4 hi,AAS,NN _ a.f.l.s _ (j.r.mono ah),AAS];unfold E5.J1;exact tI (λm=>tB (FixedAll_tot a.f.e c t (a.g.e _ (AAi hi)).1) λb _=>tR λ_=>⟨i,hi,d,n,p,q,m⟩) λ_=>tR λh=>by cases h
theorem Copy19_eq(b:WQ w)(q:K<=100)(a:GIw w K c):QO c=some c:=by have d:=a.l;have g:=a.u;have h:=a.x;have i:=a.k;have j:=a.o;have m:=b.f.e;have n:=b.f.l.s.c;have p:=b.f.l.s.f;unfold QO;rw[lU _ (WR.of b.f.l.s a.f (a.r.mono ah)),AAS,Ba ah,Ba ah,Ba ah,Ba ah,Ba ah]
theorem GIw.step{w:AG}(hw:WQ w){K:Nat}{c:Ac}(d:GIw w K c){i:Nat}(hi:i<w.AB.length)(J:(i:Int)∉c.du)(Q:∀(j:Nat)(z:j<i),w.AB[j].cr=w.AB[i].cr->(j:Int)∈c.du)(G:B7 w.cT c.de w.AB[i].cr w.AB[i].da w.AB[i].dn=true)(wake:Int){C F:List FC}{X:jD}{W:iq}(R:C.length=c.df.length)(S:F.length=c.AL.length)(U:X.length=c.Ej.length)(T:W.length=c.Nw.length):
 GIw w (K+1) ⟨(DR w.cT c.de w.AB[i].cr w.AB[i].da w.AB[i].dn wake).1,C,F,c.du++[(i:Int)],X,W⟩:=by
 have hq:=Rv hw.f.v;refine⟨Yz d.f _ _ _ _,d.r.apply _ _ _ _ _,R.trans d.l,S.trans d.u,U.trans d.x,T.trans d.k,by have:=d.o;simp;omega,?_,?_,d.X.apply hq G⟩
 . intro a b E V y s;rcases AAo.1 s with s|s
   . exact List.mem_append_left _ (d.p a b E V y s)
   grind
 . intro t k y I m s D;dsimp only at D |-;rw[XC G I];by_cases q:w.AB[i].cr=t
   . have Z:i<m:=(D i hi q).1 ak;have O:w.AB.take m=w.AB.take (i+1)++(w.AB.take m).drop (i+1):=(by have:=ABS (i+1) (w.AB.take m);rw[List.take_take,Nat.min_eq_left (by omega)]at this;exact this.symm);have P:∀e∈(w.AB.take m).drop (i+1),e.cr≠t:=by
      intro e H g;obtain⟨j,z,rfl⟩:=ABX H;simp only[List.length_drop,List.length_take]at z;rw[List.getElem_drop,List.getElem_take]at g;have B:i+1+j<w.AB.length:=ah
      have:=(D (i+1+j) B g).2 ah;rcases AAo.1 this with L|L
      . exact J (d.p i (i+1+j) ah B (q.trans g.symm) L)
      . grind
     rw[O,HF_skip _ _ _ P,<- AAp hi,HF_snoc,AAb q,q,own_eq y];congr 1;refine d.h t k y I i ah λj z n=>⟨λN=> ?_,λM=>Q j M (n.trans q.symm)⟩;refine Decidable.byContradiction λhn=> ?_;by_cases e:j=i
     . grind
     . exact J (d.p i j ah z (q.trans n.symm) N)
   . rw[other_eq G y q];refine d.h t k y I m s λj z n=> ?_;grind
theorem Step19_tot(p:WQ w)(N:K<=90)(a:GIw w K c)(D:E5 w c z.cr=some true):B5 (Ji w c z) λr=>GIw w (K+1) r.1:=by
 have hn:=p.f.e;have I:=a.o;obtain⟨b,B,H⟩:=lV p ah a z.cr;rw[D]at B;obtain⟨i,hi,J,L,M,E,q⟩:=H (AAW B).symm;unfold Ji;rw[D,AAS,AAa ak,J,AAS,B4 hi,AAS];refine tB (FixedAll_tot hn c z.cr (p.g.e _ (AAi hi)).2) λs _=> ?_;rw[Copy19_eq p ah a,AAS,PX _ p.f.l.s _ (a.r.mono ah),AAS];unfold Ot;rw[AAb q];refine tC (Bs ah) ?_;have O:=I;rw[<- L]at E q |-;have G:=λ{C F:List FC}{X:jD}{W:iq}=>a.step p hi M E q z.TD (C:=C) (F:=F) (X:=X) (W:=W);have n:Bm w.cT w.AB[i].da w.AB[i].dn=true:=by unfold B7 at q;simp only[AAT]at q;exact q.2.2.1
 have y:w.AB[i].da=3\/w.AB[i].da=4->Cp w.AB[i].dn c.df.length=true:=by intro h;rw[a.l];unfold Bm at n;rcases h with h|h<;>rw[h]at n<;>simpa(decide:=true)only[AAy,AAk,or_true,true_or,ABK]using n
 have j:w.AB[i].da=22\/w.AB[i].da=23->Cp w.AB[i].dn c.AL.length=true:=by intro h;rw[a.u];unfold Bm at n;rcases h with h|h<;>rw[h]at n<;>simpa(decide:=true)only[AAy,AAk,or_true,true_or,ABK]using n
 have d:(0:Int)<=(i:Int)/\(i:Int)<(c.Ej.length:Int):=by have:=a.x;omega
 have t:(0:Int)<=(i:Int)/\(i:Int)<(c.Nw.length:Int):=by have:=a.k;omega
 have j1:∀m,B5 (Ji.J1 i c ((DR w.cT c.de w.AB[i].cr w.AB[i].da w.AB[i].dn z.TD).1,(DR w.cT c.de w.AB[i].cr w.AB[i].da w.AB[i].dn z.TD).2,true) w.AB[i] m) λr=>GIw w (K+1) r.1:=by
  intro m;unfold Ji.J1 Ji.J2;refine tI (λv=> ?_) λ_=>tI (λv=> ?_) λ_=>tI (λv=> ?_) λ_=>tI (λv=> ?_) λ_=>tI (λ_=> ?_) λ_=>tI (λ_=> ?_) λ_=>tR (G rfl rfl rfl rfl)
  . rw[B6 (y (.inl am)),AAS];exact tI (λ_=>tG d λ_ _=>tR (G rfl rfl ak rfl)) λ_=>tG d λ_ _=>tR (G rfl rfl ak rfl)
  . rw[B6 (j (.inr am)),AAS];exact tI (λ_=>tG d λ_ _=>tR (G rfl rfl ak rfl)) λ_=>tG d λ_ _=>tR (G rfl rfl ak rfl)
  . rw[B6 (y (.inr am)),AAS];exact tR (G ak rfl rfl rfl)
  . rw[B6 (j (.inl am)),AAS];exact tR (G rfl ak rfl rfl)
  . exact tI (λ_=>tG t λ_ _=>tR (G rfl rfl rfl ak)) λ_=>tR (G rfl rfl rfl rfl)
  . exact tG t λ_ _=>tR (G rfl rfl rfl ak)
 grind
instance:Inhabited AH:=⟨⟨0,0,0,0,0,[],[]⟩⟩
def KH(s r:AH):Bool:=s.dn==r.dn&&(s.da==4&&r.da==3||s.da==22&&r.da==23)
def Rz(w:AG)(n:Int)(r:AH)(i:Nat)(s:AH):Bool:=KH s r&&(s.dh==r.dh&& !(s.cr==r.cr&&decide ((i:Int)>n)))
def Le(w:AG)(n:Int)(r:AH):Nat->List AH->List Int
 |_,[]=>[]
 |i,s::l=>if Rz w n r i s=true then(i:Int)::Le w n r (i+1) l else Le w n r (i+1) l
def Ri(w:AG)(r:AH):Bool:=if r.da=23 then ix w.db.de.Bp r.dn&&ix w.db.AL r.dn==r.dh else ix w.db.df r.dn==r.dh
def QQ(w:AG)(n:Int):List Int:=
 if Cp n w.AB.length=true/\((ix w.AB n).da=3\/(ix w.AB n).da=23)then(if Ri w (ix w.AB n)=true then[-1]else[])++Le w n (ix w.AB n) 0 w.AB else[]
def MR(t:Int):Nat->List AH->List Int
 |_,[]=>[]
 |i,e::l=>if e.cr=t then(i:Int)::MR t (i+1) l else MR t (i+1) l
def linesS(w:AG):List (List Int):=(List.range w.cT.AA.length).map λ(t:Nat)=>MR (t:Int) 0 w.AB
def relB(r:AE)(i j:Nat):Bool:=((((r.d4)[i]?).getD [])[j]?).getD false
structure RW (w:AG) (r:AE) (A:Nat->Nat->Prop):Prop where
 s:r.w=w
 l:r.eb=linesS w
 n:r.d4.length=w.AB.length
 m:∀x∈r.d4,x.length=w.AB.length
 a:∀i j,i<w.AB.length->j<w.AB.length->(relB r i j=true↔A i j)
def RW.congr{A:iy}(h:RW w r A)(c:∀i j,i<w.AB.length->j<w.AB.length->(A i j↔B i j)):RW w r B:=
 ⟨h.s,h.l,h.n,h.m,λi j hi b=>(h.a i j hi b).trans (c i j hi b)⟩
theorem RW.row{A:iy}(h:RW w r A)(b:K<w.AB.length):∃row,gt r.d4 (K:Int)=some row/\r.d4[K]? =some row/\row.length=w.AB.length:=by
 have a:K<r.d4.length:=by rw[h.n];exact b
 exact⟨r.d4[K],B4 a,AAZ a,h.m _ (AAi a)⟩
theorem RW.get{A:iy}(h:RW w r A)(c:K<w.AB.length)(g:n<w.AB.length){f:Bool->ABu b}{R:b->Prop}(k:∀d,(d=true↔A K n)->B5 (f d) R):B5 ((gt r.d4 (K:Int)).bind λx=>(gt x (n:Int)).bind f) R:=by
 obtain⟨row,e,i,j⟩:=h.row c;rw[e,AAS,B4 (show n<row.length by omega),AAS];refine k _ ?_
 have:=h.a K n c g;unfold relB at this;simp_all
theorem RW.put{A:iy}(h:RW w r A)(g:K<w.AB.length)(k:n<w.AB.length){row:jD}(f:r.d4[K]? =some row):RW w ⟨r.w,r.eb,r.ef,r.d4.set K (row.set n true)⟩ (λi j=>A i j\/i=K/\j=n):=by
 have c:row.length=w.AB.length:=h.m _ (AAg f);refine⟨h.s,h.l,by simpa using h.n,?_,?_⟩
 . intro x b;rcases AA7 b with b|rfl
   . exact h.m x b
   simp_all
 . intro i j hi e;have d:=h.a i j hi e;unfold relB at d |-;grind
theorem RW.set{A:iy}(h:RW w r A)(a:K<w.AB.length)(g:n<w.AB.length){f:List Bool->Bool->ABu b}{R:b->Prop}(k:∀row c,RW w ⟨r.w,r.eb,r.ef,r.d4.set K (row.set n true)⟩ (λi j=>A i j\/i=K/\j=n)->B5 (f row c) R):B5 ((gt r.d4 (K:Int)).bind λx=>(gt x (n:Int)).bind (f x)) R:=by
 obtain⟨row,d,e,l⟩:=h.row a;rw[d,AAS,B4 (show n<row.length by omega),AAS];exact k row _ (h.put a g e)
def exL(t:Int):Nat->List AY->List Int
 |_,[]=>[]
 |i,x::r=>if x.B9==t then(i:Int)::exL t (i+1) r else exL t (i+1) r
def shL(t:Int):Nat->List AY->List Int
 |_,[]=>[]
 |i,x::r=>if x.An.contains t then(i:Int)::shL t (i+1) r else shL t (i+1) r
def qG(wv:AF)(s:AQ)(t:Int):Em:=if HJ wv s=true/\Cp t wv.AA.length=true then⟨exL t 0 s.AK,shL t 0 s.AK⟩else⟨[],[]⟩
theorem exL_len(t:Int)(l:ng):∀i,(exL t i l).length<=l.length:=by
 induction l with
 |nil=>intro i;simp[exL]
 |cons x r ih=>intro i;have:=ih (i+1);unfold exL;grind
theorem shL_len(t:Int)(l:ng):∀i,(shL t i l).length<=l.length:=by
 induction l with
 |nil=>intro i;simp[shL]
 |cons x r ih=>intro i;have:=ih (i+1);unfold shL;grind
theorem holds_len(a:Small wv)(s:AQ)(t:Int):(qG wv s t).F6.length<=4/\(qG wv s t).MG.length<=4:=by
 unfold qG;split
 . rename_i h;have b:=(EO h.1).1;have:=a.l;have c:=exL_len t s.AK 0;have d:=shL_len t s.AK 0;grind
 simp_all
theorem oholds_loop(s:AQ)(t:Int)(e:s.AK.length<=100)(d:RB 1000000000 s):∀(n i:Nat)(a b:iq),i<=s.AK.length->s.AK.length<n+i->a.length<=i->b.length<=i->GR.AW s t n a b i=some (a++exL t i (s.AK.drop i),b++shL t i (s.AK.drop i))
 |0,i,a,b,h1,h2,_,_=>ah
 |n+1,i,a,b,h1,h2,h3,h4=>by
  rw[GR.AW];unfold GR.L1;by_cases hi:i<s.AK.length
  . rw[BC ah,B4 hi,AAS,EH hi];have g:=YR (s.AK[i].An) t (d _ (AAi hi));have h:∀c,c.length<=i+1->GR.J2 (GR.AW s t n) b i t s.AK[i] c=some (c++exL t (i+1) (s.AK.drop (i+1)),b++shL t i (s.AK[i]::s.AK.drop (i+1))):=by
     intro c f;unfold GR.J2 GR.J3;rw[g,AAS,Af ah,shL];split
     . rw[Ba ah,oholds_loop s t e d n (i+1) c _ ah ah ah an];simp
     . rw[oholds_loop s t e d n (i+1) c b ah ah ah ah]
    rw[exL];split
    . rw[Ba ah,h _ an];simp
    grind
  . rw[Ad ah,E6 ah];simp[GR.J4,exL,shL]
theorem object_Holds_eq(wv:AF)(a:Small wv)(s:AQ)(b:RB 1000000000 s)(t:Int):GR wv s t=some ((qG wv s t).F6,(qG wv s t).MG):=by
 have d:=BP;unfold GR qG;rw[PS wv a,AAS,Kh,AAS];cases hf:HJ wv s with
 |false=>simp[GR.J1]
 |true=>
  cases ht:Cp t wv.AA.length with
  |false=>simp[GR.J1]
  |true=>have c:=(EO hf).1;have:=a.l;simp only[Bool.not_true,AAd,AAk,GR.J1];exact oholds_loop s t ah b BT 0 [] [] ah ah ak ak
def jI(wv:AF):AD->List AH->List Em
 |_,[]=>[]
 |s,e::r=>qG wv s.de e.cr::jI wv (F7 wv s e) r
theorem helds_length(wv:AF)(l:jm):∀s,(jI wv s l).length=l.length:=by
 induction l with
 |nil=>intro s;rfl
 |cons e r ih=>intro s;simp[jI,ih]
theorem helds_small(b:Small wv)(l:jm):∀s,∀h∈jI wv s l,h.F6.length<=4/\h.MG.length<=4:=by
 induction l with
 |nil=>intro s h a;cases a
 |cons e r ih=>
  intro s h a;unfold jI at a;rcases AAr.1 a with rfl|a
  . exact holds_len b _ _
  grind
theorem set_mid(a:List b)(x y:b)(c:List b):(a++x::c).set a.length y=a++y::c:=ak
theorem gt_mid(a:List b)(x:b)(c:List b):gt (a++x::c) (a.length:Int)=some x:=by rw[Jz];simp
theorem follow_loop(l:jm)(wv:AF)(c:Small wv)(d:∀e∈l,KE e)(g:l.length<=1000):∀(n:Nat)(s:AD)(a:nf),a.length<=l.length->l.length<n+a.length->RB (a.length+1000) s.de->dQ wv s (l.drop a.length)->
 Gn.AW l wv n s (a++List.replicate (l.length-a.length) ⟨[],[]⟩) a.length=some (a++jI wv s (l.drop a.length))
 |0,s,a,h1,h2,_,_=>ah
 |n+1,s,a,h1,h2,h4,b=>by
  rw[Gn.AW];unfold Gn.L1;by_cases hi:a.length<l.length
  . rw[EH hi]at b |-;obtain⟨h,b⟩:=b;have f:l.length-a.length=(l.length-(a.length+1))+1:=ah;rw[BC ah,B4 hi,AAS,object_Holds_eq wv c _ (h4.mono ah),AAS,f,List.replicate_succ,gt_mid,AAS,AA9,set_mid,gt_mid,AAS,(dQ.step c h4 ah (d _ (AAi _)) h).1,AAS,set_mid,Af ah]
    have:=follow_loop l wv c d g n (F7 wv s l[a.length]) (a++[qG wv s.de l[a.length].cr]) aS aS ((h4.apply _ _ _ _ _).mono am) am;simpa[jI]using this
  . rw[Ad ah,E6 ah];have:l.length-a.length=0:=ah;simp[Gn.J1,jI,this]
theorem follow_eq{l:jm}(c:Small wv)(a:∀e∈l,KE e)(b:l.length<=1000){s:AD}(g:RB 1000 s.de)(f:dQ wv s l):Gn wv s l=some (jI wv s l):=by
 have d:=BP;unfold Gn;rw[AAb ⟨ah,ah,Bs ah⟩]
 have:=follow_loop l wv c a b BT s [] ak an ah am;simp_all
end
theorem awake28:I3=some true:=by decide +kernel
variable{D:AQ->Prop}{u y:Int->Bool}{c':Ac}{g x:Em}
section
set_option maxHeartbeats 4000000
theorem Window28_eq(h:WG w):LW w=some (jI w.cT w.db w.AB):=by have a:=Vc h.v;unfold LW;rw[Valid_eq h.e (h.r.mono ah),AAS,h.v,AAa ak,follow_eq a.s h.e (by have:=a.n;omega) h.r a.p];rfl
theorem set_eq(l:iq)(a:l.length<=1000000):IF l=some (OI l):=by unfold IF slices_Clone_int;rw[Ba ah,AAS,Sort_eq l ah,AAS,lQ _ (by rw[Si];omega)];rfl
theorem bs_eq(b:l.length<=1000000)(a:l.Pairwise (· < ·))(x:Int):∃i,Kc l x=some (i,l.contains x):=by refine⟨((l.countP (· <x):Nat):Int),?_⟩;unfold Kc;rw[AAb ⟨ah,a.imp λh=>Int.le_of_lt h⟩]
theorem common_loop(d b:iq)(hd:d.length<=1000000)(a:d.Pairwise (· < ·))(e:b.length<=1000000):∀(n i:Nat)(c:iq),i<=b.length->b.length<n+i->c.length<=i->Dp.AW d b n c i=some (c++(b.drop i).filter d.contains)
 |0,i,c,h1,h2,_=>ah
 |n+1,i,c,h1,h2,h3=>by
  rw[Dp.AW];unfold Dp.L1;by_cases hi:i<b.length
  . obtain⟨j,f⟩:=bs_eq hd a b[i];rw[BC ah,B4 hi,AAS,f,AAS,EH hi,List.filter_cons];unfold Dp.J1;rw[Af ah];cases hc:d.contains b[i]with
    |true=>simp only[AAy];rw[Ba ah,common_loop d b hd a e n (i+1) _ ah ah an];simp
    |false=>simp only[AAd,AAk];rw[common_loop d b hd a e n (i+1) _ ah ah ah]
  . rw[Ad ah,E6 ah];simp[Dp.J2]
theorem common_eq(a b:iq)(c:a.length<=1000000)(d:b.length<=1000000):Dp a b=some ((OI a).filter (OI b).contains):=by have:=BP;have e:=QS a;have f:=QS b;unfold Dp;rw[set_eq b d,AAS,set_eq a c,AAS];exact common_loop _ _ ah (MI b) ah BT 0 [] ah ah ak
def MT(w:Bool)(h:Em):List Int:=OI (if w=true then h.F6 else h.F6++h.MG)
def PA(a:Dh)(t:Int)(w:Bool)(h:Em):Dh×Bool:=
 if a.d8=0\/a.d8=1/\t=a.B9 then(⟨1,t,[]⟩,false)
 else(⟨if w=true then 3 else if a.d8=1 then 2 else a.d8,0,if a.d8=1 then MT w h else a.AK.filter (MT w h).contains⟩,
  (if w=true then 3 else if a.d8=1 then 2 else a.d8)==3&&((if a.d8=1 then MT w h else a.AK.filter (MT w h).contains).length:Int)==0)
structure EI (a:Dh):Prop where
 s:a.d8=0\/a.d8=1\/a.d8=2\/a.d8=3
 o:a.AK.Pairwise (· < ·)
 l:a.AK.length<=1000
def HL(h:Em):Prop:=h.F6.length<=100/\h.MG.length<=100
theorem uF{w:Bool}{h:Em}(a:HL h):(MT w h).length<=200:=by
 have b:=a.1;have c:=a.2;unfold MT;refine ABO (QS _) ?_;split
 . omega
 . simp only[AA8];omega
theorem EI.step{a:Dh}(b:EI a){t:Int}{w:Bool}{h:Em}(c:HL h):EI (PA a t w h).1:=by
 have e:=uF (w:=w) c;have f:=b.s;unfold PA;split
 . exact⟨.inr (.inl rfl),.nil,ak⟩
 . rename_i d;refine⟨?_,?_,?_⟩
   . simp only;split
     . omega
     . split<;>omega
   . simp only;split
     . exact MI _
     . exact b.o.filter _
   . simp only;split
     . omega
     . exact ABO (List.length_filter_le _ _) b.l
def qT(l:iq)(x:Int):List Int:=if 0<=x/\x<(l.length:Int)then[ix l x]else[]
def Iv(w:AG)(t:Int)(ks:iq):List Int:=ks.flatMap λk=>qT (MR t 0 w.AB) (k-ix w.db.dc t)
theorem qU(t:Int):∀(l:jm)(i:Nat)(x:Int),x∈MR t i l->∃(k:Nat)(b:k<l.length),x=((i+k:Nat):Int)/\l[k].cr=t:=by
 intro l;induction l with
 |nil=>intro i x a;simp[MR]at a
 |cons y l ih=>
  intro i x a;have c:x∈MR t (i+1) l->∃(k:Nat)(b:k<(y::l).length),x=((i+k:Nat):Int)/\(y::l)[k].cr=t:=λh=>by obtain⟨k,b,f,d⟩:=ih _ _ h;exact⟨k+1,am,ah,d⟩
  unfold MR at a;split at a
  . rename_i e;rcases AAr.1 a with rfl|a
    . exact⟨0,ak,ak,e⟩
    simp_all
  simp_all
theorem lS:∀q∈Iv w t d,∃m:Nat,∃b:m<w.AB.length,q=(m:Int)/\w.AB[m].cr=t:=by
 intro q c;obtain⟨k,_,a⟩:=List.mem_flatMap.1 c;generalize k-ix w.db.dc t=y at a;unfold qT at a;split at a
 . rename_i h;have b:ix (MR t 0 w.AB) y∈MR t 0 w.AB:=(by unfold ix;rw[AAZ (by omega)];exact AAi _);simp only[AAw]at a;obtain⟨i,e,f,g⟩:=qU _ _ _ _ b;grind
 grind
abbrev ev(w:AG)(i:Nat):AH:=ix w.AB (i:Int)
theorem later{c a:AH->Prop}(g:∀s e,Hc wv s e=true->c e->D (F7 wv s e).de)(h:∀s e,Hc wv s e=true->D s.de->D (F7 wv s e).de/\¬a e):
 ∀(l:jm)(s:AD),dQ wv s l->((D s.de->∀e∈l,¬a e)/\∀(j i:Nat)(k:j<l.length)(hi:i<l.length),j<i->c l[j]->¬a l[i]):=by
 intro l;induction l with
 |nil=>simp_all
 |cons e l ih=>
  intro s b;obtain⟨d,o⟩:=ih _ b.2;refine⟨λf x p=> ?_,λj i k hi n m=> ?_⟩
  . obtain⟨q,r⟩:=h s e b.1 f;grind
  . cases i with
    |zero=>omega
    |succ i=>
     cases j with
     |zero=>exact d (g s e b.1 m) _ (AAi am)
     |succ j=>grind
theorem zI{n:Int}{r:AH}:∀(l:jm)(i k:Nat)(a:k<l.length),Rz w n r (i+k) l[k]=true->((i+k:Nat):Int)∈Le w n r i l:=by
 intro l;induction l with
 |nil=>simp_all
 |cons y l ih=>
  intro i k a h;unfold Le;cases k with
  |zero=>simp_all
  |succ k=>have:=ih (i+1) k aS aS;grind
def hold(wv:AF)(s:AQ)(k u:Int)(sh:Bool):Prop:=
 if k=(wv.AK.length:Int)then s.Tx=u/\sh=false else Cp k wv.AK.length=true/\(sh=false/\(ix s.AK k).B9=u\/sh=true/\(ix wv.AK k).RW=true/\u∈(ix s.AK k).An)
theorem Wakes_tot(d:WQ w)(m:K<=90)(b:GIw w K c)(t:Int):B5 (Ir w c t) λl=>l.length<=4:=by
 have n:=d.f.l.s.t;have k:=(EO b.f).2.2;unfold Ir;refine tB (Next19_tot d.f.e (by have:=b.o;omega) t) λr j=> ?_;have a:0<=r->r<w.AB.length:=by
  rcases j with⟨rfl,_⟩|⟨i,hi,rfl,_⟩
  . omega
  . omega
 have j1:∀z,(z=true->0<=r)->B5 (Ir.J1 c r w z) λl=>l.length<=4:=by
  intro z g;unfold Ir.J1 Ir.J2;refine tI (λh=>tG ⟨g h,a (g h)⟩ λx _=> ?_) λ_=>tR ak;rw[XB _ _ ah,AAS]
  have:=Sj x.dn c.de.AA 0;exact tI (λ_=>tR ah) λ_=>tR ak
 exact tI (λh=>tG ⟨AAc h,a (AAc h)⟩ λx _=>j1 _ λ_=>AAc h) λ_=>j1 _ λh=>by cases h
theorem lock_rw(h:MJ w=true):XI w.cT w.db.de:=by
 unfold MJ at h;simp only[AAT]at h;obtain⟨_,c,_,a,_⟩:=h;have f:=(EO (Jx c).1).1;unfold aW at a;simp only[AAT]at a;have b:=a.2.2.2.1;rw[Iw]at b;intro k d g;have e:=BI.1 d
 have:=b k.toNat ah ah;rw[show((k.toNat:Nat):Int)=k from by omega]at this;unfold Ov at this;grind
theorem Start19_tot(a:WQ w):B5 (Hg w) (GIw w 0):=by
 have B:=BP;have hn:=a.f.e;obtain⟨f1,f2,f3,f4⟩:=Jx a.f.f;have D:=a.f.l.s.c;have I:=a.f.l.s.f;unfold Hg;rw[lU _ (WR.of a.f.l.s f1 (a.g.r.mono ah)),AAS];refine tC ⟨ah,ah,Bs ah⟩ (tC ⟨ah,ah,Bs ah⟩ ?_);have d:∀C F,C.length=w.cT.df.length->F.length=w.cT.AL.length->GIw w 0 ⟨w.db.de,C,F,[],List.replicate w.AB.length false,List.replicate w.AB.length 0⟩:=by
  intro C F j o;refine⟨f1,by simpa using a.g.r,j,o,ak,ak,ak,ak,?_,lock_rw a.g.v⟩;intro t k H E m G z;have:w.AB.take m=[]++w.AB.take m:=rfl;rw[this,HF_skip]
  . rfl
  . intro e q u;obtain⟨i,hi,rfl⟩:=ABX q;grind
 have y:∀(n i:Nat)(C F:List FC),w.db.AL.length<n+i->i<=w.db.AL.length->C.length=w.cT.df.length->F.length=i->B5 (Hg.CC w n ⟨w.db.de,C,F,[],List.replicate w.AB.length false,List.replicate w.AB.length 0⟩ i) (GIw w 0):=by
  intro n;induction n with
  |zero=>omega
  |succ n ih=>intro i C F j o b p;unfold Hg.CC Hg.L2 Hg.J2;refine tI (λh=> ?_) λh=>tR (d C F b aS);have h:=AAc h;rw[Af ah];exact tG ah λx _=>tC (Bs aS) (ih (i+1) C _ ah ah b (by simp[p]))
 have J:∀(n i:Nat)(C:List FC),w.db.df.length<n+i->i<=w.db.df.length->C.length=i->B5 (Hg.AW w n ⟨w.db.de,C,[],[],List.replicate w.AB.length false,List.replicate w.AB.length 0⟩ i) (GIw w 0):=by
  intro n;induction n with
  |zero=>omega
  |succ n ih=>intro i C j o b;unfold Hg.AW Hg.L1 Hg.J1;refine tI (λh=> ?_) λh=>y BT 0 C [] ah ah aS rfl;have h:=AAc h;rw[Af ah];exact tG ah λx _=>tC (Bs aS) (ih (i+1) _ ah ah (by simp[b]))
 grind
def ChOK(w:AG)(c:Ac)(l:kv):Prop:=∀x∈l,E5 w c x.cr=some true
theorem Walk_tot(B:WQ w)(hd:d.length<=60):B5 (Ew w d) λr=>GIw w 90 r.2:=by
 have hb:=BP;have hT:=B.f.l.s.t;unfold Ew;refine tB (Start19_tot B) λJ L=> ?_;have g:∀{K:Nat}{c:Ac},K<=90->GIw w K c->GIw w 90 c:=λhK h=>⟨h.f,h.r.mono ah,h.l,h.u,h.x,h.k,by have:=h.o;omega,h.p,h.h,h.X⟩;have key:∀(n i:Nat)(c:Ac)(e:kv),d.length<n+i->i<=d.length->GIw w i c->e.length<=i->B5 (Ew.AW d w n c e i) λr=>GIw w 90 r.2:=by
  intro n;induction n with
  |zero=>omega
  |succ n ih=>
   intro i c e V W v Z;unfold Ew.AW Ew.L1;refine tI (λh=> ?_) λ_=>tR (g ah v);have vT:=AAc h;have S:∀l,l.length<=16->ChOK w c l->B5 (Ew.J2 (Ew.AW d w n) c i d e w l) λr=>GIw w 90 r.2:=(by intro l hl N;unfold Ew.J2 Ew.J5;refine tI (λ_=>tR (g ah v)) λD=> ?_;have D:¬((l.length:Int)=0):=(by simpa using D);refine tG ah λq _=>tC D ?_;have H:∀z:Int,0<=z/\z<l.length->B5 (Ew.J3 (Ew.AW d w n) c i l e w z) λr=>GIw w 90 r.2:=(by intro z R;unfold Ew.J3;refine tG R λs P=>tB (Step19_tot B ah v (N s P)) λr O=>tC (Bs ah) ?_;unfold Ew.J4;rw[Af ah];exact ih (i+1) r.1 _ ah ah O an);have F:=Int.tmod_lt_of_pos q (show(0:Int)<l.length by omega);have g2: -(l.length:Int)<q.tmod l.length:=(by have:=Int.tmod_lt_of_pos (-q) (show(0:Int)<l.length by omega);rw[Int.neg_tmod]at this;omega);refine tI (λh=> ?_) λh=>H _ ⟨am,F⟩;have h:=AAc h;rw[CG ah ah];exact H _ ah);have T:∀(m f:Nat)(o:kv),w.cT.AA.length<m+f->f<=w.cT.AA.length->o.length<=4*f->ChOK w c o->B5 (Ew.CC (Ew.AW d w n) c i d e w m o f) λr=>GIw w 90 r.2:=by
    intro m;induction m with
    |zero=>omega
    |succ m ih2=>
     intro f o F g2 U G;unfold Ew.CC Ew.L2;refine tI (λh=> ?_) λ_=>S o ah G;have hf:=AAc h;have j1:∀o',o'.length<=4*f+4->ChOK w c o'->B5 (Ew.J1 (Ew.CC (Ew.AW d w n) c i d e w m) f o') λr=>GIw w 90 r.2:=(by intro o' h5 M;unfold Ew.J1;rw[Af (by omega)];exact ih2 (f+1) o' (by omega) (by omega) (by omega) M);obtain⟨b,E,_⟩:=lV B ah v (f:Int);rw[E,AAS];refine tI (λ_=>j1 o ah G) λa=> ?_;have a:b=true:=(by simpa using a);subst a;refine tB (Wakes_tot B ah v f) λj hj=> ?_;have k3:∀(u l:Nat)(p:kv),j.length<u+l->l<=j.length->p.length<=4*f+l->ChOK w c p->B5 (Ew.Gc (Ew.CC (Ew.AW d w n) c i d e w m) f j u p l) λr=>GIw w 90 r.2:=by
      intro u;induction u with
      |zero=>omega
      |succ u ih3=>
       intro l p p1 p2 p3 I;unfold Ew.Gc Ew.L3;refine tI (λh=> ?_) λ_=>j1 p ah I;have h:=AAc h;rw[Af ah];refine tG ah λx _=>tC (Bs ah) (ih3 (l+1) _ ah ah an ?_);intro y C;rcases AAo.1 C with C|C
       . exact I y C
       simp_all
     grind
   exact T BT 0 [] ah ah ak (by intro x Q;cases Q)
 exact key BT 0 J [] ah ah L ak
structure StepR (w:AG) (c c':Ac) (i:Nat) (wake:Int):Prop where
 hi:i<w.AB.length
 no:(i:Int)∉c.du
 pre:∀j:Nat,j<i->(ev w j).cr=(ev w i).cr->(j:Int)∈c.du
 en:B7 w.cT c.de (ev w i).cr (ev w i).da (ev w i).dn=true
 dp:∀q∈Iv w (ev w i).cr (ev w i).EA,ix c.Ej q=true
 sy:c'.de=(DR w.cT c.de (ev w i).cr (ev w i).da (ev w i).dn wake).1
 od:c'.du=c.du++[(i:Int)]
 ce:((ev w i).da=4/\∃x:FC,c'.df=c.df.set (ev w i).dn.toNat x/\(x.Pl=true->x.dh=(ev w i).dh/\∀q∈Iv w (ev w i).cr (ev w i).DW,ix c.Ej q=true))\/((ev w i).da≠4/\c'.df=c.df)
 fu:((ev w i).da=22/\∃x:FC,c'.AL=c.AL.set (ev w i).dn.toNat x/\(x.Pl=true->x.dh=(ev w i).dh/\∀q∈Iv w (ev w i).cr (ev w i).DW,ix c.Ej q=true))\/((ev w i).da≠22/\c'.AL=c.AL)
 fx:(∃b:Bool,c'.Ej=c.Ej.set i b/\((ev w i).da=3/\(b=true->(ix c.df (ev w i).dn).Pl=true/\(ix c.df (ev w i).dn).dh=(ev w i).dh)\/(ev w i).da=23/\(b=true->(ix c.AL (ev w i).dn).Pl=true/\(ix c.AL (ev w i).dn).dh=(ev w i).dh)))\/((ev w i).da≠3/\(ev w i).da≠23/\c'.Ej=c.Ej)
def startC(w:AG):Ac:=⟨w.db.de,w.db.df.map λx=>⟨x,true⟩,w.db.AL.map λx=>⟨x,true⟩,[],List.replicate w.AB.length false,List.replicate w.AB.length 0⟩
inductive Reach (w:AG):Ac->Prop
 |start:Reach w (startC w)
 |step {K:Nat} {c c':Ac} {i:Nat} {wake:Int} (g:GIw w K c) (h:Reach w c) (s:StepR w c c' i wake):Reach w c'
theorem Yy(h:B7 wv s t a k=true):Cp t wv.AA.length=true/\Bm wv a k=true/\Jh wv s t a k=true/\HJ wv s=true:=by unfold B7 at h;simp only[AAT]at h;exact⟨h.2.1,h.2.2.1,h.2.2.2,h.1⟩
def eN(h:B7 wv s t a k=true):True/\Cp t wv.AA.length=true/\Bm wv a k=true/\Jh wv s t a k=true/\HJ wv s=true:=⟨trivial,Yy h⟩
theorem zT(e:B7 wv s k a o=true)(g:Cp t wv.AL.length=true):ix (DR wv s k a o i).1.Bp t=if a=22/\o=t then true else ix s.Bp t:=by
 have j:=(EO (eN e).2.2.2.2).2.1
 have:=BI.1 g;unfold DR LC LB;dsimp only;by_cases th:a=22
 . simp only[th];simp(decide:=true)only[AAy,AAk,ABK,true_and];unfold ix;by_cases b:o=t
   . rw[AAb b,b,AAX ah];rfl
   . have f:Cp o wv.AL.length=true:=by have d:=(eN e).2.2.1;unfold Bm at d;rw[th]at d;simpa(decide:=true)only[AAy,AAk,or_true,true_or,ABK]using d
     have:=BI.1 f;rw[AAa b,AAe ah]
 . rw[AAa (c:=a=22/\o=t) λh=>th h.1,AAa (c:=a=22) th];simp only[apply_ite Prod.fst,apply_ite AQ.Bp,ite_self]
theorem reach_ord(h:Reach w c):∀x∈c.du,∃m:Nat,m<w.AB.length/\x=(m:Int):=by
 induction h with
 |start=>intro x a;cases a
 |step g h s ih=>
  intro x a;rw[s.od]at a;rcases AAo.1 a with a|a
  . exact ih x a
  . exact⟨_,s.hi,AAw.1 a⟩
theorem uT(e:Cp o w.cT.AL.length=true)(h:Reach w c):(∀i:Nat,(i:Int)∈c.du->¬((ev w i).da=22/\(ev w i).dn=o))->ix c.de.Bp o=ix w.db.de.Bp o:=by
 induction h with
 |start=>intro _;rfl
 | @step K c c' i wake g h s ih=>intro a;have b:=ih λm d=>a m (by rw[s.od];exact List.mem_append_left _ d);rw[s.sy,zT s.en e,AAa (a i (by rw[s.od];simp))];exact b
def IZ(P:Int->Bool)(l:Int)(ord:iq):Int:=ord.foldl (λl x=>if P x=true then x else l) l
theorem uD(P:Int->Bool)(l:Int)(a:iq)(x:Int):IZ P l (a++[x])=if P x=true then x else IZ P l a:=by simp[IZ,List.foldl_append]
theorem ZS(P:Int->Bool):∀(a:iq)(l:Int),(IZ P l a=l/\∀x∈a,P x=false)\/(IZ P l a∈a/\P (IZ P l a)=true):=by
 intro a;induction a with
 |nil=>exactλl=>.inl ⟨rfl,λx d=>by cases d⟩
 |cons x a ih=>
  intro l;have e:IZ P l (x::a)=IZ P (if P x=true then x else l) a:=rfl
  rw[e];cases d:P x with
  |true=>
   rw[AAb rfl];rcases ih x with⟨b,c⟩|⟨b,c⟩
   . exact .inr ⟨by rw[b];simp,by rw[b];exact d⟩
   . exact .inr ⟨ABg _ b,c⟩
  |false=>
   rw[AAa ak];rcases ih l with⟨b,c⟩|⟨b,c⟩
   . exact .inl ⟨b,λy f=>by rcases AAr.1 f with rfl|f;exact d;exact c y f⟩
   . exact .inr ⟨ABg _ b,c⟩
def lO(w:AG)(k o x:Int):Bool:=(ix w.AB x).da==k&&(ix w.AB x).dn==o
theorem oH(h:∀x,u x=y x)(l:Int)(a:iq):IZ u l a=IZ y l a:=by have:u=y:=funext h;rw[this]
def Mm(w:AG)(c:Ac)(k:Nat):Prop:=∀x∈Iv w (ev w k).cr (ev w k).DW,ix c.Ej x=true
structure CIw (w:AG) (c:Ac):Prop where
 o:∀q:Nat,q<w.AB.length->ix c.Ej (q:Int)=true->(q:Int)∈c.du
 ce:∀b,Cp b w.cT.df.length=true->(ix c.df b).Pl=true->(IZ (lO w 4 b) (-1) c.du= -1/\(ix c.df b).dh=ix w.db.df b)\/∃k:Nat,IZ (lO w 4 b) (-1) c.du=(k:Int)/\k<w.AB.length/\(ix c.df b).dh=(ev w k).dh/\Mm w c k
 fu:∀b,Cp b w.cT.AL.length=true->(ix c.AL b).Pl=true->(IZ (lO w 22 b) (-1) c.du= -1/\(ix c.AL b).dh=ix w.db.AL b)\/∃k:Nat,IZ (lO w 22 b) (-1) c.du=(k:Int)/\k<w.AB.length/\(ix c.AL b).dh=(ev w k).dh/\Mm w c k
 xr:∀q:Nat,q<w.AB.length->ix c.Ej (q:Int)=true->∃pre post,c.du=pre++(q:Int)::post/\IZ (λx=>KH (ix w.AB x) (ev w q)) (-1) pre∈QQ w (q:Int)/\∀k:Nat,IZ (λx=>KH (ix w.AB x) (ev w q)) (-1) pre=(k:Int)->(k:Int)∈pre/\Mm w c k
theorem Mm.mono(d:∀q:Nat,q<w.AB.length->ix c.Ej (q:Int)=true->ix c'.Ej (q:Int)=true)(h:Mm w c K):Mm w c' K:=by intro x b;obtain⟨m,a,e,_⟩:=lS x b;rw[e];exact d m a (by have:=h x b;rw[e]at this;exact this)
theorem CIw.step{w:AG}(hw:WQ w){K:Nat}{c c':Ac}{i:Nat}{wake:Int}(g:GIw w K c)(hr:Reach w c)(s:StepR w c c' i wake)(h:CIw w c):CIw w c':=by
 have hil:=s.hi;have v:=(Yy s.en).2.1
 -- what was fixed stays so
 have H:∀q:Nat,q<w.AB.length->q≠i->ix c'.Ej (q:Int)=ix c.Ej (q:Int):=by
  intro q f Me;rcases s.fx with⟨b,e,_⟩|⟨_,_,e⟩
  . rw[e];unfold ix;rw[show((q:Int)).toNat=q from by omega,AAe ah]
  . rw[e]
 have W:∀q:Nat,q<w.AB.length->ix c.Ej (q:Int)=true->ix c'.Ej (q:Int)=true:=by intro q f a;rw[H q f λe=>s.no (e▸h.o q f a)];exact a
 have G:∀q:Nat,q<w.AB.length->ix c'.Ej (q:Int)=true->ix c.Ej (q:Int)=true\/q=i:=by
  intro q f a;by_cases e:q=i
  . exact .inr e
  . rw[H q f e]at a;exact .inl a
 have lst:∀(k b:Int),IZ (lO w k b) (-1) c'.du=if(ev w i).da=k/\(ev w i).dn=b then(i:Int)else IZ (lO w k b) (-1) c.du:=by
  intro k b;rw[s.od,uD];unfold lO ev;by_cases e:(ix w.AB (i:Int)).da=k/\(ix w.AB (i:Int)).dn=b
  . rw[AAb e,AAb (by simp[e])]
  . rw[AAa e,AAa (by simpa using e)]
 -- contents
 have E:∀(k b:Int)(C D I:List FC)(V:iq)(n:Nat),Cp b n=true->C.length=n->
  ((ev w i).da=k/\(∃x:FC,D=C.set (ev w i).dn.toNat x/\(x.Pl=true->x.dh=(ev w i).dh/\∀q∈Iv w (ev w i).cr (ev w i).DW,ix c.Ej q=true))\/((ev w i).da≠k/\D=C))->
  ((ev w i).da=k->Cp (ev w i).dn n=true)->
  ((ix C b).Pl=true->(IZ (lO w k b) (-1) c.du= -1/\(ix C b).dh=ix V b)\/∃m:Nat,IZ (lO w k b) (-1) c.du=(m:Int)/\m<w.AB.length/\(ix C b).dh=(ev w m).dh/\Mm w c m)->
  (ix D b).Pl=true->(IZ (lO w k b) (-1) c'.du= -1/\(ix D b).dh=ix V b)\/∃m:Nat,IZ (lO w k b) (-1) c'.du=(m:Int)/\m<w.AB.length/\(ix D b).dh=(ev w m).dh/\Mm w c' m:=by
  intro k b C D I V n j hl hC L hold t;have lR:=BI.1 j;rw[lst k b];rcases hC with⟨F,x,J,Z⟩|⟨F,J⟩
  . have hO':=BI.1 (L F);by_cases eo:(ev w i).dn=b
    . rw[AAb ⟨F,eo⟩];have hx:ix D b=x:=(by rw[J,eo];unfold ix;rw[AAX (by omega)];rfl);rw[hx]at t |-;obtain⟨d,g2⟩:=Z t;exact .inr ⟨i,rfl,hil,d,Mm.mono W g2⟩
    . rw[AAa λx=>eo x.2];have hx:ix D b=ix C b:=(by rw[J];unfold ix;rw[AAe (by omega)]);rw[hx]at t |-;rcases hold t with y|⟨m,y,B,N,O⟩
      . exact .inl y
      . exact .inr ⟨m,y,B,N,O.mono W⟩
  . rw[AAa λx=>F x.1];rw[J]at t |-;rcases hold t with y|⟨m,y,B,N,O⟩
    . exact .inl y
    . exact .inr ⟨m,y,B,N,O.mono W⟩
 have hO4:(ev w i).da=4->Cp (ev w i).dn w.cT.df.length=true:=λk=>by unfold Bm at v;rw[k]at v;simpa using v
 have P:(ev w i).da=22->Cp (ev w i).dn w.cT.AL.length=true:=λk=>by unfold Bm at v;rw[k]at v;simpa using v
 refine⟨λq f a=> ?_,λb j t=>E 4 b c.df c'.df [] w.db.df _ j g.l s.ce hO4 (h.ce b j) t,λb j t=>E 22 b c.AL c'.AL [] w.db.AL _ j g.u s.fu P (h.fu b j) t,λq f a=> ?_⟩
 . rw[s.od];rcases G q f a with a|rfl
   . exact List.mem_append_left _ (h.o q f a)
   . exact List.mem_append_right _ ak
 . by_cases U:q=i
   . subst U;have eq:ix w.AB (q:Int)=ev w q:=rfl;have Su:Cp (q:Int) w.AB.length=true:=BI.2 ⟨ah,ah⟩;refine⟨c.du,[],s.od,?_⟩;rcases s.fx with⟨b,e,j⟩|⟨_,_,e⟩
     . have Q:b=true:=by rw[e]at a;unfold ix at a;rw[show((q:Int)).toNat=q from by omega,AAX (by rw[g.x];exact f)]at a;exact a
       -- the last write
       have mk:∀(k kd:Int)(o:Int),(ev w q).da=kd->(kd=3/\k=4\/kd=23/\k=22)->(ev w q).dn=o->
        ((IZ (lO w k o) (-1) c.du= -1/\Ri w (ev w q)=true)\/∃m:Nat,IZ (lO w k o) (-1) c.du=(m:Int)/\m<w.AB.length/\(ev w q).dh=(ev w m).dh/\Mm w c m)->
        IZ (λx=>KH (ix w.AB x) (ev w q)) (-1) c.du∈QQ w (q:Int)/\∀m:Nat,IZ (λx=>KH (ix w.AB x) (ev w q)) (-1) c.du=(m:Int)->(m:Int)∈c.du/\Mm w c' m:=by
        intro k kd o R S ho hl;have hP:∀x,KH (ix w.AB x) (ev w q)=lO w k o x:=(by intro x;unfold KH lO;rw[R,ho];rcases S with⟨rfl,rfl⟩|⟨rfl,rfl⟩<;>cases(ix w.AB x).dn==o<;>cases(ix w.AB x).da==4<;>cases(ix w.AB x).da==22<;>rfl);rw[oH hP];have z:(ix w.AB (q:Int)).da=3\/(ix w.AB (q:Int)).da=23:=by
         rw[eq,R];rcases S with⟨h,_⟩|⟨h,_⟩
         . exact .inl h
         . exact .inr h
        rcases hl with⟨y,B⟩|⟨m,y,B,N,O⟩
        . rw[y];refine⟨?_,λm hm=>ah⟩;unfold QQ;rw[AAb ⟨Su,z⟩,eq,AAb B];exact List.mem_append_left _ (AAw.2 rfl)
        . rcases ZS (lO w k o) c.du (-1)with⟨d,_⟩|⟨d,g2⟩
          . omega
          rw[y]at d g2 |-;refine⟨?_,λm' SF=> ?_⟩
          . unfold QQ;rw[AAb ⟨Su,z⟩,eq];refine List.mem_append_right _ ?_;have em:ev w m=w.AB[m]:=IK B;have eqq:ev w q=w.AB[q]:=IK f
            have:=zI (w:=w) (n:=(q:Int)) (r:=ev w q) w.AB 0 m B ?_
            . simpa using this
            . unfold Rz;rw[<- em];have N9:KH (ev w m) (ev w q)=true:=(by have:=hP (m:Int);rw[this];exact g2);rw[N9,N];simp only[BEq.rfl,AAq,ABG,Bool.and_eq_false_iff,ABZ,decide_eq_false_iff_not];by_cases ht:(ev w m).cr=(ev w q).cr
              . right
                intro EP;refine s.no (g.p q m ah B ?_ d);rw[<- em,<- eqq];exact ht.symm
              . exact .inl ht
          . obtain rfl:m'=m:=ah;exact⟨d,O.mono W⟩
       rcases j with⟨k3,j⟩|⟨lN,j⟩
       . obtain⟨b1,M⟩:=j Q;have L:Cp (ev w q).dn w.cT.df.length=true:=(by unfold Bm at v;rw[k3]at v;simpa using v);refine mk 4 3 _ k3 (.inl ⟨rfl,rfl⟩) rfl ?_;rcases h.ce _ L b1 with⟨d,g2⟩|⟨m,d,g2,g3,g4⟩
         . exact .inl ⟨d,by unfold Ri;rw[AAa ah,<- g2,M];simp⟩
         . exact .inr ⟨m,d,g2,by rw[<- M,g3],g4⟩
       . obtain⟨b1,M⟩:=j Q;have L:Cp (ev w q).dn w.cT.AL.length=true:=(by unfold Bm at v;rw[lN]at v;simpa using v);refine mk 22 23 _ lN (.inr ⟨rfl,rfl⟩) rfl ?_;rcases h.fu _ L b1 with⟨d,g2⟩|⟨m,d,g2,g3,g4⟩
         . refine .inl ⟨d,?_⟩;have hd:ix c.de.Bp (ev w q).dn=true:=(by have hR:=(Yy s.en).2.2.1;unfold Jh at hR;rw[lN]at hR;simp at hR;exact hR.2);have LM:∀m:Nat,(m:Int)∈c.du->¬((ev w m).da=22/\(ev w m).dn=(ev w q).dn):=by
            rcases ZS (lO w 22 (ev w q).dn) c.du (-1)with⟨_,k2⟩|⟨k1,k2⟩
            . intro m hm T
              have:=k2 _ hm;unfold lO at this;have F:(ix w.AB (m:Int))=ev w m:=rfl;rw[F,T.1,T.2]at this;simp at this
            . rw[d]at k1;obtain⟨m,_,hm⟩:=reach_ord hr _ k1;omega
           rw[uT L hr LM]at hd;unfold Ri;rw[AAb lN,hd,<- g2,M];simp
         . exact .inr ⟨m,d,g2,by rw[<- M,g3],g4⟩
     . rw[e]at a;exact absurd (h.o q f a) s.no
   . have hf':ix c.Ej (q:Int)=true:=(by rw[H q f U]at a;exact a);obtain⟨pre,X,F,J,Z⟩:=h.xr q f hf';refine⟨pre,X++[(i:Int)],by rw[s.od,F];simp,J,λk t=>⟨(Z k t).1,(Z k t).2.mono W⟩⟩
instance:Inhabited Dh:=⟨⟨0,0,[]⟩⟩
def accB(wv:AF)(e:AH):Bool:=(e.da==3||e.da==4)&& !(ix wv.df e.dn).Hk
def xZ(wv:AF)(i:Int)(e:AH)(h:Em)(s:nd):List Dh×List Int:=
 if accB wv e=true then
  let r:=PA (ix s.1 e.dn) e.cr (e.da==4) h
  (s.1.set e.dn.toNat r.1,if r.2=true/\ix s.2 e.dn<0 then s.2.set e.dn.toNat i else s.2)
 else s
def CE(wv:AF)(e:AH):Prop:=e.da=3\/e.da=4->Cp e.dn wv.df.length=true
structure WS (n:Nat) (s:List Dh×List Int):Prop where
 a:s.1.length=n
 b:s.2.length=n
 e:∀x∈s.1,EI x
theorem ix_mem[Inhabited b]{l:List b}(h:Cp i l.length=true):ix l i∈l:=by
 have:=B6 h;unfold gt at this;split at this
 . exact AAg this
 . cases this
theorem WS.step{n:Nat}{wv:AF}(hn:n=wv.df.length){s:nd}(c:WS n s){e:AH}(g:CE wv e){h:Em}(j:HL h)(i:Int):WS n (xZ wv i e h s):=by
 unfold xZ;split
 . rename_i d;have k:e.da=3\/e.da=4:=(by unfold accB at d;simp at d;exact d.1);have hi:Cp e.dn s.1.length=true:=(by rw[c.a,hn];exact g k);refine⟨by simpa using c.a,?_,λx f=> ?_⟩
   . simp only;split<;>simpa using c.b
   . rcases AA7 f with f|rfl
     . exact c.e x f
     . exact(c.e _ (ix_mem hi)).step j
 . exact c
theorem fill{L:Nat->List Int->Int->ABu b}{R:List Int->ABu b}(f:K<=1000)(c:∀(n i:Nat)(l:iq),i<K->l.length=K->L (n+1) l (i:Int)=L n (l.set i (-1)) ((i+1:Nat):Int))(a:∀n l,L (n+1) l (K:Int)=R l):∀(n i:Nat),i<=K->K<n+i->L n (List.replicate i (-1)++List.replicate (K-i) 0) (i:Int)=R (List.replicate K (-1))
 |0,i,h1,h2=>ah
 |n+1,i,h1,h2=>by
  by_cases hi:i<K
  . have d:K-i=(K-(i+1))+1:=ah;rw[c n i _ hi an,d,List.replicate_succ];have e:(List.replicate i (-1:Int)++(0:Int)::List.replicate (K-(i+1)) 0).set i (-1)=List.replicate (i+1) (-1)++List.replicate (K-(i+1)) 0:=(by have:=set_mid (List.replicate i (-1:Int)) 0 (-1) (List.replicate (K-(i+1)) 0);rw[ABd]at this;rw[this,ABq];simp);rw[e];exact fill f c a n (i+1) ah ah
  . obtain rfl:i=K:=ah;rw[a];simp
theorem AT.ce{t:Ca}(h:AT t)(d:e∈t.AB):CE t.cT e:=by intro a;obtain⟨i,hi,rfl⟩:=ABX d;have b:=h.poss hi;unfold Hc B7 at b;simp only[AAT]at b;have c:=b.2.2.1.2.2.1;unfold Bm at c;rcases a with a|a<;>simpa[a]using c
theorem ix_set_eq[Inhabited b]{l:List b}(h:Cp i l.length=true)(a:b):ix (l.set i.toNat a) i=a:=by have h:=BI.1 h;unfold ix;rw[AAX ah];rfl
theorem fA[Inhabited b]{l:List b}(hi:0<=i)(c:0<=t)(h:i≠t)(a:b):ix (l.set i.toNat a) t=ix l t:=by unfold ix;rw[AAe ah]
def holdB(c k:Int)(x:AH×Em):Bool:= !((x.1.da==3||x.1.da==4)&&x.1.dn==c)||(x.2.F6.contains k||(x.1.da==3&&x.2.MG.contains k))
def DI(c k:Int)(s:nd):Prop:=((ix s.1 c).d8=0\/(ix s.1 c).d8=1\/k∈(ix s.1 c).AK)/\ix s.2 c<0
theorem DI.step{wv:AF}{c k:Int}{s:nd}(h:DI c k s)(r:WS wv.df.length s)(p:Cp c wv.df.length=true){e:AH}{hd:Em}(q:CE wv e)(d:holdB c k (e,hd)=true)(i:Int):DI c k (xZ wv i e hd s):=by
 unfold xZ;split
 . rename_i l;dsimp only;have f:e.da=3\/e.da=4:=(by unfold accB at l;simp at l;exact l.1);have hi:=q f;have t:=BI.1 hi;have u:=BI.1 p;by_cases b:e.dn=c
   . subst b;have m:k∈MT (e.da==4) hd:=by
      unfold holdB at d;simp only[ABM,Bool.and_true,AAt,ABG,AAT,AAu]at d;unfold MT;rw[Kg];rcases f with f|f
      . simp[f]at d |-;exact d
      . simp[f]at d |-;exact d
     have n:(PA (ix s.1 e.dn) e.cr (e.da==4) hd).2=false/\((PA (ix s.1 e.dn) e.cr (e.da==4) hd).1.d8=1\/k∈(PA (ix s.1 e.dn) e.cr (e.da==4) hd).1.AK):=by
      unfold PA;split
      . exact⟨rfl,.inl rfl⟩
      . rename_i hn;have o:k∈(if(ix s.1 e.dn).d8=1 then MT (e.da==4) hd else(ix s.1 e.dn).AK.filter (MT (e.da==4) hd).contains):=by
         split
         . exact m
         . rename_i j;rcases h.1 with g|g|g
           . exact absurd (.inl g) hn
           . exact absurd g j
           . exact List.mem_filter.2 ⟨g,by simpa using m⟩
        refine⟨?_,.inr o⟩;have:((if(ix s.1 e.dn).d8=1 then MT (e.da==4) hd else(ix s.1 e.dn).AK.filter (MT (e.da==4) hd).contains).length:Int)≠0:=by have:=List.length_pos_of_mem o;omega
        simp only[Bool.and_eq_false_iff,ABZ];exact .inr this
     unfold DI;dsimp only;rw[ix_set_eq (by rw[r.a];exact hi),AAa (by rw[n.1];simp)];exact⟨n.2.elim (λg=>.inr (.inl g)) λg=>.inr (.inr g),h.2⟩
   . unfold DI;dsimp only;rw[fA ah ah b];refine⟨h.1,?_⟩;split
     . rw[fA ah ah b];exact h.2
     . exact h.2
 . exact h
theorem mem_exL:∀{L:ng}{i:Nat},k∈exL t i L->∃j:Nat,∃a:j<L.length,k=((i+j:Nat):Int)/\(L[j].B9==t)=true:=by
 intro L;induction L with
 |nil=>intro i h;cases h
 |cons x r ih=>
  intro i h;have d:k∈exL t (i+1) r->∃j:Nat,∃a:j<(x::r).length,k=((i+j:Nat):Int)/\((x::r)[j].B9==t)=true:=by intro h;obtain⟨j,a,e,b⟩:=ih h;exact⟨j+1,am,ah,b⟩
  unfold exL at h;split at h
  . rename_i c;rcases AAr.1 h with h|h
    . exact⟨0,ak,ah,c⟩
    grind
  grind
theorem mem_shL:∀{L:ng}{i:Nat},k∈shL t i L->∃j:Nat,∃a:j<L.length,k=((i+j:Nat):Int)/\L[j].An.contains t=true:=by
 intro L;induction L with
 |nil=>intro i h;cases h
 |cons x r ih=>
  intro i h;have d:k∈shL t (i+1) r->∃j:Nat,∃a:j<(x::r).length,k=((i+j:Nat):Int)/\(x::r)[j].An.contains t=true:=by intro h;obtain⟨j,a,e,b⟩:=ih h;exact⟨j+1,am,ah,b⟩
  unfold shL at h;split at h
  . rename_i c;rcases AAr.1 h with h|h
    . exact⟨0,ak,ah,c⟩
    grind
  grind
theorem T7:(k∈(qG wv s t).F6->Cp k wv.AK.length=true/\(x6 t (ix s.AK k)).1=true)/\(k∈(qG wv s t).MG->Cp k wv.AK.length=true/\(x6 t (ix s.AK k)).2=true):=by
 unfold qG x6;split
 . rename_i c;have d:=(EO c.1).1;refine⟨λh=> ?_,λh=> ?_⟩
   . obtain⟨j,b,rfl,a⟩:=mem_exL h;rw[ABW];exact⟨by rw[inB_nat];simp;omega,by rw[IK b];exact a⟩
   . obtain⟨j,b,rfl,a⟩:=mem_shL h;rw[ABW];exact⟨by rw[inB_nat];simp;omega,by rw[IK b];exact a⟩
 simp_all
theorem meet_eq(e:l.length<=1000)(f:d.length<=1000)(h:∀k∈l,k∉d):Gt l d=some false:=by
 unfold Gt;rw[common_eq l d ah ah,AAS];have:(OI l).filter (OI d).contains=[]:=by rw[List.filter_eq_nil_iff];intro k b c;rw[Kg]at b;rw[AAu,Kg]at c;exact h k b c
 simp_all
theorem next_hold(b:WQ w)(d:GIw w K c)(i:0<=t)(hi:n<w.AB.length)(q:w.AB[n].cr=t)(r:(n:Int)∉c.du)(s:∀(j:Nat)(l:j<n),w.AB[j].cr=t->(j:Int)∈c.du)(m:Cp k w.cT.AK.length=true):
 x6 t (ix c.de.AK k)=x6 t (ix ((w.AB.take n).foldl (F7 w.cT) w.db).de.AK k):=by
 have x:=Vc b.g.v;rw[(rec_hold (Rv b.f.v) i m w.AB x.p (lock_rw b.g.v) n ah).2];refine d.h t k i m n ah λj l a=>⟨λu=> ?_,λo=>s j o a⟩;refine Decidable.byContradiction λhn=> ?_;by_cases e:j=n
 . simp_all
 . exact r (d.p n j ah l (q.trans a.symm) u)
theorem helds_get:∀{l:jm}{s:AD}{i:Nat}(hi:i<l.length),(jI wv s l)[i]? =some (qG wv ((l.take i).foldl (F7 wv) s).de l[i].cr):=by
 intro l;induction l with
 |nil=>simp_all
 |cons e r ih=>
  intro s i hi;cases i with
  |zero=>rfl
  |succ i=>exact ih (s:=F7 wv s e) am
theorem excl_free(B:WQ w)(i:GIw w K c){u:Int}(y:0<=t)(z:0<=u)(l:t≠u)(n:g.F6.length<=4/\g.MG.length<=4)(p:x.F6.length<=4/\x.MG.length<=4)(m:∀k,(k∈g.F6->Cp k w.cT.AK.length=true/\(x6 t (ix c.de.AK k)).1=true)/\(k∈g.MG->Cp k w.cT.AK.length=true/\(x6 t (ix c.de.AK k)).2=true))(o:∀k,(k∈x.F6->Cp k w.cT.AK.length=true/\(x6 u (ix c.de.AK k)).1=true)/\(k∈x.MG->Cp k w.cT.AK.length=true/\(x6 u (ix c.de.AK k)).2=true)):GX g x=some false:=by
 have s:∀{k a:Int},0<=a->Cp k w.cT.AK.length=true->(x6 a (ix c.de.AK k)).1=true->∀b,(x6 b (ix c.de.AK k)).2=false:=by
  intro k a q j h b;have h:(ix c.de.AK k).B9=a:=by simpa[x6]using h
  show(ix c.de.AK k).An.contains b=false;refine Bool.eq_false_iff.2 λr=> ?_
  have:=(i.X k j λe=>am).2;omega
 have C:Gt g.F6 x.F6=some false:=meet_eq ah ah λk d f=>by have v:=((m k).1 d).2;have g2:=((o k).1 f).2;simp only[x6,AAh]at v g2;omega
 have D:Gt g.F6 x.MG=some false:=meet_eq ah ah λk d f=>aS
 have E:Gt g.MG x.F6=some false:=meet_eq ah ah λk d f=>aS
 unfold GX GX.J1;simp_all
theorem LMeets_tot{v:Kk}(L:rC v)(K:v.ed.length<=4000000000000000000):B5 (Dg v d) λb=>b=true:=by
 have T:=BP;unfold Dg;refine tI (λ_=>by rw[awake28];exact tR rfl) λhd=>tB (XG L ah ah K) λw x=> ?_;have hd:=of_decide_eq_false hd;have g:=x.q;have z:=Vc x.v;have hn:=g.f.e;have S:=g.f.l.s.t;rw[Window28_eq x,AAS];refine tI (λh=>by simp[helds_length]at h) λ_=>tB (Walk_tot g ah) λc m=> ?_;have Z:∀(L1:ir)(t:Nat),t<w.cT.AA.length->B5 (L1 ((t+1:Nat):Int)) (λb=>b=true)->∀(n e:Nat),t<n+e->e<=t->B5 (Dg.CC L1 t w (jI w.cT w.db w.AB) c n e) λb=>b=true:=by
  intro L1 t X J n;induction n with
  |zero=>omega
  |succ n ih=>
   intro e I z;unfold Dg.CC Dg.L2;refine tI (λh=> ?_) λ_=> ?_
   . have U:=AAc h;have j1:B5 (Dg.J1 (Dg.CC L1 t w (jI w.cT w.db w.AB) c n) e false) λb=>b=true:=(by unfold Dg.J1;rw[Af (by omega)];exact tI (λh=>by cases h) λ_=>ih (e+1) (by omega) (by omega));have V:=m.o;obtain⟨r,P,Q⟩:=Next19_tot hn (c:=c.2) ah (t:Int);obtain⟨q,N,O⟩:=Next19_tot hn (c:=c.2) ah (e:Int);rw[P,AAS,N,AAS];refine tI (λC=>tI (λB=> ?_) λ_=>j1) λ_=>j1;have C:=AAc C;have B:=AAc B;refine tB (lV g ah m t) λa _=>tI (λ_=>tB (lV g ah m e) λR _=>tI (λ_=> ?_) λ_=>j1) λ_=>j1;rcases Q with⟨rfl,_⟩|⟨i,hi,rfl,i1,i2,D⟩
     . omega
     rcases O with⟨rfl,_⟩|⟨j,y,rfl,p,E,F⟩
     . omega
     have W:=helds_small g.f.l.s w.AB w.db;have G:=helds_get (wv:=w.cT) (s:=w.db) hi;have H:=helds_get (wv:=w.cT) (s:=w.db) y;rw[Jz,G,AAS,Jz,H,AAS,excl_free g m (t:=t) (u:=e) ah ah ah (holds_len g.f.l.s _ _) (holds_len g.f.l.s _ _) (λk=> ?_) (λk=> ?_),AAS]
     . exact j1
     . rw[i1];exact⟨λh=>⟨(T7.1 h).1,by rw[next_hold g m ah hi i1 i2 D (T7.1 h).1];exact(T7.1 h).2⟩,λh=>⟨(T7.2 h).1,by rw[next_hold g m ah hi i1 i2 D (T7.2 h).1];exact(T7.2 h).2⟩⟩
     . rw[p];exact⟨λh=>⟨(T7.1 h).1,by rw[next_hold g m ah y p E F (T7.1 h).1];exact(T7.1 h).2⟩,λh=>⟨(T7.2 h).1,by rw[next_hold g m ah y p E F (T7.2 h).1];exact(T7.2 h).2⟩⟩
   . unfold Dg.J2;rw[Af ah];exact J
 have M:∀(n t:Nat),w.cT.AA.length<n+t->t<=w.cT.AA.length->B5 (Dg.AW w (jI w.cT w.db w.AB) c n t) λb=>b=true:=by
  intro n;induction n with
  |zero=>omega
  |succ n ih=>
   intro t I z;unfold Dg.AW Dg.L1;refine tI (λh=> ?_) λ_=> ?_
   . grind
   . unfold Dg.J3;rw[awake28];exact tR rfl
 exact M BT 0 ah ah
end
end Go.Abs
