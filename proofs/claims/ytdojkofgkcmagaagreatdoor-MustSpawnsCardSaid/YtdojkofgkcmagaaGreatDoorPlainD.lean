/- What the typed programs give, in plain Lean. -/
import Derived.Test.YtdojkofgkcmagaaGreatDoorWalkT
import Derived.Test.YtdojkofgkcmagaaGreatDoorPlainC
set_option linter.defProp false
set_option linter.unusedSimpArgs false
set_option linter.unusedVariables false
namespace Go.Abs
variable{i n j:Nat}{p:AU}{t o a b k:Int}{S m:mu}{l:li}{u:Ai}{R:lx}{wv:AF}{c f:iq}{s:AD}{v:AX}{y:ke}{w:AG}{e:AH}
section
set_option maxHeartbeats 4000000
section
variable{T:kp}
def QL:Nat->List AR->Nat
 |0,_=>0
 |d+1,l=>(l.map λs=>1+QL d s.dx+QL d s.d7).sum
theorem sum_le{l:jh}{k:Nat}(h:∀x∈l,x<=k):l.sum<=l.length*k:=by
 induction l with
 |nil=>simp
 |cons x r ih=>have b:=h x ABT;have c:=ih λy a=>h y (ABg _ a);rw[List.sum_cons,ABU,ABm];omega
theorem kX(d:Nat):∀l,Uq T d l->QL d l<=10*II d:=by
 induction d with
 |zero=>exactλ_ _=>Nat.zero_le _
 |succ d ih=>intro l ⟨h1,h2⟩;have f:II (d+1)=1+20*II d:=rfl;refine ABO (sum_le (k:=II (d+1)) ?_) (by rw[AA6];exact ABC _ h1);intro x b;obtain⟨s,a,rfl⟩:=ABh.1 b;have c:=ih _ (h2 s a).body;have e:=ih _ (h2 s a).els;omega
theorem aY{l:ju}(h:i<l.length)(f:AR->Nat):((l.take (i+1)).map f).sum=((l.take i).map f).sum+f l[i]:=by rw[<- AAp h,AA5,List.sum_append];simp
theorem Nt(l:ju)(i:Nat)(f:AR->Nat):((l.take i).map f).sum<=(l.map f).sum:=by
 conv=>rhs;rw[<- ABS i l,AA5,List.sum_append]
 omega
theorem cst_le{d:Nat}(h:d<=4):II d<=8421:=by
 have:d=0\/d=1\/d=2\/d=3\/d=4:=ah
 rcases this with rfl|rfl|rfl|rfl|rfl<;>decide
theorem Count_eq(d:Nat):∀(n:Nat)(l:ju),d<=4->d+1<=n->Uq T d l->B5 (HE n l) λr=>r=(QL d l:Int):=by
 induction d with
 |zero=>intro n l _ hn ⟨_,h⟩;obtain⟨n,rfl⟩:∃k,n=k+1:=⟨n-1,ah⟩;have:l=[]:=ABB.2 λx a=>(h x a).elim;subst this;show B5 (DG (HE n) []) _;exact tR rfl
 |succ d ih=>
  intro n l hd hn ⟨h1,h2⟩;obtain⟨n,rfl⟩:∃k,n=k+1:=⟨n-1,ah⟩;show B5 (DG (HE n) l) _;unfold DG;have t:=cst_le (d:=d) ah;have g:=kX (T:=T) (d+1) l ⟨h1,h2⟩;have o:=cst_le hd
  let f:AR->Nat:=λs=>1+QL d s.dx+QL d s.d7
  refine RI l.length (λi (s:Int)=>s+i=((l.take i).map f).sum+l.length) (F:=λn s i=>DG.AW _ l n s i) ah ak λm i s hi y k=> ?_;unfold DG.AW DG.L1 DG.J1;have w:=Nt l i f;have C:QL (d+1) l=(l.map f).sum:=rfl;refine tD (λj=>gC ah ?_) λ_=>tR ?_
  . have a:l[i]∈l:=AAi ah;have b:=(h2 _ a).body;have c:=(h2 _ a).els;have p:=kX d _ b;have q:=kX d _ c;have e:=Nt l (i+1) f;have st:=aY ah f (i:=i) (l:=l);refine tB (ih n _ ah ah b) λv B=>tB (ih n _ ah ah c) λu z=>k _ ah ?_;rw[CG (n:=s+v) ah ah,CG ah ah,st];grind
  grind
theorem gA{l:List C7}(h:i<l.length)(f:C7->Nat):((l.take (i+1)).map f).sum=((l.take i).map f).sum+f l[i]:=by rw[<- AAp h,AA5,List.sum_append];simp
theorem check60(h:MP p):B5 (BF p) λr=>r.1=0->(p.AA.map λt=>QL 4 t.dx).sum<=60:=by
 have hd:=h.dl;have j:=h.t;have D:II 4=8421:=rfl;have N:∀{a b:Int}{P:Prop},(a != 0)=true->B5 (some (a,b)) λr:Int×Int=>r.1=0->P:=λh=>tR λB=>am
 unfold BF;refine JQ (YY h) λ_=>tI (λ_=>N rfl) λ_=>JQ (eM h) λ_=>tI (λh=>N h) λ_=>tI (λ_=>N rfl) λ_=>JQ (W7 h) λ_=>tI (λh=>N h) λ_=> ?_
 let f:C7->Nat:=λt=>QL 4 t.dx
 have c:∀t∈p.AA,f t<=84210:=λt j=>by have:=kX 4 _ (h.b t j);grind
 refine RI p.AA.length (λi (s:Int)=>s=((p.AA.take i).map f).sum/\s<=i*84210) (F:=λn s i=>BF.AW p n s i) ah ak λm i s hi g k=> ?_;unfold BF.AW BF.L1 BF.J1;refine tD (λ_=>gC ah (tB (Count_eq 4 _ _ ah (NT ah) (h.b _ (AAi ah))) λv o=>k _ ah ?_)) λE=>tD (λ_=>N rfl) λu=> ?_
 . have st:=gA (l:=p.AA) (i:=i) ah f;have C:=c _ (AAi (show i<p.AA.length by omega));have e:f p.AA[i]=QL 4 p.AA[i].dx:=rfl;rw[CG ah ah,st];omega
 have d:i=p.AA.length:=ah
 rw[d,List.take_length]at g;have q:(p.AA.map f).sum<=60:=ah
 refine RI p.AA.length (λi w=>WK p 0 (i*84210) w) (F:=λn s i=>BF.CC p n s i) ah ⟨rfl,rfl,ak,ak⟩ λm i s hi c k=> ?_;unfold BF.CC BF.L2 BF.J2;refine tD (λz=>tG ah λx y=> ?_) λ_=>tR λ_=>q;refine tB (v7 h 4 _ 0 (i*84210) _ _ (NT ah) ah ah ⟨c.p,c.a,c.s,c.t⟩ (h.b x y)) λv o=>tI (λh=>N h) λ_=>k _ ah (o.mono ah)
def SN(t nv:Int)(l:mu):Prop:=∀(j:Nat) x,l[j]? =some x->x.cr=t/\x.ek=nv+j
theorem SN.app(h:SN t o S)(g:SN t (o+S.length) m):SN t o (S++m):=by
 intro j x c;by_cases e:j<S.length
 . rw[AA0 e]at c;exact h j x c
 . rw[AAx ah]at c
   have:=g _ x c;omega
theorem SN.one:SN t a [⟨t,a,o⟩]:=by intro j x b;grind
theorem sites_ok(d:Nat):∀(n:Nat)(o:mu)(t a:Int)(l:ju),d+1<=n->o.length+QL d l<=900000->(0<=a/\a+QL d l<=900000)->Uq T d l->B5 (HG n o t a l) λr=>∃S,r.1=o++S/\S.length=QL d l/\SN t a S/\r.2=a+QL d l:=by
 induction d with
 |zero=>intro n o t a l hn _ _ ⟨_,h⟩;obtain⟨n,rfl⟩:∃k,n=k+1:=⟨n-1,ah⟩;have:l=[]:=ABB.2 λx b=>(h x b).elim;subst this;show B5 (DH (HG n) o t a []) _;exact tR ⟨[],ak,rfl,λj x b=>by simp at b,by simp[QL]⟩
 |succ d ih=>
  intro n o t a l hn I J ⟨h1,h2⟩;obtain⟨n,rfl⟩:∃k,n=k+1:=⟨n-1,ah⟩;show B5 (DH (HG n) o t a l) _;unfold DH
  let f:AR->Nat:=λs=>1+QL d s.dx+QL d s.d7
  have K:QL (d+1) l=(l.map f).sum:=rfl;refine RI l.length (λi (s:List EG×Int)=>∃S,s.1=o++S/\S.length=((l.take i).map f).sum/\SN t a S/\s.2=a+((l.take i).map f).sum) (F:=λm s i=>DH.AW _ l t m s.1 s.2 i) (s0:=(o,a)) ah ⟨[],ak,rfl,λj x b=>by simp at b,ak⟩ λm i s hi B k=> ?_;obtain⟨S,q,c,w,g⟩:=B;unfold DH.AW DH.L1 DH.J1;refine tD (λG=>gC ah ?_) λL=> ?_
  . have st:=aY (l:=l) (i:=i) ah f;have z:=Nt l (i+1) f;have b:l[i]∈l:=AAi ah;have H:f l[i]=1+QL d l[i].dx+QL d l[i].d7:=rfl;have p:s.1.length=o.length+((l.take i).map f).sum:=(by rw[q,AA8,c]);refine tC (Bs ah) ?_;rw[g,CG (n:=a+((l.take i).map f).sum+1) ah ah];refine tB (ih n _ t _ _ ah an ah (h2 _ b).body) λv D=> ?_;obtain⟨S2,Q,R,E,U⟩:=D;refine tB (ih n _ t _ _ ah aS ah (h2 _ b).els) λu C=> ?_;obtain⟨y,M,N,O,P⟩:=C;refine k (_,_) ah ⟨S++([⟨t,a+((l.take i).map f).sum,l[i].GH⟩]++(S2++y)),?_,?_,?_,?_⟩
    . simp_all
    . grind
    . refine w.app ?_;rw[c];refine SN.one.app ?_;rw[show a+((l.take i).map f).sum+(([⟨t,a+((l.take i).map f).sum,l[i].GH⟩]:List EG).length:Int)=a+((l.take i).map f).sum+1 from by simp];refine E.app ?_;simp_all
    omega
  . have e:i=l.length:=ah;subst e;rw[List.take_length]at c g;exact tR ⟨S,q,c,w,g⟩
end
section
variable{T:kp}{g h r:BL}{lo hi lo' hi':Int}
def BS(T:kp)(R:lx)(l:ju)(n:Nat):Prop:=
 ∀g,GW T g->(0<=g.next/\g.next+n<=1000000)->NJ (R g l) λr=>GV g r g.next (g.next+n)/\r.next=g.next+n
def Rg{k:li}(h:i<l.length):(l++k)[i]? =l[i]? :=AA0 h
theorem YC:(l++[u])[l.length]? =some u:=ak
theorem rJ{s:AR}(o:GW T g)(j:lo<=g.dt/\g.dt<hi)(hn:0<=g.next/\g.next+n<=1000000)(c:lo<=g.next)(q:g.next+n<=hi)(m:BS T R s.dx n)(x:11<=a/\a<=25)(y:11<=b/\b<=25)(i:∀p S,p=a\/p=b->AO g.w ⟨p,t,0,0,0,S⟩=some true):NJ (DP R g s a b t) λr=>GV g r lo hi/\r.next=g.next+n:=by
 unfold DP;refine pB (xL (lo:=lo) (hi:=hi) ⟨aA,i _ _ (.inl rfl),by rw[rg0 aA];simp,j,aA,aA⟩ aA) λv d=> ?_;have e:=m v (o.next d.1) (by rw[d.2.2];exact hn);rw[d.2.2]at e;refine pB e λu k=> ?_;have f:=d.1.trans (k.1.mono c q);have l:=f.dt g.dt u.next;refine pM (JH (lo:=lo) (hi:=hi) ⟨aA,?_,by rw[rg0 aA];simp,j,aA,aA⟩ aA) λ_ h=>⟨l.trans h.1,h.2.2.trans k.2⟩;simp only;rw[f.w];exact i _ _ (.inr rfl)
theorem gY{s:AR}(E:GW T g)(N:lo<=g.dt/\g.dt<hi)(hn:0<=g.next/\g.next+n+i<=1000000)(hl:lo<=g.next)(hh:g.next+n+i<=hi)(M:Up 2 s.dv)(hR:BS T R s.dx n)(hE:BS T R s.d7 i)(h3:s.Op=3->i=0)(h0:s.d7=[]->i=0):NJ (DC R g s) λr=>GV g r lo hi/\r.next=g.next+n+i:=by
 have W:(g.dq.length:Int)=2:=by rw[E.l];rfl
 unfold DC;rw[W];refine pB (Va M E N ah) λd hd=> ?_;have dL:(d.dq.length:Int)=2:=by rw[hd.1.l];exact W
 rw[dL];refine pB (put_eq _) λq hq=> ?_;have KX:d.dt=g.dt:=hd.2.1;have u:d.next=g.next:=hd.2.2;subst hq;have G:=E.next hd.1;have j:=hR ⟨d.w,d.dq,d.dr++[⟨10,2,0,0,0,d.dt⟩],d.dt,d.next⟩ ⟨G.w,G.l⟩ (by simp only;rw[u];omega);refine pB j λb t=> ?_;obtain⟨t,D⟩:=t;simp only at D;rw[u]at D;have t:=t.mono (lo':=lo) (hi':=hi) (by simp only;rw[u];exact hl) (by simp only;rw[u];omega);have q1:=hd.1.n;have b1:d.dr.length+1<=b.dr.length:=by have:=t.n;simpa using this
 have I:∀m,m<d.dr.length+1->b.dr[m]? =(d.dr++[(⟨10,2,0,0,0,d.dt⟩:Ai)])[m]? :=λm hi=>t.p m (by simpa using hi);have S:SG d.w lo hi b.dr (d.dr.length+1) b.dr.length b.dr.length:=by have:=t.s;simpa using this
 have C:b.w=g.w:=t.w.trans hd.1.w;have H:b.dq=g.dq:=t.l.trans hd.1.l;have dw:=hd.1.w;rw[dw]at S
 -- a list that goes on as these do, but for the branch
 have val:∀(F:li),b.dr.length<=F.length->(∀m,m<d.dr.length->F[m]? =b.dr[m]?)->SG g.w lo hi F g.dr.length d.dr.length F.length:=λF f1 f2=>
  hd.1.s.frame (λm _ hi=>by rw[f2 m hi,I m ah,Rg hi]) ah ah ah ah
 have pre:∀(F:li),(∀m,m<d.dr.length->F[m]? =b.dr[m]?)->∀m,m<g.dr.length->F[m]? =g.dr[m]? :=λF f2 m hi=>by rw[f2 m ah,I m ah,Rg ah,hd.1.p m hi]
 have v:∀(F:li)(c:Nat),b.dr.length<=F.length->b.dr.length<=c->(∀m,d.dr.length<m->m<b.dr.length->F[m]? =b.dr[m]?)->SG g.w lo hi F (d.dr.length+1) b.dr.length c:=λF c f1 f3 f2=>
  S.frame (λm j o=>(f2 m ah o).symm) f1 ah ah f3
 have J:∀(c:Nat)(B:Nat),B<=c->LV g.w lo hi c ⟨10,2,(B:Int),0,0,d.dt⟩:=λc B V=>⟨ak,uJ ak,by rw[rg10 rfl];exact jZ (x:=0) ak,by simp only;rw[KX];exact N,ak,λ_=>aA⟩;have Z:∀(c:Nat)(A:Nat),A<=c->LV g.w lo hi c ⟨5,(A:Int),0,0,0,g.dt⟩:=λc A U=>⟨ak,uJ ak,by rw[rg0 (.inl rfl)];simp,N,λ_=>aA,ak⟩;have bd:b.dr[d.dr.length]? =some ⟨10,2,0,0,0,d.dt⟩:=by rw[I _ ah];exact YC
 refine pI (λh=> ?_) λMe=>pI (λh=> ?_) λX=> ?_
 . -- a loop
   have hm:=h3 (eq_of_beq h);refine pB (put_eq _) λe M=> ?_;subst M;refine pE (y:=⟨10,2,0,0,0,d.dt⟩) (by rw[Jz];simp only;rw[Rg (by omega)];exact bd) (pR ⟨?_,aA⟩);simp only;generalize a:(b.dr++[(⟨5,(g.dr.length:Int),0,0,0,g.dt⟩:Ai)]).set d.dr.length ⟨10,2,((b.dr++[(⟨5,(g.dr.length:Int),0,0,0,g.dt⟩:Ai)]).length:Int),0,0,d.dt⟩=F;have fl:F.length=b.dr.length+1:=(by rw[<- a];simp);have f1:∀m,m≠d.dr.length->m<b.dr.length->F[m]? =b.dr[m]? :=λm j o=>(by rw[<- a,AAe (by omega),Rg o]);have f2:F[d.dr.length]? =some ⟨10,2,((b.dr.length+1:Nat):Int),0,0,d.dt⟩:=(by rw[<- a,AAX (by simp;omega)];simp);have f3:F[b.dr.length]? =some ⟨5,(g.dr.length:Int),0,0,0,g.dt⟩:=(by rw[<- a,AAe (by omega)];exact YC);refine⟨C,H,aA,pre F λm hi=>f1 m ah ah,?_⟩;simp only
   have:=SG.back (val F ah λm hi=>f1 m ah ah) f2 (J _ _ ah) rfl (v F F.length ah ah λm j o=>f1 m ah o) f3 (Z _ _ ah) rfl rfl;rw[fl]at this |-;exact this
 . -- without another part
   have hm:i=0:=h0 (by have:=eq_of_beq h;exact List.length_eq_zero_iff.1 (by omega));refine pE (y:=⟨10,2,0,0,0,d.dt⟩) (by rw[Jz];exact bd) (pR ⟨?_,aA⟩);simp only;generalize a:b.dr.set d.dr.length ⟨10,2,(b.dr.length:Int),0,0,d.dt⟩=F;have fl:F.length=b.dr.length:=(by rw[<- a];simp);have f1:∀m,m≠d.dr.length->F[m]? =b.dr[m]? :=λm j=>(by rw[<- a,AAe (by omega)]);have f2:F[d.dr.length]? =some ⟨10,2,(b.dr.length:Int),0,0,d.dt⟩:=(by rw[<- a,AAX (by omega)]);refine⟨C,H,aA,pre F λm hi=>f1 m ah,?_⟩;simp only
   have:=((val F ah λm hi=>f1 m ah).app (SG.one f2 (J _ _ ah) ak)).app (v F F.length ah ah λm j o=>f1 m ah);rw[fl]at this |-;exact this
 . -- with another part
   refine pB (put_eq _) λf hf=> ?_;subst hf;refine pE (y:=⟨10,2,0,0,0,d.dt⟩) (by rw[Jz];simp only;rw[Rg (by omega)];exact bd) ?_;simp only;generalize a:(b.dr++[(⟨5,0,0,0,0,g.dt⟩:Ai)]).set d.dr.length ⟨10,2,((b.dr++[(⟨5,0,0,0,0,g.dt⟩:Ai)]).length:Int),0,0,d.dt⟩=F;have fl:F.length=b.dr.length+1:=(by rw[<- a];simp);have f1:∀m,m≠d.dr.length->m<b.dr.length->F[m]? =b.dr[m]? :=λm j o=>(by rw[<- a,AAe (by omega),Rg o]);have f2:F[d.dr.length]? =some ⟨10,2,((b.dr.length+1:Nat):Int),0,0,d.dt⟩:=(by rw[<- a,AAX (by simp;omega)];simp);have f3:F[b.dr.length]? =some ⟨5,0,0,0,0,g.dt⟩:=(by rw[<- a,AAe (by omega)];exact YC);have h4:=hE ⟨b.w,b.dq,F,g.dt,b.next⟩ ⟨by simp only;rw[C];exact E.w,H.trans E.l⟩ aA;refine pB h4 λm hi=> ?_;obtain⟨z,Su⟩:=hi;simp only at Su;have z:=z.mono (lo':=lo) (hi':=hi) aA aA;have i1:b.dr.length+1<=m.dr.length:=(by have:=z.n;simp only[fl]at this;exact this);have O:∀k,k<b.dr.length+1->m.dr[k]? =F[k]? :=λk hk=>z.p k (by simp only[fl];exact hk);have is:SG g.w lo hi m.dr (b.dr.length+1) m.dr.length m.dr.length:=(by have:=z.s;simp only[fl,C]at this;exact this);refine pE (y:=⟨5,0,0,0,0,g.dt⟩) (by rw[Jz,O _ (by omega)];exact f3) (pR ⟨?_,aA⟩);simp only;generalize L:m.dr.set b.dr.length ⟨5,(m.dr.length:Int),0,0,0,g.dt⟩=K;have kl:K.length=m.dr.length:=(by rw[<- L];simp);have P:∀k,k≠b.dr.length->K[k]? =m.dr[k]? :=λk j=>(by rw[<- L,AAe (by omega)]);have Q:∀k,k≠d.dr.length->k<b.dr.length->K[k]? =b.dr[k]? :=λk j o=>(by rw[P k (by omega),O k (by omega),f1 k j o]);have k3:K[d.dr.length]? =some ⟨10,2,((b.dr.length+1:Nat):Int),0,0,d.dt⟩:=(by rw[P _ (by omega),O _ (by omega)];exact f2);have k4:K[b.dr.length]? =some ⟨5,(m.dr.length:Int),0,0,0,g.dt⟩:=(by rw[<- L,AAX (by omega)]);refine⟨z.w.trans C,z.l.trans H,aA,pre K λm hi=>Q m ah ah,?_⟩;simp only;have U:=((val K ah λm hi=>Q m ah ah).app (SG.one k3 (J _ _ ah) ak)).app (v K K.length ah ah λm j o=>Q m ah o);have V:SG g.w lo hi K (b.dr.length+1) m.dr.length K.length:=is.frame (λk j _=>(P k ah).symm) ah ah ah ah
   have:=U.jump k4 (Z _ _ ah) rfl rfl V;rw[kl]at this |-;exact this
theorem xY(d:Nat):QL d []=0:=by cases d<;>rfl
end
section
variable{T:kp}{g h r:BL}{lo hi lo' hi':Int}
theorem iH(h:g.w.Ak=[⟨cN,0⟩]):Cj g cN=some (0,g):=by unfold Cj;have a:=BP;obtain⟨n,hn⟩:∃n,BT=n+1:=⟨BT-1,ah⟩;rw[hn];unfold Cj.AW Cj.L1;rw[h];simp[gt]
theorem At_par{l:jf}{s:ABv}(e:l.length<1000000):NJ (Ch l s) λr=>s∈l->0<=r/\r<l.length:=by
 unfold Ch;refine pLs l.length (λi (_:Unit)=>∀j:Nat,j<i->l[j]? ≠some s) (s0:=()) (F:=λn _ i=>Ch.AW l s n i) (λ_ _=>rfl) ah (λj d=>ah) λn i _ hi f k=> ?_;unfold Ch.AW Ch.L1 Ch.J1;refine pD (λb=>pE (B4 ah) (pI (λ_=>pR λ_=>ah) λc=>k () ah ?_)) λh=>pR λa=> ?_
 . grind
 . obtain⟨j,j1,g⟩:=ABX a;grind
theorem stmt_par{s:AR}(m:GW T g)(u:Iz T (n+1) s)(hn:0<=g.next/\g.next+(1+i+j)<=1000000)(hB:BS T R s.dx i)(hE:BS T R s.d7 j)(b0:s.dx=[]->i=0)(e0:s.d7=[]->j=0):
 NJ (Cw (DC R) (DP R) g s) λr=>GV g r g.next (g.next+(1+i+j))/\r.next=g.next+(1+i+j):=by
 have hw:A6 (g.next+1)=g.next+1:=CG ah ah;have bd:=u.2.2.2.2.2.2.2.2.1;have nm:=u.2.2.2.2.2.2.2.2.2;have nB:s.Op∉[(2:Int),3,4,5,6,7,8]->i=0:=λh=>b0 (bd.1 h);have K:s.Op≠2->j=0:=λh=>e0 (bd.2 h);unfold Cw;rw[hw];generalize o:BL.mk g.w g.dq g.dr g.next (g.next+1)=g1;have I:GW T g1:=by rw[<- o];exact⟨m.w,m.l⟩
 have gs:g1.dt=g.next:=by rw[<- o]
 have H:g1.next=g.next+1:=by rw[<- o]
 have E:g1.w=g.w:=by rw[<- o]
 have gl:(g1.dq.length:Int)=2:=by rw[I.l];rfl
 have up:∀{r lo hi},GV g1 r lo hi->GV g r lo hi:=λh=>by rw[<- o]at h;exact⟨h.w,h.l,h.n,h.p,h.s⟩
 have si:g.next<=g1.dt/\g1.dt<g.next+(1+i+j):=by rw[gs];omega
 -- one instruction
 have P:∀B:Ai,s.Op∉[(2:Int),3,4,5,6,7,8]->LV g1.w g.next (g.next+(1+i+j)) (g1.dr.length+1) ⟨B.Op,B.A,B.B,B.C,B.N,g1.dt⟩->B.Op≠5->NJ ((BH g1 B).bind λv=>some v) λr=>GV g r g.next (g.next+(1+i+j))/\r.next=g.next+(1+i+j):=by intro B F J h3;have z1:=nB F;have z2:=K (by intro h;rw[h]at F;simp at F);exact pM (JH J h3) λr h=>⟨up h.1,by rw[h.2.2,H];omega⟩
 have A:∀{a b c:Int},s.Op≠2->11<=a/\a<=25->11<=b/\b<=25->(∀p S,p=a\/p=b->AO g1.w ⟨p,c,0,0,0,S⟩=some true)->NJ ((DP R g1 s a b c).bind λv=>some v) λr=>GV g r g.next (g.next+(1+i+j))/\r.next=g.next+(1+i+j):=by intro a b c J ha O V;have z2:=K J;exact pB (rJ (lo:=g.next) (hi:=g.next+(1+i+j)) I si ah ah ah hB ha O V) λr h=>pR ⟨up h.1,by rw[h.2,H];omega⟩
 have lk:g.w.AK=ZY:=m.w.l;have j1:∀b,(b=true->s.Op=2\/s.Op=3)->(b=false->s.Op≠1/\s.Op≠2/\s.Op≠3)->NJ (Cw.J1 (DC R) (DP R) g s b) λr=>GV g r g.next (g.next+(1+i+j))/\r.next=g.next+(1+i+j):=by
  intro b O Q;unfold Cw.J1;rw[hw,o];refine pI (λh=> ?_) λh0=> ?_
  . have V:=O h;have U:Up 2 s.dv:=u.2.2.1.resolve_right λh=>h.1 (by rcases V with h|h<;>simp[h]);exact pB (gY (lo:=g.next) (hi:=g.next+(1+i+j)) I si ah ah ah U hB hE (λh=>K ah) e0) λr h=>pR ⟨up h.1,by rw[h.2,H];omega⟩
  have n0:=Q h0;refine pI (λh=> ?_) λn4=>pI (λh=> ?_) λn5=>pI (λh=> ?_) λn6=>pI (λh=> ?_) λn7=>pI (λh=> ?_) λn8=> ?_
  . have h:=eq_of_beq h;rw[lk];rcases nm.2.1 h with F|F<;>rw[F]
    . exact pE (y:=0) (by decide +kernel) (A ah ah ah λp S G=>objM aA (y:=⟨⟨#[109]⟩,false⟩) (by rw[E,lk];rfl) rfl)
    . exact pE (y:=1) (by decide +kernel) (A ah ah ah λp S G=>objM aA (y:=⟨⟨#[110]⟩,false⟩) (by rw[E,lk];rfl) rfl)
  . have h:=eq_of_beq h;rw[lk,nm.2.2.1 (.inl h)];exact pE (y:=2) (by decide +kernel) (A ah ah ah λp S G=>objR aA (y:=⟨⟨#[114]⟩,true⟩) (by rw[E,lk];rfl) rfl)
  . have h:=eq_of_beq h;rw[lk,nm.2.2.1 (.inr h)];exact pE (y:=2) (by decide +kernel) (A ah ah ah λp S G=>objR aA (y:=⟨⟨#[114]⟩,true⟩) (by rw[E,lk];rfl) rfl)
  . have h:=eq_of_beq h;exact A ah ah ah λp S G=>uJ (by rcases G with h|h<;>simp[h])
  . have h:=eq_of_beq h;exact A ah ah ah λp S G=>uJ (by rcases G with h|h<;>simp[h])
  simp only[ABZ,ne_eq]at n4 n5 n6 n7 n8;have D:s.Op∉[(2:Int),3,4,5,6,7,8]:=an
  have L:∀{p c e:Int},11<=p/\p<=25->AO g1.w ⟨p,c,0,0,0,g1.dt⟩=some true->LV g1.w g.next (g.next+(1+i+j)) (g1.dr.length+1) ⟨p,c,0,0,0,g1.dt⟩:=λF J=>
   ⟨aA,J,by rw[rg0 aA];simp,si,aA,aA⟩
  have M:g1.w.Ak=[⟨cN,0⟩]:=by rw[E];exact m.w.d
  have HT:(g1.w.Ak.length:Int)=1:=by rw[M];rfl
  refine pI (λh=> ?_) λn9=>pI (λh=> ?_) λW=>pI (λh=> ?_) λX=>pI (λh=> ?_) λZ=>pI (λh=> ?_) λn13=>pI (λh=> ?_) λn14=>pI (λh=> ?_) λn15=> ?_
  . rw[u.2.2.2.1 (by simp[eq_of_beq h])];exact pE (iH M) (P ⟨21,0,0,0,0,0⟩ D (L (e:=0) ak (objC (.inl rfl) aA)) ak)
  . rw[u.2.2.2.1 (by simp[eq_of_beq h])];exact pE (iH M) (P ⟨22,0,0,0,0,0⟩ D (L (e:=0) ak (objC (.inr (.inl rfl)) aA)) ak)
  . rw[u.2.2.2.1 (by simp[eq_of_beq h])];exact pE (iH M) (P ⟨23,0,0,0,0,0⟩ D (L (e:=0) ak (objC (.inr (.inr rfl)) aA)) ak)
  . refine pB (At_par (by have:=m.w.n;omega)) λv z=> ?_
    have:=z (m.w.t _ (nm.2.2.2.1 (.inl (eq_of_beq h))));exact P ⟨24,v,0,0,0,0⟩ D (L (e:=0) ak (objT (.inl rfl) (by simp only;rw[E];exact this))) ak
  . refine pB (At_par (by have:=m.w.n;omega)) λv z=> ?_
    have:=z (m.w.t _ (nm.2.2.2.1 (.inr (eq_of_beq h))));exact P ⟨25,v,0,0,0,0⟩ D (L (e:=0) ak (objT (.inr rfl) (by simp only;rw[E];exact this))) ak
  . have h:=eq_of_beq h;have U:Up 2 s.dv:=u.2.2.1.resolve_right λq=>q.1 (by simp[h]);have z1:=nB D;have z2:=K ah;rw[show(g.dq.length:Int)=2 from by rw[m.l];rfl];refine pB (Va (lo:=g.next) (hi:=g.next+(1+i+j)) U I si ah) λv z=> ?_;have hf:v.w.AL=[⟨#[102]⟩]:=(by rw[z.1.w,E];exact m.w.f);rw[hf,nm.2.2.2.2.1 h];refine pE (y:=0) (by decide +kernel) (pM (JH ⟨ak,obj26 rfl (by rw[hf];simp),by rw[rg26 rfl];exact jZ (x:=0) ak,by rw[z.2.1];exact si,ak,ak⟩ ak) λr h=>⟨up (z.trans h).1,by rw[h.2.2,z.2.2,H];omega⟩)
  . have h:=eq_of_beq h;have hn:=nm.2.2.2.2.2 h;rw[m.l,m.w.f,hn.1,hn.2];refine pE (y:=0) (by decide +kernel) (pE (y:=0) (by decide +kernel) (P ⟨27,0,0,0,0,0⟩ D ⟨ak,obj27 rfl (by rw[E,m.w.f];simp),by rw[rg27 rfl];exact jZ (x:=0) ak,si,ak,ak⟩ ak))
  . have:=u.1;simp only[ABZ,ne_eq]at n9 W X Z n13 n14 n15;omega
 refine pI (λh=> ?_) λn1=>pI (λh=>j1 _ (λ_=>.inl (eq_of_beq h)) λh'=>by rw[h']at h;cases h) λn2=>j1 _ (λh=>.inr (eq_of_beq h)) λh=>⟨by simpa using n1,by simpa using n2,by simpa using h⟩;have h:=eq_of_beq h;have z1:=nB (by rw[h];decide);have z2:=K ah;exact pB (rM (lo:=g.next) (hi:=g.next+(1+i+j)) I si u h) λr h=>pR ⟨up h.1,by rw[h.2.2,H];omega⟩
theorem stmts_par(d:Nat):∀(n:Nat)(l:ju),3*d+1<=n->Uq T d l->BS T (Dl n) l (QL d l):=by
 induction d with
 |zero=>intro n l hn ⟨_,h⟩ g hg c;obtain⟨n,rfl⟩:∃k,n=k+1:=⟨n-1,ah⟩;have:l=[]:=ABB.2 λx c=>(h x c).elim;subst this;show NJ (some g) _;exact pR ⟨GV.refl,by simp[QL]⟩
 |succ d ih=>
  intro n l hn ⟨h1,h2⟩ g hg c;obtain⟨n,rfl⟩:∃k,n=k+3:=⟨n-3,ah⟩;show NJ (CV (Cw (DC (Dl n)) (DP (Dl n))) g l) _;unfold CV
  let f:AR->Nat:=λs=>1+QL d s.dx+QL d s.d7
  have t:QL (d+1) l=(l.map f).sum:=rfl;refine pLs l.length (λi s=>GV g s g.next (g.next+((l.take i).map f).sum)/\s.next=g.next+((l.take i).map f).sum) (F:=λm s i=>CV.AW _ l m s i) (λ_ _=>rfl) ah ⟨GV.refl,ak⟩ λm i s hi p k=> ?_;obtain⟨a,e⟩:=p;unfold CV.AW CV.L1;refine pD (λq=>pE (B4 ah) ?_) λu=> ?_
  . have st:=aY (l:=l) (i:=i) ah f;have o:=Nt l (i+1) f;have b:l[i]∈l:=AAi ah;have r:f l[i]=1+QL d l[i].dx+QL d l[i].d7:=rfl;refine pB (stmt_par (hg.next a) (h2 _ b) ah (ih n _ ah (h2 _ b).body) (ih n _ ah (h2 _ b).els) (λh=>by rw[h];exact xY d) λh=>by rw[h];exact xY d) λv j=>k _ ah ?_;rw[e]at j;refine⟨(a.mono ah ah).trans (j.1.mono ah ah),ah⟩
  . have:i=l.length:=ah;subst this;rw[List.take_length]at a e;exact pR ⟨a,e⟩
theorem Tc{a b:Nat}(h:l.length<=8000000)(g:b<=l.length):∀(n fuel i k m:Nat),Rx l a b n k m->Ev l m->n+i<=l.length->l.length+1<fuel+i->CW.AW l fuel k i=some true:=by
 intro n;induction n with
 |zero=>intro fuel i k m r ⟨x,x1,x2⟩ h1 h2;cases r;obtain⟨fuel,rfl⟩:∃f,fuel=f+1:=⟨fuel-1,ah⟩;have c:=(AAV.1 x1).1;unfold CW.AW CW.L1 CW.J1;rw[BC ah,Ad ah,AAa an,Jz,x1,AAS,RT,x2];rfl
 |succ n ih=>
  intro fuel i k m ⟨c,j,⟨x,x1,x2,x3⟩,r⟩ ev h1 h2;obtain⟨fuel,rfl⟩:∃f,fuel=f+1:=⟨fuel-1,ah⟩;unfold CW.AW CW.L1 CW.J1 CW.J2;have c:=(AAV.1 x1).1;rw[BC ah,Ad ah,AAa an,Jz,x1,AAS,RT,x2,AAS,Af ah]
  have:=ih fuel (i+1) j m r ev ah ah;rcases x3 with⟨d,e⟩|⟨d,rfl⟩
  . simp_all
  . rw[AAa ak,AAa am,Af ah];exact this
structure VO (w:AF) (t:Int) (c:A5):Prop where
 r:2<=c.C3/\c.C3<=32
 n:∃out lo hi,c.B8=out++[⟨28,0,0,0,0, -1⟩]/\SG w lo hi out 0 out.length out.length/\(∀k,lo<=k->k<hi->∃y,gt w.Be k=some y/\y.cr=t)
 g:∀x∈c.B8,∀y∈rg x,y<c.C3
theorem objE(h:u.Op=28):AO wv u=some true:=by simp[AO,AO.J3,AO.J5,AO.J7,AO.J8,h]
theorem WM{c:A5}(C:c.B8.length<=8000000)(S:VO wv t c):AZ wv t c=some true:=by
 obtain⟨⟨r1,r2⟩,⟨out,lo,hi,H,I,V⟩,Q⟩:=S;have Z:c.B8.length=out.length+1:=by rw[H];simp
 have L:=BP
 -- an instruction
 have l:∀(i:Nat) x,c.B8[i]? =some x->(i<out.length/\out[i]? =some x)\/i=out.length/\x=⟨28,0,0,0,0, -1⟩:=by
  intro i x q;rw[H]at q;by_cases h:i<out.length
  . grind
  . grind
 have U:c.B8[out.length]? =some ⟨28,0,0,0,0, -1⟩:=by rw[H];exact YC
 have v:∀i:Nat,i<c.B8.length->CW c.B8 (i:Int)=some true:=by
  intro i hi;have K:∀{n k m},Rx out 0 out.length n k m->Rx c.B8 0 out.length n k m:=λr=>r.frame (λj _ R=>aS) ah ah;have J:Ev c.B8 out.length:=⟨_,U,rfl⟩;unfold CW;by_cases h:i<out.length
  . rcases I.f i ah h with⟨n,m,r,m1,⟨x,x1,W⟩,hn⟩|⟨n,r,hn⟩
    . exact Tc C ah n BT 0 i m (K r) ⟨x,aS,W⟩ ah ah
    . exact Tc C ah n BT 0 i _ (K r) J ah ah
  . obtain rfl:i=out.length:=ah;exact Tc (a:=0) (b:=0) C ah 0 BT 0 _ _ rfl J ah ah
 have key:B5 (AZ wv t c) λb=>b=true:=by
  unfold AZ;refine tD bN λ_=>tD bN λ_=> ?_;rw[show((c.B8.length:Int)==0)=false from ABZ.2 ah];unfold AZ.J1;refine tI bm λ_=>RI c.B8.length (λ_ (_:Unit)=>True) (s0:=()) (F:=λn _ i=>AZ.AW c t wv n i) ah trivial λn i _ hi _ k=> ?_;unfold AZ.AW AZ.L1 AZ.J6;refine tD (λX=>gC ah ?_) λ_=>tR rfl;have q:c.B8[i]? =some c.B8[i]:=AAZ ah;have u:c.B8[i]∈c.B8:=AAi ah;generalize c.B8[i]=x at q u;have M:CW c.B8 (i:Int)=some true:=v i ah;have N:A6 ((c.B8.length:Int)-1)=out.length:=by rw[CG ah ah];omega
  -- the registers
  have z:B5 (AZ.J4 (AZ.AW c t wv n) c i x false) λb=>b=true:=by
   unfold AZ.J4;refine tI bm λ_=>tE (HC x).1 (RI (rg x).length (λ_ (_:Unit)=>True) (s0:=()) (F:=λn _ i=>AZ.CC _ c _ (rg x) n i) (by have:=(HC x).2;omega) trivial λm j _ R _ T=> ?_);unfold AZ.CC AZ.L2 AZ.J5;refine tD (λ_=>gC ah ?_) λ_=>k () ah trivial;have E:(rg x)[j]∈rg x:=AAi ah;have O:0<=(rg x)[j]:=by
    rcases l i x q with⟨h,B⟩|⟨_,rfl⟩
    . exact((I.i i x ah h B).g _ E).1
    . have:=List.length_pos_of_mem E;rw[rg0 (.inr (.inr rfl))]at this;cases this
   exact tE (JW ⟨O,Q x u _ E⟩) (tI bm λ_=>T () ah trivial)
  rcases l i x q with⟨p,B⟩|⟨D,rfl⟩
  . have d:=I.i i x ah p B;have lo':=d.o;have G:x.Op≠28:=ah;refine tD bN λ_=>tD bN λ_=> ?_;rw[N,show(x.Op==28)=false from by simp_all,show((i:Int)==(out.length:Int))=false from by simp;omega];refine tI bm λ_=>tE d.ob (tI bm λ_=>tE M ?_);unfold AZ.J2;obtain⟨y,y1,y2⟩:=V _ d.s.1 d.s.2;refine tI bm λ_=>tI (λh=>absurd (eq_of_beq h) G) λ_=>tI (λ_=> ?_) λh=>am;refine tE (JW (eW y1)) (tI bm λ_=>tE y1 ?_);rw[y2,show(t != t)=false from by simp];unfold AZ.J3;refine tI bm λ_=>tI (λP=> ?_) λ_=>tI (λe=> ?_) λ_=>z
    . have:=d.j (eq_of_beq P);refine tE (JW ah) (tI bm λ_=>tI (λe=> ?_) λ_=>z);simp_all
    . have:=d.b (eq_of_beq e);exact tE (JW ah) z
  . refine tD (λh=>by simp at h) λ_=>tD (λh=>by simp at h) λ_=> ?_;rw[N,D];simp only[ABM,Bool.not_true];refine tI bm λ_=>tE (objE rfl) (tI bm λ_=>tE (D▸M) ?_);rw[D]at z;unfold AZ.J2 AZ.J3;simp_all
 obtain⟨b,L,rfl⟩:=key;exact L
end
section
theorem fW(hi:t<n):∀(S:mu)(m:Int)(R:mu),SN t m S->HY n t m (S++R)=HY n t (m+S.length) R:=by
 intro S;induction S with
 |nil=>simp_all
 |cons x r ih=>
  intro m R h;obtain⟨c,a⟩:=h 0 x rfl;have b:SN t (m+1) r:=λj y d=>by have:=h (j+1) y am;omega
  rw[ABE,HY,AAa ah,AAa ah,ih _ _ b,a];grind
theorem u9{nt:Nat}{i:Int}(hi:i<nt)(h:t<i\/t=i/\o=0)(a:SN i 0 S):∃b c,(b<i+1\/b=i+1/\c=0)/\∀R,HY nt t o (S++R)=HY nt b c R:=by
 rcases h with h|⟨rfl,rfl⟩
 . cases S with
   |nil=>exact⟨t,o,.inl ah,λ_=>rfl⟩
   |cons x r=>obtain⟨d,e⟩:=a 0 x rfl;have f:SN i 1 r:=λj y g=>(by have:=a (j+1) y (by simp_all);omega);refine⟨i,1+r.length,.inl ah,λR=> ?_⟩;rw[ABE,HY,AAa ah,AAb ah,d,fW hi _ _ _ f,e];simp
 . exact⟨t,0+S.length,.inl ah,λR=>fW hi _ _ _ a⟩
def Uo(p:AU)(i:Nat):Nat:=((p.AA.take i).map λt=>QL 4 t.dx).sum
def fJ(h:i<p.AA.length):Uo p (i+1)=Uo p i+QL 4 p.AA[i].dx:=gA h _
theorem jX(h:(p.AA.map λt=>QL 4 t.dx).sum<=60)(i:Nat):Uo p i<=60:=by
 have:((p.AA.map λt=>QL 4 t.dx)).sum=Uo p i+((p.AA.drop i).map λt=>QL 4 t.dx).sum:=by
  conv=>lhs;rw[<- ABS i p.AA,AA5,List.sum_append]
  rfl
 omega
theorem offP_mono(h:i<=j):Uo p i<=Uo p j:=by
 have:Uo p j=Uo p i+(((p.AA.take j).drop i).map λt=>QL 4 t.dx).sum:=by
  unfold Uo
  conv=>lhs;rw[<- ABS i (p.AA.take j),List.take_take,Nat.min_eq_left h,AA5,List.sum_append]
 omega
structure WV (p:AU) (N:Nat) (w:AF):Prop where
 c:w.df=MM
 l:w.AK=ZY
 d:w.Ak=[⟨cN,0⟩]
 f:w.AL=[⟨#[102]⟩]
 t:w.AA=(p.AA.take N).map (·.di)
 n:w.Be.length=Uo p N
 o:∀j k,j<N->Uo p j<=k->k<Uo p (j+1)->∃y,w.Be[k]? =some y/\y.cr=(j:Int)
 s:∃t n:Int,(t<N\/t=N/\n=0)/\∀R,HY p.AA.length 0 0 (w.Be++R)=HY p.AA.length t n R
theorem World_ok(h:MP p)(u:∃l,BF p=some (0,l))(C:(p.AA.map λt=>QL 4 t.dx).sum<=60):B5 (CA p) (WV p p.AA.length):=by
 obtain⟨l,u⟩:=u;have N:=h.t;unfold CA;refine tE u (tI bm λ_=> ?_);have key:∀D T,E7=some D->CA.AW ⟨D,T⟩ BT (AF.mk [] [] [] [] [] []) 0=CA.J4 ⟨D,T⟩ ⟨MM,ZY,[⟨cN,0⟩],[⟨#[102]⟩],[],[]⟩:=by
  intro D T x;unfold E7 at x;obtain rfl:=AAW x
  kernel_rfl
 rw[show CA.AW p BT (AF.mk [] [] [] [] [] []) 0=_ from key p.d9 p.AA h.d];unfold CA.J4;show B5 (CA.Gc p BT ⟨MM,ZY,[⟨cN,0⟩],[⟨#[102]⟩],[],[]⟩ 0) _;refine RI p.AA.length (λi w=>WV p i w) (F:=λn s i=>CA.Gc _ n s i) ah ⟨rfl,rfl,rfl,rfl,rfl,rfl,λj k h=>ah,0,0,.inr ⟨rfl,rfl⟩,λ_=>rfl⟩ λn i w hi a k=> ?_;unfold CA.Gc CA.L3 CA.J5;refine tD (λg=>gC ah ?_) λO=>tR ?_
 . have g:i<p.AA.length:=ah;have E:=fJ g;have G:=jX C (i+1);have hn:=a.n;refine tC (Bs (by rw[a.t];simp;omega)) (tB (sites_ok 4 _ _ _ _ _ (NT ah) ah ah (h.b _ (AAi g))) λv H=>k _ ah ?_);obtain⟨S,L,V,z,W⟩:=H;obtain⟨t,m,K,P⟩:=a.s;obtain⟨J,I,Q,U⟩:=u9 (nt:=p.AA.length) (i:=i) ah K z;refine⟨a.c,a.l,a.d,a.f,?_,?_,?_,J,I,ah,λR=> ?_⟩
   . simp only;rw[a.t,<- AAp g,AA5];rfl
   . simp_all
   . intro j q M r B;simp only;rw[L];by_cases e:j<i
     . have:=offP_mono (p:=p) (show j+1<=i by omega);rw[AA0 ah];exact a.o j q e r B
     . obtain rfl:j=i:=ah;rw[AAx ah];have y:q-w.Be.length<S.length:=ah;exact⟨S[q-w.Be.length],AAZ y,(z _ _ (AAZ y)).1⟩
   simp_all
 grind
theorem WV.names(a:WV p p.AA.length wv):wv.AA=p.AA.map (·.di):=by rw[a.t,List.take_length]
theorem worldS_ok(h:MP p)(o:(p.AA.map λt=>QL 4 t.dx).sum<=60)(a:WV p p.AA.length wv):Cy wv=true:=by
 obtain⟨n,z,B,nm⟩:=h.nm;have e:=a.names;rw[nm]at e;obtain⟨t,m,C,y⟩:=a.s;have b:=y [];rw[List.append_nil]at b;have x:p.AA.length=wv.AA.length:=by rw[a.names,AA6]
 rw[x]at b;have hn:=a.n;have q:=jX o p.AA.length;have g:=a.c;have i:=a.l;have j:=a.d;have k:=a.f;obtain⟨c,l,d,f,T,S⟩:=wv;simp only at g i j k e hn b;subst g i j k;have v:Aa MM=some ([⟨#[120]⟩,⟨#[121]⟩,⟨#[118]⟩,qS],true):=by decide +kernel
 have r:HY T.length 0 0 S=true:=b;have u:T=QM.take 1\/T=QM.take 2\/T=QM.take 3\/T=QM.take 4:=by
  have:n=1\/n=2\/n=3\/n=4:=ah
  rcases this with rfl|rfl|rfl|rfl<;>simp[e]
 unfold Cy;simp only[v,r];have hd:decide (S.length<=60)=true:=decide_eq_true ah;rw[hd];rcases u with rfl|rfl|rfl|rfl<;>(show @Eq Bool _ true;kernel_rfl)
theorem sP(h:MP p)(O:∃l,BF p=some (0,l)):B5 (A2 p) λr=>CK r.1/\CJ r.1=some true:=by
 obtain⟨q,hq,U⟩:=check60 h;have T:(p.AA.map λt=>QL 4 t.dx).sum<=60:=by obtain⟨l,O⟩:=O;rw[O]at hq;cases hq;exact U rfl
 have ht:=h.t
 let Q:Bj->Prop:=λc=>WV p p.AA.length c.cT/\c.AA.length=p.AA.length/\∀(j:Nat) t,c.AA[j]? =some t->VO c.cT j t
 have par:NJ (A2 p) λr=>Q r.1:=by
  obtain⟨l,S⟩:=O;unfold A2;refine pE S (pI bm λ_=>pB (pA (pT (dX h ⟨l,S⟩)) (pT (World_ok h ⟨l,S⟩ T))) λw B=> ?_);obtain⟨mw,B⟩:=B;have wf:WF (λs=>s∈p.AA.map (·.di)) w:=⟨B.c,B.l,B.d,B.f,λs X=>by rw[B.names];exact X,by rw[B.names,AA6];exact ht⟩;refine pLs p.AA.length (λi (s:Bj×Int)=>s.1.cT=w/\s.1.AA.length=i/\s.2=Uo p i/\∀(j:Nat) t,s.1.AA[j]? =some t->VO w j t) (F:=λn s i=>A2.AW p n s.1 s.2 i) (s0:=(_,_)) (λ_ _=>rfl) ah ⟨rfl,rfl,rfl,ak⟩ λn i s hi X k=> ?_;obtain⟨G,s2,s3,s4⟩:=X;unfold A2.AW A2.L1 A2.J4;refine pD (λH=>pE (B4 ah) ?_) λqK=>pR ⟨by simp only;rw[G];exact B,aA,by simp only;rw[G];exact s4⟩;have H:i<p.AA.length:=ah
  have L:p.AA[i]∈p.AA:=AAi H;have ho1:=fJ H;have ho2:=jX T (i+1);have hc:cg 4=336840:=rfl;have g0:GB (BL.mk s.1.cT p.AA[i].G0 [] 0 s.2) 4000000:=⟨by rw[G];exact mw,h.l _ L,ak⟩;refine pB (pA (pT (Y5 4 _ _ _ (NT ah) (g0.less ah) (h.b _ L))) (stmts_par 4 _ _ (NT ah) (h.b _ L) ⟨s.1.cT,p.AA[i].G0,[],0,s.2⟩ ⟨by rw[G];exact wf,h.lo _ L⟩ aA)) λv hv=>pB (put_eq _) λu hu=> ?_;obtain⟨v0,v1,v2⟩:=hv;have v0:=v0.b;simp only[ABc]at v0;have W:(u.dq.length:Int)=2:=by rw[hu];simp only;rw[v1.l];simp only;rw[h.lo _ L];rfl
  have R:u.dr=v.dr++[⟨28,0,0,0,0, -1⟩]:=by rw[hu]
  have sg:=v1.s;simp only[ABc,G,s3]at sg;have v2':v.next=Uo p (i+1):=by rw[v2];simp only;omega
  have rb:∀y∈u.dr,∀r∈rg y,0<=r/\r<32:=by
   intro y x r e;rw[R]at x;rcases AAo.1 x with x|x
   . obtain⟨m,m1,m2⟩:=ABX x;exact(sg.i m y ah m1 (by rw[AAZ m1,m2])).g r e
   . rw[AAw.1 x,rg0 (.inr (.inr rfl))]at e;cases e
  rw[W];have jF:u.dr.length<1000000000000:=by rw[R];simp;omega
  refine pLs u.dr.length (λk (t:A5)=>t.B8=u.dr/\(2<=t.C3/\t.C3<=32)/\∀y∈u.dr.take k,∀r∈rg y,r<t.C3) (F:=λn t k=>A2.CC _ _ _ _ _ n t k) (λ_ _=>rfl) jF ⟨rfl,ak,ak⟩ λm q t hq2 Z k2=> ?_;obtain⟨t1,t2,t3⟩:=Z;unfold A2.CC A2.L2 A2.J2 A2.J3;refine pD (λhlt2=>pE (B4 ah) ?_) λhge2=>pC λ_=>k (_,_) ah ⟨G,an,v2',?_⟩
  . have x:u.dr[q]∈u.dr:=AAi ah;have ry:=rb _ x;have K:q<u.dr.length:=ah;have tk:=AAp K;generalize u.dr[q]=y at x ry tk;refine pE (HC y).1 (pLs (rg y).length (λl (t:A5)=>t.B8=u.dr/\(2<=t.C3/\t.C3<=32)/\(∀y∈u.dr.take q,∀r∈rg y,r<t.C3)/\∀r∈(rg y).take l,r<t.C3) (F:=λn t k=>A2.Gc _ _ _ n t k) (λ_ _=>rfl) (by have:=(HC y).2;omega) ⟨t1,t2,t3,ak⟩ λm3 M D hq3 ht3 k3=> ?_);obtain⟨x1,x2,x3,x4⟩:=ht3;unfold A2.Gc A2.L3 A2.J1;refine pD (λhlt3=>pE (B4 ah) ?_) λhge3=>k2 _ K ⟨x1,x2,λz C r e=> ?_⟩
    . have e:(rg y)[M]' ah∈rg y:=AAi ah;have V:=ry _ e;have N:=AAp (show M<(rg y).length by omega);generalize (rg y)[M]' ah=r at e V N;rw[CG ah ah];have J:∀z,(if r+1>D.C3 then r+1 else D.C3)=z->D.C3<=z/\r<z/\z<=32:=by intro z C;split at C<;>omega
      generalize C:(if r+1>D.C3 then r+1 else D.C3)=z
      obtain⟨z1,z2,z3⟩:=J z C;refine k3 _ ah ⟨x1,aA,λy x r e=>by have:=x3 y x r e;simp only;omega,?_⟩;rw[<- N];intro a I;rcases AAo.1 I with I|I
      . have:=x4 a I;simp only;omega
      . rw[AAw.1 I];exact z2
    . rw[<- tk]at C;rcases AAo.1 C with C|C
      . exact x3 z C r e
      . rw[AAw.1 C]at e;rw[AA3 ah]at x4;exact x4 r e
  . intro j D E;simp only at E;by_cases hj:j<s.1.AA.length
    . rw[AA0 hj]at E;exact s4 j D E
    . have:=(AAV.1 E).1;simp at this;obtain rfl:j=s.1.AA.length:=ah;rw[show(s.1.AA++[t])[s.1.AA.length]? =some t from by simp]at E;obtain rfl:=AAW E;rw[s2];rw[AA3 ah]at t3;refine⟨t2,⟨v.dr,_,_,by rw[t1,R],sg,λk k1 k2=> ?_⟩,by rw[t1];exact t3⟩;obtain⟨k,rfl⟩:∃m:Nat,k=m:=⟨k.toNat,ah⟩;rw[Jz];exact B.o i k H ah ah
 obtain⟨r,e,P⟩:=nA h;refine⟨r,e,P,?_⟩;obtain⟨q1,q2,M⟩:=par r e;have hl:r.1.AA.length=r.1.cT.AA.length:=by rw[q2,q1.names,AA6]
 have hn:=P.n;have key:B5 (CJ r.1) λb=>b=true:=by unfold CJ;refine tE (Ky _) ?_;rw[worldS_ok h T q1];refine tI bm λ_=> ?_;rw[hl,show((r.1.cT.AA.length:Int) != r.1.cT.AA.length)=false from by simp];unfold CJ.J1;refine tI bm λ_=>RI r.1.AA.length (λ_ (_:Unit)=>True) (s0:=()) (F:=λn _ i=>CJ.AW r.1 n i) ah trivial λn i _ hi _ k=> ?_;unfold CJ.AW CJ.L1 CJ.J2;refine tD (λH=>gC ah ?_) λ_=>tR rfl;refine tE (WM (P.i _ (AAi ah)) (M i _ (AAZ ah))) (tI bm λ_=>k () ah trivial)
 obtain⟨b,V,rfl⟩:=key;exact V
end
theorem Code_ok(d:c.length<=4000000000000000000)(e:∀x∈c,0<=x/\x<256):B5 (Od c) λl=>CK l/\CJ l=some true:=by unfold Od;exact tB (l8 d e) λp a=>tB (sP a.1 a.2) λl b=>tR b
theorem Trace_wf(g:c.length<=4000000000000000000)(j:∀x∈c,0<=x/\x<256)(i:f.length<=1000):B5 (M6 c f) λt=>TA f.length t/\Cy t.cT=true:=by unfold M6;refine tB (Code_ok g j) λp b=>tB (lW i) λl o=>tB (tP (Run_ok b.1 ah) (Q:=λr=>Cy r.1.cT=true) ?_) λr a=>tR ⟨⟨⟨by have:=a.1.m.n;omega,a.1.m.e,a.1.m.w⟩,a.1.c⟩,a.2⟩;obtain⟨v,d,s⟩:=RU b.1;rw[b.2]at d;have k:=s (AAW d).symm;unfold Ml;exact pE b.2 (pI bm λ_=>pB' λ_=>pB' λ_=>pR k.w)
theorem Check_ok{t:Ca}(a:TA n t)(hn:n<=400)(b:Cy t.cT=true):Jq t=(0,0):=by have:=a.m.n;unfold Jq;rw[AAa ah,AAb b,a.c]
theorem sceneW_m:Fw.Ak.all (λc=>Cp c.dm Fw.AK.length)=true:=by decide +kernel
structure SL (s:AD):Prop where
 l:s.de.AK.length=3
 d:s.de.Bp.length=1
 t:s.de.AA.length=4
 c:s.df.length=5
 u:s.AL.length=1
 n:s.dc.length=4
 r:RB 1 s.de
theorem SL.sc(h:SL s):SC 1 s:=by refine⟨?_,h.r⟩;simp only[JD,HJ,AAT,AAh,aH,VU,VS,h.d,h.t,h.c,h.u,h.n,and_self,and_true];exact⟨sceneW_m,by rw[h.l,aI]⟩
theorem eE(b:DX v)(x:Int)(d:c.length<=900):B5 (HO v x c) λr=>(-1<=r.1/\r.1<c.length)/\DX r.2:=by unfold HO HO.J1;rw[CG (n:=(c.length:Int)+2) ah ah];refine tB (FB b ah) ?_;rintro t ⟨e,a,_⟩;rw[CG (n:=t.1-2) ah ah];refine tI (λh=> ?_) λh=>tG aS λy _=>tI (λ_=>tR ⟨ah,a.1⟩) λ_=>tR ⟨aS,a.1⟩;exact tI (λ_=>tR ⟨ah,a.1⟩) λh=>by cases h
abbrev BG(o:ABu (AD×AX)):Prop:=B5 o λr=>SL r.1/\DX r.2
theorem Yj(e:DX v)(g:SL s):BG (Aj.bT v s):=by
 have o:=BP;have key:∀(n i:Nat)(v:AX)(f:AD),5<n+i->i<=5->DX v->SL f->BG (Aj.Gc s n v f i):=by
  intro n;induction n with
  |zero=>omega
  |succ n ih=>
   intro i v f k m e b;unfold Aj.Gc Aj.L3 Aj.vY;refine tI (λh=> ?_) λ_=>tR ⟨b,e⟩;have h:=AAc h
   have:=g.c;have:=b.c;refine tB (FB e ah) ?_;rintro a ⟨_,j,_⟩;rw[Af ah];exact tG ah λx _=>ih (i+1) _ _ ah ah j.1 ⟨b.l,b.d,b.t,am,b.u,b.n,b.r⟩
 exact key BT 0 v s ah ah e g
theorem WX(g:DX v)(e:SL s):BG (Aj.QP v s):=by
 unfold Aj.QP;refine tB (FB g ah) ?_;rintro a ⟨_,f,_⟩
 have:=e.d;have:=e.u;refine tI (λ_=>tG ah λx _=>tB (FB f.1 ah) ?_) λ_=>Yj f.1 e;rintro b ⟨_,bA,_⟩;exact tG ah λx _=>Yj bA.1 ⟨e.l,am,e.t,e.c,am,e.n,e.r⟩
theorem rT(g:DX v)(e:SL s):BG (Aj.J9 v s):=by unfold Aj.J9;refine tB (FB g ah) ?_;rintro a ⟨_,f,_⟩;refine tI (λ_=>tB (eE f.1 _ (by have:=e.n;omega)) ?_) λ_=>WX f.1 e;rintro b ⟨_,bA⟩;exact WX bA ⟨e.l,e.d,e.t,e.c,e.u,e.n,e.r⟩
theorem SL.lock(h:SL s)(i:Nat)(x:AY)(b:x.An.length<=1):SL (AD.mk (AQ.mk (s.de.AK.set i x) s.de.Tx s.de.Bp s.de.AA) s.df s.AL s.dc):=by
 refine⟨by simpa using h.l,h.d,h.t,h.c,h.u,h.n,?_⟩;intro y a;rcases mem_set a with a|rfl
 . exact h.r y a
 . exact b
theorem rS(g:DX v)(q:SL s):BG (Aj.J5 v s):=by
 have D:=BP;have key:∀(n i:Nat)(v:AX)(f:AD),3<n+i->i<=3->DX v->SL f->BG (Aj.CC s n v f i):=by
  intro n;induction n with
  |zero=>omega
  |succ n ih=>
   intro i v f B C g e;unfold Aj.CC Aj.L2;refine tI (λh=> ?_) λ_=>rT g e;have h:=AAc h
   have:=q.l;have:=e.l;have:=e.t;have:=e.n;have j:∀c m,DX c->SL m->BG (Aj.J8 (Aj.CC s n) i c m):=(by intro c m d y;unfold Aj.J8;rw[Af (by omega)];exact ih (i+1) _ _ (by omega) (by omega) d y);refine tB (eE g _ ah) ?_;rintro a ⟨a0,k⟩;refine tI (λ_=>j _ _ k e) λp=> ?_;have p:=of_decide_eq_false p;have o:∀c z,DX c->BG (Aj.J7 (Aj.CC s n) f i c a z):=(by intro c z d;unfold Aj.J7;exact tI (λ_=>j _ _ d e) λ_=>tG ah λx u=>j _ _ d (e.lock _ _ (e.r x u)));have w:∀c z,DX c->BG (Aj.J6 (Aj.CC s n) f i a c z):=(by intro c z d;unfold Aj.J6;exact tI (λ_=>tG ah λx u=>j _ _ d (e.lock _ _ ak)) λ_=>tI (λ_=>tG ah λx _=>tI (λ_=>o _ _ d) λ_=>o _ _ d) λ_=>o _ _ d);refine tI (λ_=>tB (FB k ah) ?_) λ_=>w _ _ k;rintro b ⟨_,bA,_⟩;exact w _ _ bA.1
 exact key BT 0 v s ah ah g q
def SL.thr(h:SL s)(b:y.length=4)(a:c.length=4):SL (AD.mk (AQ.mk s.de.AK s.de.Tx s.de.Bp y) s.df s.AL c):=⟨h.l,h.d,b,h.c,h.u,a,h.r⟩
theorem bV(s:DX v):BG (Aj v Fw):=by
 have a:=BP;unfold Aj;rw[K5 Fw aJ,AAS];have f:SL (Hi Fw):=by refine⟨?_,?_,?_,?_,?_,?_,RB.mono (RB.start Fw) ah⟩<;>simp[Hi,KS,aI,aH,VU,VS]
 generalize Hi Fw=p at f;have key:∀(n i:Nat)(u:AX)(b:AD),4<n+i->i<=4->DX u->SL b->BG (Aj.AW p n u b i):=by
  intro n;induction n with
  |zero=>omega
  |succ n ih=>
   intro i u b B C k a;unfold Aj.AW Aj.L1;refine tI (λh=> ?_) λ_=>rS k a;have h:=AAc h
   have:=f.n;have:=a.n;have:=a.t;have m:∀g e,DX g->SL e->BG (Aj.J4 (Aj.AW p n) i g e):=(by intro g e q r;unfold Aj.J4;rw[Af (by omega)];exact ih (i+1) _ _ (by omega) (by omega) q r);refine tB (FB k ah) ?_;rintro j ⟨j0,o,_⟩;refine tG ah λy _=> ?_;have D:∀t,BG (Aj.J2 (Aj.AW p n) b i j t):=(by intro t;have l:∀v,BG (Aj.J3 (Aj.AW p n) b t i j v):=(by intro v;unfold Aj.J3;refine tI (λ_=>tB (FB o.1 ah) ?_) λ_=>m _ _ o.1 (a.thr am a.n);rintro z ⟨_,c,_⟩;refine tG ah λx _=>tB (FB c.1 ah) ?_;rintro w ⟨_,d,_⟩;exact tG an λx _=>m _ _ d.1 (a.thr am am));unfold Aj.J2;exact tG ah λx _=>tI (λ_=>l _) λ_=>l _);unfold Aj.J1;grind
 exact key BT 0 v p ah ah s f
def TC(l:iq):Prop:=∀x∈l,0<=x/\x<256
theorem tape_of(a:c.length<=4000000000000000000)(h:TC c):DX ⟨c,0⟩:=⟨a,⟨Int.le_refl _,ak⟩,h⟩
structure WG (w:AG):Prop where
 v:MJ w=true
 e:∀e∈w.AB,KE e
 r:RB 1000 w.db.de
theorem Ol(e:TC f)(q:b<=16)(m:0<=b):B5 (D1 f b) WG:=by
 have s:=BP;have j1:∀i:List Int,i.length<=400->TC i->B5 (D1.J1 b i) WG:=by
  intro i hi hi';unfold D1.J1;rw[fV,AAS];refine tB (bV (tape_of ah hi')) ?_;rintro c ⟨cS,j⟩;have key:∀(n d:Nat)(a:Int),4<n+d->d<=4->B5 (D1.AW b c n ⟨Fw,a,c.1,[]⟩ d) WG:=by
   intro n;induction n with
   |zero=>omega
   |succ n ih=>
    intro d a o p
    have:=cS.n;unfold D1.AW D1.L1;refine tI (λh=> ?_) λ_=> ?_
    . have h:=AAc h;rw[Af ah];exact tG ah λt _=>ih (d+1) _ ah ah
    . unfold D1.J2;refine tB (play_tot j (cS.sc.mono ah) ah true) ?_;rintro l ⟨u,g⟩;rw[rValid_eq (w:=⟨Fw,a,c.1,l.1⟩) g (RB.mono cS.r ah),AAS];refine tI (λ_=> ?_) λh=>tR ⟨aS,g,RB.mono cS.r ah⟩;rw[fV,AAS,AAS,K5 Fw aJ,AAS];exact tR ⟨by decide +kernel,ak,RB.mono (RB.start Fw) ah⟩
  exact key BT 0 0 ah ah
 unfold D1;refine tI (λh=> ?_) λh=>j1 _ aS e;have h:=AAc h;exact tC ah (j1 _ an λx k=>e x (ABp k))
structure rC (v:Kk):Prop where
 p:TC v.ed
 s:TC v.GM
 c:TC v.mA
 z:0<=v.B3/\v.B3<256
 w:0<=v.dW/\v.dW<256
theorem madeAT{t:Ca}(h:TA n t)(hn:n<=400)(b:Cy t.cT=true):AT t:=AT.of (λe a=>(h.m.e e a).ok) (by rw[Check_ok h hn b])
theorem XG{v:Kk}(a:rC v)(r:0<t)(F:t<=16)(u:v.ed.length<=4000000000000000000):B5 (EM v t) WG:=by
 have C:((A6 v.B3).tmod t:Int)=v.B3.tmod t:=by rw[CG (by have:=a.z;omega) (by have:=a.z;omega)]
 have D:0<=v.B3.tmod t:=Int.tmod_nonneg _ a.z.1;have E:v.B3.tmod t<t:=Int.tmod_lt_of_pos _ r;unfold EM;rw[C,CG (n:=1+v.B3.tmod t) ah ah];refine tI (λ_=>tC ah (tB (Ol a.c ah ah) λw b=>tR b)) λ_=> ?_;have o:0<=(if 80<(v.GM.length:Int)then 80 else(v.GM.length:Int))/\((if 80<(v.GM.length:Int)then 80 else(v.GM.length:Int)).toNat)<=v.GM.length/\((if 80<(v.GM.length:Int)then 80 else(v.GM.length:Int)).toNat)<=80:=by split<;>omega
 refine tC ⟨o.1,o.2.1⟩ (tB (Trace_wf u a.p (by rw[List.length_take];omega)) ?_);rintro m ⟨g,g2⟩;have f:AT m:=madeAT g (by rw[List.length_take];omega) g2;have s:=f.l;refine tC ah ?_;rw[rSplit_eq m (λe i=>(g.m.e e i).ok),AAS];have y:kV m (1+v.B3.tmod t)=(Pj m (1+v.B3.tmod t).toNat m.AB.length,0):=by unfold kV;rw[AAa (by rw[f.check];simp),AAa ah]
 rw[y];have o:=winN_le (k:=(1+v.B3.tmod t).toNat) ah m.AB.length;have q:=dP m (1+v.B3.tmod t).toNat m.AB.length;refine tI (λ_=>tB (Ol (by intro x B;cases B) ah ah) λw b=>tR b) λh=> ?_;have h:¬((Pj m (1+v.B3.tmod t).toNat m.AB.length).length:Int)=0:=by simpa using h
 refine tC h ?_;rw[CG (n:=v.dW) (by have:=a.w;omega) (by have:=a.w;omega)];refine tG ⟨Int.tmod_nonneg _ a.w.1,Int.tmod_lt_of_pos _ (by show(0:Int)<((Pj m (1+v.B3.tmod t).toNat m.AB.length).length:Int);omega)⟩ λw b=>tR ?_;unfold Pj at b;obtain⟨j,d,rfl⟩:=ABh.1 b;have d:=ABo.1 d;have hi:j*(1+v.B3.tmod t).toNat<=m.AB.length:=by
  unfold lG at d
  have:=(Nat.le_div_iff_mul_le ah).1 (show j+1<=_ from d);rw[ABm]at this;omega
 exact⟨vP f.w s f.c ah hi,λe i=>(g.m.e e (List.mem_of_mem_drop (ABp i))).ok,RB.mono (AT.rb _ hi) ah⟩
def dQ(wv:AF):AD->List AH->Prop
 |_,[]=>True
 |s,e::r=>Hc wv s e=true/\dQ wv (F7 wv s e) r
theorem dQ.step{wv:AF}(d:Small wv){s:AD}{N:Nat}(c:RB N s.de)(a:N<=1000000){e:AH}(b:KE e)(f:Hc wv s e=true):Bu wv s e=some (F7 wv s e,true)/\B1 wv s e=some (F7 wv s e,true):=by rw[X6 wv d s (c.mono a) e b,Qu wv d s (c.mono a) e b];unfold P5;rw[AAb f];exact⟨rfl,rfl⟩
theorem dQ.of:∀{l:jm}{s:AD},(∀(i:Nat)(hi:i<l.length),Hc wv ((l.take i).foldl (F7 wv) s) l[i]=true)->dQ wv s l:=by
 intro l;induction l with
 |nil=>intro s _;trivial
 |cons e r ih=>intro s h;exact⟨h 0 ak,ih λi hi=>h (i+1) (by simpa using hi)⟩
theorem posW_poss:∀{l pre:jm}{s:AD},V4 wv c pre s l=true->dQ wv s l:=by
 intro l;induction l with
 |nil=>intro pre s _;trivial
 |cons e r ih=>intro pre s h;unfold V4 at h;simp only[AAT]at h;exact⟨h.1,ih h.2.2⟩
structure WV2 (w:AG):Prop where
 s:Small w.cT
 n:w.AB.length<=16
 p:dQ w.cT w.db w.AB
theorem Vc(h:MJ w=true):WV2 w:=by unfold MJ at h;simp only[AAT,AAl]at h;exact⟨Di h.1,h.2.2.1,posW_poss h.2.2.2.2⟩
def Wl(wv:AF)(t kk o k:Int)(x:AY):AY:=
 if(kk=6\/kk=10)/\k=o\/kk=17/\k=(ix wv.Ak o).dm then⟨t,x.An⟩
 else if(kk=7\/kk=11)/\k=o\/kk=16/\k=(ix wv.Ak o).dm then⟨-1,x.An⟩
 else if kk=8/\k=o then⟨x.B9,OI (x.An++[t])⟩
 else if kk=9/\k=o then⟨x.B9,x.An.filter λy=> !(y==t)⟩
 else x
theorem setT_L(s:AQ)(t:Int)(g:AM->AM):(LC s t g).AK=s.AK:=rfl
def kQ{s:AQ}(hi:Cp t s.AK.length=true)(a:Cp k s.AK.length=true)(f:AY->AY):ix (LB s t f).AK k=if k=t then f (ix s.AK t)else ix s.AK k:=My hi a
theorem mL{s:AQ}(n:Cp k s.AK.length=true):∀a,(a=6\/a=7\/a=8\/a=9\/a=10\/a=11->Cp o s.AK.length=true)->(a=16\/a=17->Cp (ix wv.Ak o).dm s.AK.length=true)->
 ix (DR wv s t a o b).1.AK k=Wl wv t a o k (ix s.AK k):=by
 refine kinds ?_ ?_ ?_ ?_ ?_ ?_ ?_ ?_ ?_ ?_ ?_ ?_ ?_ ?_ ?_ ?_ ?_ ?_ ?_ ?_ ?_ ?_ ?_ (λa q r u v w x y z B wake c F d e f E g i j D l G m=> ?_)
 all_goals
  intro C p;unfold DR Wl
 all_goals first
  | (simp(decide:=true)only[AAy,AAk,or_true,true_or,ABK,false_or,true_and,false_and,LC];done)
  | (simp(decide:=true)only[AAy,AAk,or_true,true_or,ABK,false_or,true_and,false_and];rw[kQ (C ah) n];simp_all)
  | (simp(decide:=true)only[AAy,AAk,or_true,true_or,ABK,false_or,true_and,false_and];refine(kQ (p ah) n _).trans ?_;split<;>rename_i h<;>simp only[h,AAy,AAk];done)
  | (simp(decide:=true)only[AAy,AAk,or_true,true_or,ABK,false_or,true_and,false_and];split<;>rfl)
  | (simp only[q,r,u,v,w,x,y,z,B,wake,c,F,d,e,f,E,g,i,j,D,l,G,m,AAk,or_self,false_and];done)
  |skip
 all_goals
  simp(decide:=true)only[AAy,AAk,or_true,true_or,ABK,false_or,true_and,false_and];rw[setT_L,kQ (p ah) n];simp_all
theorem XC{s:AQ}(c:B7 wv s t b o=true)(e:Cp k wv.AK.length=true):ix (DR wv s t b o a).1.AK k=Wl wv t b o k (ix s.AK k):=by
 unfold B7 at c;simp only[AAT]at c;obtain⟨d,_,wake,_⟩:=c;have f:=(EO d).1;have g:=λh=>Ho d (o:=o) h;rw[<- f]at e g;refine mL e b (λh=> ?_) λh=>g ?_
 . rw[f];unfold Bm at wake;rcases h with h|h|h|h|h|h<;>subst h<;>simp(decide:=true)only[AAy,AAk,or_true,true_or,ABK,AAT]at wake<;>exact wake.1
 . unfold Bm at wake;grind
def x6(t:Int)(x:AY):Bool×Bool:=(x.B9==t,x.An.contains t)
def ownF(wv:AF)(kk o k:Int)(p:Bool×Bool):Bool×Bool:=
 if(kk=6\/kk=10)/\k=o\/kk=17/\k=(ix wv.Ak o).dm then(true,p.2)
 else if(kk=7\/kk=11)/\k=o\/kk=16/\k=(ix wv.Ak o).dm then(false,p.2)
 else if kk=8/\k=o then(p.1,true)
 else if kk=9/\k=o then(p.1,false)
 else p
def XI(wv:AF)(s:AQ):Prop:=∀k,Cp k wv.AK.length=true->(ix s.AK k).An≠[]->(ix wv.AK k).RW=true/\(ix s.AK k).B9= -1
def MQ(wv:AF):Prop:=∀o,Cp o wv.Ak.length=true->(ix wv.AK (ix wv.Ak o).dm).RW=false
theorem own_eq(c:0<=t)(x:AY):x6 t (Wl wv t a o k x)=ownF wv a o k (x6 t x):=by
 have b:((-1:Int)==t)=false:=an
 unfold Wl ownF x6;split
 . simp
 . split
   . simp[b]
   . split
     . have:(OI (x.An++[t])).contains t=true:=(by rw[AAu,Kg];simp);simp_all
     grind
theorem Zj{s:AQ}(b:B7 wv s t a o=true):
 (a=6->(ix s.AK o).B9= -1/\(ix wv.AK o).RW=false)/\(a=10->(ix s.AK o).B9= -1/\(ix s.AK o).An=[])/\(a=8->(ix s.AK o).B9= -1/\(ix wv.AK o).RW=true)/\(a=7\/a=11->(ix s.AK o).B9=t)/\
 (a=16->(ix s.AK (ix wv.Ak o).dm).B9=t/\Cp o wv.Ak.length=true)/\(a=17->(ix s.AK (ix wv.Ak o).dm).B9= -1/\Cp o wv.Ak.length=true):=by
 unfold B7 at b;simp only[AAT]at b;obtain⟨_,_,c,d⟩:=b;unfold Bm at c;unfold Jh at d;refine⟨λh=> ?_,λh=> ?_,λh=> ?_,λh=> ?_,λh=> ?_,λh=> ?_⟩
 . simp_all
 . simp_all
 . simp_all
 . grind
 all_goals simp_all
theorem other_eq{s:AQ}(d:B7 wv s b a o=true)(j:0<=t)(hn:b≠t):x6 t (Wl wv b a o k (ix s.AK k))=x6 t (ix s.AK k):=by
 obtain⟨l,f,n,m,g,i⟩:=Zj d;have u:((-1:Int)==t)=false:=an
 have c:(b==t)=false:=by simpa using hn
 unfold Wl x6;split
 . rename_i h;have:(ix s.AK k).B9= -1:=by
    rcases h with⟨h|h,rfl⟩|⟨h,rfl⟩
    . omega
    . omega
    . omega
   simp only[this,u,c]
 . split
   . grind
   . split
     . have:(OI ((ix s.AK k).An++[b])).contains t=(ix s.AK k).An.contains t:=(by rw[ABs,AAu,AAu,Kg];simp only[AAo,AAw];exact⟨λh=>h.resolve_right λe=>hn e.symm,.inl⟩);simp_all
     grind
theorem XI.apply{s:AQ}(g:MQ wv)(h:XI wv s){wake:Int}(d:B7 wv s t k o=true):XI wv (DR wv s t k o wake).1:=by
 intro f e;obtain⟨m,j,p,n,l,c⟩:=Zj d;rw[XC d e];have b:=h f e;unfold Wl;split
 . rename_i a;intro i;have b:=b i;rcases a with⟨a|a,rfl⟩|⟨a,rfl⟩
   . simp_all
   . simp_all
   . rw[g _ (c a).2]at b;cases b.1
 grind
def HF(wv:AF)(t k:Int)(l:jm)(p:Bool×Bool):Bool×Bool:=l.foldl (λp e=>if e.cr=t then ownF wv e.da e.dn k p else p) p
theorem HF_snoc(wv:AF)(t k:Int)(l:jm)(e:AH)(p:Bool×Bool):HF wv t k (l++[e]) p=if e.cr=t then ownF wv e.da e.dn k (HF wv t k l p)else HF wv t k l p:=by unfold HF;simp_all
theorem HF_skip(wv:AF)(t k:Int){l r:jm}(h:∀e∈r,e.cr≠t)(p:Bool×Bool):HF wv t k (l++r) p=HF wv t k l p:=by
 unfold HF;rw[List.foldl_append];generalize l.foldl _ p=q;revert q;induction r with
 |nil=>grind
 |cons e r ih=>simp_all
theorem poss_en(h:Hc wv s e=true):B7 wv s.de e.cr e.da e.dn=true:=by unfold Hc at h;simp_all
instance:Inhabited FC:=⟨⟨0,false⟩⟩
structure WQ (w:AG):Prop where
 g:WG w
 f:WinF w
theorem WG.q(h:WG w):WQ w:=by refine⟨h,?_⟩;have a:=h.v;unfold MJ at a;simp only[AAT,AAl]at a;exact⟨a.1,a.2.1,a.2.2.1⟩
structure GIw (w:AG) (K:Nat) (c:Ac):Prop where
 f:HJ w.cT c.de=true
 r:RB (1000+K) c.de
 l:c.df.length=w.cT.df.length
 u:c.AL.length=w.cT.AL.length
 x:c.Ej.length=w.AB.length
 k:c.Nw.length=w.AB.length
 o:c.du.length<=K
 p:∀(i j:Nat)(hi:i<j)(hj:j<w.AB.length),w.AB[i].cr=w.AB[j].cr->(j:Int)∈c.du->(i:Int)∈c.du
 h:∀t k,0<=t->Cp k w.cT.AK.length=true->∀m,m<=w.AB.length->(∀(i:Nat)(hi:i<w.AB.length),w.AB[i].cr=t->((i:Int)∈c.du↔i<m))->x6 t (ix c.de.AK k)=HF w.cT t k (w.AB.take m) (x6 t (ix w.db.de.AK k))
 X:XI w.cT c.de
theorem GIw.step{w:AG}(hw:WQ w){K:Nat}{c:Ac}(d:GIw w K c){i:Nat}(hi:i<w.AB.length)(J:(i:Int)∉c.du)(Q:∀(j:Nat)(z:j<i),w.AB[j].cr=w.AB[i].cr->(j:Int)∈c.du)(G:B7 w.cT c.de w.AB[i].cr w.AB[i].da w.AB[i].dn=true)(wake:Int){C F:List FC}{X:jD}{W:iq}(R:C.length=c.df.length)(S:F.length=c.AL.length)(U:X.length=c.Ej.length)(T:W.length=c.Nw.length):
 GIw w (K+1) ⟨(DR w.cT c.de w.AB[i].cr w.AB[i].da w.AB[i].dn wake).1,C,F,c.du++[(i:Int)],X,W⟩:=by
 have hq:=Rv hw.f.v;refine⟨Yz d.f _ _ _ _,d.r.apply _ _ _ _ _,R.trans d.l,S.trans d.u,U.trans d.x,T.trans d.k,by have:=d.o;simp;omega,?_,?_,d.X.apply hq G⟩
 . intro a b E V y s;rcases AAo.1 s with s|s
   . exact List.mem_append_left _ (d.p a b E V y s)
   grind
 . intro t k y I m s D;dsimp only at D |-;rw[XC G I];by_cases q:w.AB[i].cr=t
   . have Z:i<m:=(D i hi q).1 ak;have O:w.AB.take m=w.AB.take (i+1)++(w.AB.take m).drop (i+1):=(by have:=ABS (i+1) (w.AB.take m);rw[List.take_take,Nat.min_eq_left (by omega)]at this;exact this.symm);have P:∀e∈(w.AB.take m).drop (i+1),e.cr≠t:=by
      intro e H g;obtain⟨j,z,rfl⟩:=ABX H;simp only[List.length_drop,List.length_take]at z;rw[List.getElem_drop,List.getElem_take]at g;have B:i+1+j<w.AB.length:=ah
      have:=(D (i+1+j) B g).2 ah;rcases AAo.1 this with L|L
      . exact J (d.p i (i+1+j) ah B (q.trans g.symm) L)
      . grind
     rw[O,HF_skip _ _ _ P,<- AAp hi,HF_snoc,AAb q,q,own_eq y];congr 1;refine d.h t k y I i ah λj z n=>⟨λN=> ?_,λM=>Q j M (n.trans q.symm)⟩;refine Decidable.byContradiction λhn=> ?_;by_cases e:j=i
     . grind
     . exact J (d.p i j ah z (q.trans n.symm) N)
   . rw[other_eq G y q];refine d.h t k y I m s λj z n=> ?_;grind
instance:Inhabited AH:=⟨⟨0,0,0,0,0,[],[]⟩⟩
def KH(s r:AH):Bool:=s.dn==r.dn&&(s.da==4&&r.da==3||s.da==22&&r.da==23)
def Rz(w:AG)(n:Int)(r:AH)(i:Nat)(s:AH):Bool:=KH s r&&(s.dh==r.dh&& !(s.cr==r.cr&&decide ((i:Int)>n)))
def Le(w:AG)(n:Int)(r:AH):Nat->List AH->List Int
 |_,[]=>[]
 |i,s::l=>if Rz w n r i s=true then(i:Int)::Le w n r (i+1) l else Le w n r (i+1) l
def Ri(w:AG)(r:AH):Bool:=if r.da=23 then ix w.db.de.Bp r.dn&&ix w.db.AL r.dn==r.dh else ix w.db.df r.dn==r.dh
def QQ(w:AG)(n:Int):List Int:=
 if Cp n w.AB.length=true/\((ix w.AB n).da=3\/(ix w.AB n).da=23)then(if Ri w (ix w.AB n)=true then[-1]else[])++Le w n (ix w.AB n) 0 w.AB else[]
theorem writes_eq(s r:AH):Hv s r=some (KH s r):=by unfold Hv Hv.J1 KH;grind
theorem read_eq(r:AH):JL r=some (r.da==3||r.da==23):=by unfold JL JL.J1;grind
theorem XE(hn:w.AB.length<=16)(n:Int)(r:AH):∀(m i:Nat)(c:iq),i<=w.AB.length->w.AB.length<m+i->c.length<=i+1->CT.AW n w r m c i=some (c++Le w n r i (w.AB.drop i))
 |0,i,c,h1,h2,_=>ah
 |m+1,i,c,h1,h2,h3=>by
  rw[CT.AW];unfold CT.L1;by_cases hi:i<w.AB.length
  . rw[BC ah,B4 hi,AAS,writes_eq,AAS,EH hi,Le];have a:∀p,p=Rz w n r i w.AB[i]->CT.J3 (CT.AW n w r m) c i p=some (c++if Rz w n r i w.AB[i]=true then(i:Int)::Le w n r (i+1) (w.AB.drop (i+1))else Le w n r (i+1) (w.AB.drop (i+1))):=by
     rintro p rfl;unfold CT.J3 CT.J4;rw[Af ah];split
     . rw[Ba ah,XE hn n r m (i+1) _ ah ah an];simp
     . rw[XE hn n r m (i+1) c ah ah ah]
    unfold Rz at a |-;grind
  . rw[Ad ah,E6 ah];simp[CT.J5,Le]
theorem read_obj(d:WQ w)(hi:i<w.AB.length):(w.AB[i].da=3->Cp w.AB[i].dn w.db.df.length=true)/\(w.AB[i].da=23->Cp w.AB[i].dn w.db.de.Bp.length=true/\Cp w.AB[i].dn w.db.AL.length=true):=by
 have j:=Vc d.g.v;obtain⟨f1,f2,f3,f4⟩:=Jx d.f.f;have f5:=(EO f1).2.1;have key:∀{l:jm}{s:AD},dQ w.cT s l->∀e∈l,Bm w.cT e.da e.dn=true:=by
  intro l;induction l with
  |nil=>simp_all
  |cons a r ih=>
   intro s c e b;rcases AAr.1 b with rfl|b
   . have:=poss_en c.1;unfold B7 at this;simp_all
   . exact ih c.2 e b
 have h:=key j.p _ (AAi hi);unfold Bm at h;grind
theorem rCand_eq(d:WQ w)(n:Int):CT w n=some (QQ w n):=by
 have q:=BP;have hn:=d.f.e;unfold CT QQ;by_cases hi:Cp n w.AB.length=true
 . have j:=BI.1 hi;rw[Ad ah,Ad ah,B6 hi,AAS,read_eq,AAS];unfold CT.J1;cases a:((ix w.AB n).da==3||(ix w.AB n).da==23)with
   |false=>simp_all
   |true=>
    simp only[Bool.not_true,AAd,AAk];have c:(ix w.AB n).da=3\/(ix w.AB n).da=23:=(by simpa using a);rw[AAb ⟨hi,c⟩,B6 hi,AAS];have b:n.toNat<w.AB.length:=ah;have m:ix w.AB n=w.AB[n.toNat]:=(by unfold ix;simp[b]);obtain⟨g,i⟩:=read_obj d b;rw[<- m]at g i;have k:HN w (ix w.AB n)=some (Ri w (ix w.AB n)):=by
     unfold HN HN.J1 Ri;rcases c with a|a
     . rw[AAa aS,AAa ah,B6 (g a)];rfl
     . obtain⟨o,p⟩:=i a;rw[AAb aS,AAb a,B6 o,AAS,B6 p];grind
    rw[k,AAS];unfold CT.J2;split
    . exact XE hn n _ BT 0 [-1] ah ah ak
    . exact XE hn n _ BT 0 [] ah ah ak
 . have j:n<0\/n>=w.AB.length:=(by simp only[Cp,AAT,AAl]at hi;omega);have l:¬(Cp n w.AB.length=true/\((ix w.AB n).da=3\/(ix w.AB n).da=23)):=λh=>hi h.1;rw[AAa l];unfold CT.J1;grind
end
theorem awake27:Gv=some true:=by decide +kernel
variable{r:AE}{B T:iy}{d:Type}
section
set_option maxHeartbeats 4000000
theorem QN(hn:w.AB.length<=16)(n f:Int)(r:AH)(b:r.da=3/\f=4\/r.da=23/\f=22)(d:∀i:Nat,(i:Int)=n->∀hi:i<w.AB.length,w.AB[i].da≠f):∀(m i:Nat)(c:iq),i<=w.AB.length->w.AB.length<m+i->c.length<=i+1->Bi.AW n f w r m c i=some (c++Le w n r i (w.AB.drop i))
 |0,i,c,a,h2,_=>ah
 |m+1,i,c,a,h2,h3=>by
  rw[Bi.AW];unfold Bi.L1;by_cases hi:i<w.AB.length
  . rw[BC ah,B4 hi,AAS,EH hi,Le];have j:=λh=>d i h hi;have g:∀p,p=Rz w n r i w.AB[i]->Bi.J5 (Bi.AW n f w r m) c i p=some (c++if Rz w n r i w.AB[i]=true then(i:Int)::Le w n r (i+1) (w.AB.drop (i+1))else Le w n r (i+1) (w.AB.drop (i+1))):=by
     rintro p rfl;unfold Bi.J5 Bi.J6;rw[Af ah];split
     . rw[Ba ah,QN hn n f r b d m (i+1) _ ah ah an];simp
     . rw[QN hn n f r b d m (i+1) c ah ah ah]
    have s:Rz w n r i w.AB[i]=false->Bi.J6 (Bi.AW n f w r m) i c=some (c++if Rz w n r i w.AB[i]=true then(i:Int)::Le w n r (i+1) (w.AB.drop (i+1))else Le w n r (i+1) (w.AB.drop (i+1))):=by intro k;rw[<- g false k.symm];unfold Bi.J5;rw[AAa ak]
    generalize w.AB[i]=e at*;have q:KH e r=(e.da==f&&e.dn==r.dn):=by
     unfold KH;rcases b with⟨a,rfl⟩|⟨a,rfl⟩
     . grind
     . grind
    have u:∀o,o= !(KH e r&&e.dh==r.dh)->Bi.J4 (Bi.AW n f w r m) c n i r e o=some (c++if Rz w n r i e=true then(i:Int)::Le w n r (i+1) (w.AB.drop (i+1))else Le w n r (i+1) (w.AB.drop (i+1))):=by
     rintro o rfl;unfold Bi.J4;cases hc:(KH e r&&e.dh==r.dh)with
     |false=>rw[AAb ak];apply s;unfold Rz;simp_all
     |true=>
      simp only[AAT]at hc;rw[AAa ak];have l:e.da=f:=(by have:=hc.1;rw[q]at this;simp at this;exact this.1);have t:(i:Int)≠n:=λh=>j h l;cases ht:e.cr==r.cr with
      |false=>rw[AAb am];apply g;unfold Rz;simp_all
      |true=>rw[AAa am];apply g;unfold Rz;grind
    grind
  . rw[Ad ah,E6 ah];simp[Bi.J7,Le]
theorem mcand_eq(m:WQ w)(n:Int):Bi w n=some (QQ w n):=by
 have y:=BP;have hn:=m.f.e;unfold Bi QQ;by_cases hi:Cp n w.AB.length=true
 . have r:=BI.1 hi;rw[Ad ah];unfold Bi.J1;rw[Ad ah,B6 hi,AAS];have k:n.toNat<w.AB.length:=ah;have u:ix w.AB n=w.AB[n.toNat]:=(by unfold ix;simp[k]);obtain⟨o,p⟩:=read_obj m k;rw[<- u]at o p;have d:∀f,(ix w.AB n).da≠f->∀i:Nat,(i:Int)=n->∀hi:i<w.AB.length,w.AB[i].da≠f:=(by intro f s i q hi;have:ix w.AB n=w.AB[i]:=(by rw[<- q,IK hi]);rw[<- this];exact s);by_cases g:(ix w.AB n).da=3
   . have j:Cp n w.AB.length=true/\((ix w.AB n).da=3\/(ix w.AB n).da=23):=⟨hi,.inl g⟩;rw[AAb am,B6 (o g),AAS,AAb j];have l:Ri w (ix w.AB n)=(ix w.db.df (ix w.AB n).dn==(ix w.AB n).dh):=(by unfold Ri;rw[AAa (by omega)]);rw[<- l];unfold Bi.J3;by_cases b:Ri w (ix w.AB n)=true
     . rw[AAb b,AAb b];exact QN hn n 4 _ (.inl ⟨g,rfl⟩) (d 4 ah) BT 0 [-1] ah ah ak
     . rw[AAa b,AAa b];exact QN hn n 4 _ (.inl ⟨g,rfl⟩) (d 4 ah) BT 0 [] ah ah ak
   . rw[AAa am];by_cases a:(ix w.AB n).da=23
     . obtain⟨v,x⟩:=p a;have c:Cp n w.AB.length=true/\((ix w.AB n).da=3\/(ix w.AB n).da=23):=⟨hi,.inr a⟩;rw[AAb am,B6 v,AAS,AAb c];have l:Ri w (ix w.AB n)=(ix w.db.de.Bp (ix w.AB n).dn&&ix w.db.AL (ix w.AB n).dn==(ix w.AB n).dh):=(by unfold Ri;rw[AAb a]);have B:∀z,z=Ri w (ix w.AB n)->Bi.J2 n w (ix w.AB n) z=some ((if Ri w (ix w.AB n)=true then[-1]else[])++Le w n (ix w.AB n) 0 w.AB):=by
        rintro z rfl;unfold Bi.J2 Bi.J3;by_cases b:Ri w (ix w.AB n)=true
        . rw[AAb b,AAb b];exact QN hn n 22 _ (.inr ⟨a,rfl⟩) (d 22 ah) BT 0 [-1] ah ah ak
        . rw[AAa b,AAa b];exact QN hn n 22 _ (.inr ⟨a,rfl⟩) (d 22 ah) BT 0 [] ah ah ak
       cases hd:ix w.db.de.Bp (ix w.AB n).dn with
       |true=>simp only[AAy];rw[B6 x,AAS];simp_all
       |false=>simp_all
     simp_all
 . have r:n<0\/n>=w.AB.length:=(by simp only[Cp,AAT,AAl]at hi;omega);have t:¬(Cp n w.AB.length=true/\((ix w.AB n).da=3\/(ix w.AB n).da=23)):=λh=>hi h.1;rw[AAa t];unfold Bi.J1;grind
def MR(t:Int):Nat->List AH->List Int
 |_,[]=>[]
 |i,e::l=>if e.cr=t then(i:Int)::MR t (i+1) l else MR t (i+1) l
def linesS(w:AG):List (List Int):=(List.range w.cT.AA.length).map λ(t:Nat)=>MR (t:Int) 0 w.AB
def relB(r:AE)(i j:Nat):Bool:=((((r.d4)[i]?).getD [])[j]?).getD false
structure RW (w:AG) (r:AE) (A:Nat->Nat->Prop):Prop where
 s:r.w=w
 l:r.eb=linesS w
 n:r.d4.length=w.AB.length
 m:∀x∈r.d4,x.length=w.AB.length
 a:∀i j,i<w.AB.length->j<w.AB.length->(relB r i j=true↔A i j)
def RW.congr{A:iy}(h:RW w r A)(c:∀i j,i<w.AB.length->j<w.AB.length->(A i j↔B i j)):RW w r B:=
 ⟨h.s,h.l,h.n,h.m,λi j hi b=>(h.a i j hi b).trans (c i j hi b)⟩
theorem RW.row{A:iy}(h:RW w r A)(b:n<w.AB.length):∃row,gt r.d4 (n:Int)=some row/\r.d4[n]? =some row/\row.length=w.AB.length:=by
 have a:n<r.d4.length:=by rw[h.n];exact b
 exact⟨r.d4[n],B4 a,AAZ a,h.m _ (AAi a)⟩
theorem RW.get{A:iy}(h:RW w r A)(c:n<w.AB.length)(g:i<w.AB.length){f:Bool->ABu d}{R:d->Prop}(k:∀b,(b=true↔A n i)->B5 (f b) R):B5 ((gt r.d4 (n:Int)).bind λx=>(gt x (i:Int)).bind f) R:=by
 obtain⟨row,e,q,j⟩:=h.row c;rw[e,AAS,B4 (show i<row.length by omega),AAS];refine k _ ?_
 have:=h.a n i c g;unfold relB at this;simp_all
theorem RW.put{A:iy}(h:RW w r A)(g:n<w.AB.length)(k:i<w.AB.length){row:jD}(f:r.d4[n]? =some row):RW w ⟨r.w,r.eb,r.ef,r.d4.set n (row.set i true)⟩ (λq j=>A q j\/q=n/\j=i):=by
 have c:row.length=w.AB.length:=h.m _ (AAg f);refine⟨h.s,h.l,by simpa using h.n,?_,?_⟩
 . intro x b;rcases AA7 b with b|rfl
   . exact h.m x b
   simp_all
 . intro q j hi e;have d:=h.a q j hi e;unfold relB at d |-;grind
theorem RW.set{A:iy}(h:RW w r A)(a:n<w.AB.length)(g:i<w.AB.length){f:List Bool->Bool->ABu d}{R:d->Prop}(k:∀row b,RW w ⟨r.w,r.eb,r.ef,r.d4.set n (row.set i true)⟩ (λq j=>A q j\/q=n/\j=i)->B5 (f row b) R):B5 ((gt r.d4 (n:Int)).bind λx=>(gt x (i:Int)).bind (f x)) R:=by
 obtain⟨row,c,e,l⟩:=h.row a;rw[c,AAS,B4 (show i<row.length by omega),AAS];exact k row _ (h.put a g e)
def WA(A:iy)(k i j:Nat):Prop:=A i j\/A i k/\A k j
def WN(A:iy):Nat->Nat->Nat->Prop
 |0=>A
 |k+1=>WA (WN A k) k
theorem WN_trans(A:iy):∀k z,z<k->∀x y,WN A k x z->WN A k z y->WN A k x y:=by
 intro k;induction k with
 |zero=>omega
 |succ k ih=>
  intro z c x y b a;by_cases e:z=k
  . subst e;exact .inr ⟨b.elim id λh=>h.1,a.elim id λh=>h.2⟩
  . have c:z<k:=ah;rcases b with b|b
    . rcases a with a|a
      . exact .inl (ih z c x y b a)
      . exact .inr ⟨ih z c x k b a.1,a.2⟩
    . rcases a with a|a
      . exact .inr ⟨b.1,ih z c k y b.2 a⟩
      . exact .inr ⟨b.1,a.2⟩
def WN_base(A:iy):∀k {x y},A x y->WN A k x y
 |0,_,_,h=>h
 |k+1,_,_,h=>.inl (WN_base A k h)
theorem WN_least{A:iy}(a:∀x y,x<n->y<n->A x y->T x y)(b:∀x z y,x<n->z<n->y<n->T x z->T z y->T x y):∀k,k<=n->∀x y,x<n->y<n->WN A k x y->T x y:=by
 intro k;induction k with
 |zero=>exactλ_=>a
 |succ k ih=>
  intro c x y d e h;rcases h with h|h
  all_goals grind
theorem close_tot(hn:w.AB.length<=16){A:iy}(h:RW w r A):B5 (CF r) λa=>RW w a (WN A w.AB.length):=by
 have V:=BP;have U:=h.n;have key:∀(n k:Nat)(x:AE),w.AB.length<n+k->k<=w.AB.length->RW w x (WN A k)->B5 (CF.AW r n x k) λa=>RW w a (WN A w.AB.length):=by
  intro n;induction n with
  |zero=>omega
  |succ n ih=>
   intro k x S T G;unfold CF.AW CF.L1;refine tI (λt=> ?_) λt=> ?_;rotate_left
   . have:=of_decide_eq_false t;obtain rfl:k=w.AB.length:=ah;exact tR G
   have t:=AAc t;have p:k<w.AB.length:=ah;generalize J:WN A k=B at G;have W:∀(m c:Nat)(y:AE),w.AB.length<m+c->c<=w.AB.length->RW w y (λi j=>B i j\/i<c/\B i k/\B k j)->B5 (CF.CC (CF.AW r n) r k m y c) λa=>RW w a (WN A w.AB.length):=by
    intro m;induction m with
    |zero=>omega
    |succ m ih2=>
     intro c y R g2 C;unfold CF.CC CF.L2;refine tI (λd=> ?_) λd=> ?_
     . have d:=AAc d;have f:c<w.AB.length:=ah;have H:∀z,RW w z (λi j=>B i j\/i<c+1/\B i k/\B k j)->B5 (CF.J2 (CF.CC (CF.AW r n) r k m) c z) λa=>RW w a (WN A w.AB.length):=(by intro z q;unfold CF.J2;rw[Af (by omega)];exact ih2 (c+1) z (by omega) (by omega) q);refine C.get f p λb E=>tI (λL=> ?_) λN=> ?_
       . have L:¬B c k:=λK=>am;refine H y (C.congr λi j hi s=>⟨λg=>g.imp id λg=>⟨ah,g.2⟩,λg=>g.elim .inl λg=> ?_⟩);grind
       . have P:B c k:=(by have D:b=true:=(by simpa using N);exact(E.1 D).elim id λg=>by omega);have X:∀(u e:Nat)(z:AE),w.AB.length<u+e->e<=w.AB.length->RW w z (λi j=>(B i j\/i<c/\B i k/\B k j)\/i=c/\j<e/\B k j)->B5 (CF.Gc (CF.CC (CF.AW r n) r k m) r k c u z e) λa=>RW w a (WN A w.AB.length):=by
          intro u;induction u with
          |zero=>omega
          |succ u ih3=>
           intro e z Z q2 v;unfold CF.Gc CF.L3;refine tI (λl=> ?_) λl=> ?_
           . have l:=AAc l;have o:e<w.AB.length:=ah;have j1:∀z,RW w z (λi j=>(B i j\/i<c/\B i k/\B k j)\/i=c/\j<e+1/\B k j)->B5 (CF.J1 (CF.Gc (CF.CC (CF.AW r n) r k m) r k c u) e z) λa=>RW w a (WN A w.AB.length):=(by intro z q;unfold CF.J1;rw[Af (by omega)];exact ih3 (e+1) z (by omega) (by omega) q);refine v.get p o λQ O=>tI (λI=> ?_) λM=> ?_
             . have F:B k e:=by
                rcases O.1 I with(g|g)|g
                . exact g
                . exact g.2.2
                . exact g.2.2
               refine v.set f o λrow _ q=> ?_;rw[AA9,AA9];refine j1 _ (q.congr λi j hi s=>⟨λg=> ?_,λg=> ?_⟩)
               all_goals grind
             . have F:¬B k e:=λg=>am;refine j1 z (v.congr λi j hi s=>⟨λg=>g.imp id λg=>⟨g.1,ah,g.2.2⟩,λg=>g.imp id λg=> ?_⟩);grind
           . have l:=of_decide_eq_false l;obtain rfl:e=w.AB.length:=ah;refine H z (v.congr λi j hi s=>⟨λg=> ?_,λg=> ?_⟩)
             all_goals grind
         grind
     . have d:=of_decide_eq_false d;obtain rfl:c=w.AB.length:=ah;unfold CF.J3;rw[Af ah];refine ih (k+1) y ah ah (C.congr λi j hi s=> ?_);show _↔WA (WN A k) k i j;rw[J];exact⟨λg=>g.imp id λg=>g.2,λg=>g.imp id λg=>⟨hi,g⟩⟩
   grind
 exact key BT 0 r ah ah h
theorem poss_enS(h:Hc wv s e=true):B7 wv s.de e.cr e.da e.dn=true/\Cp e.cr wv.AA.length=true/\Bm wv e.da e.dn=true/\Jh wv s.de e.cr e.da e.dn=true/\HJ wv s.de=true:=by unfold Hc at h;simp only[AAT]at h;have a:=h.2.2.1;have b:=a;unfold B7 at a;simp_all
theorem set_mid(a:List d)(x y:d)(b:List d):(a++x::b).set a.length y=a++y::b:=ak
theorem Has27_loop(l:iq)(v:Int)(b:l.length<=1000000):∀(n i:Nat),i<=l.length->l.length<n+i->fP.AW l v n (i:Int)=some ((l.drop i).contains v)
 |0,i,h1,h2=>ah
 |n+1,i,h1,h2=>by
  rw[fP.AW];unfold fP.L1;by_cases hi:i<l.length
  . rw[BC ah,B4 hi,AAS,EH hi,List.contains_cons,Af ah,Has27_loop l v b n (i+1) ah ah];by_cases h:l[i]=v
    . simp[h]
    . have a:¬v=l[i]:=λe=>h e.symm;simp[h,a]
  . rw[Ad ah,E6 ah];rfl
theorem Has27_eq(l:iq)(v:Int)(a:l.length<=1000000):fP l v=some (l.contains v):=Has27_loop l v a BT 0 ah bh
def MT(w:Bool)(h:Em):List Int:=OI (if w=true then h.F6 else h.F6++h.MG)
def PA(a:Dh)(t:Int)(w:Bool)(h:Em):Dh×Bool:=
 if a.d8=0\/a.d8=1/\t=a.B9 then(⟨1,t,[]⟩,false)
 else(⟨if w=true then 3 else if a.d8=1 then 2 else a.d8,0,if a.d8=1 then MT w h else a.AK.filter (MT w h).contains⟩,
  (if w=true then 3 else if a.d8=1 then 2 else a.d8)==3&&((if a.d8=1 then MT w h else a.AK.filter (MT w h).contains).length:Int)==0)
structure EI (a:Dh):Prop where
 s:a.d8=0\/a.d8=1\/a.d8=2\/a.d8=3
 o:a.AK.Pairwise (· < ·)
 l:a.AK.length<=1000
def HL(h:Em):Prop:=h.F6.length<=100/\h.MG.length<=100
theorem uF{w:Bool}{h:Em}(a:HL h):(MT w h).length<=200:=by
 have b:=a.1;have c:=a.2;unfold MT;refine ABO (QS _) ?_;split
 . omega
 . simp only[AA8];omega
theorem EI.step{a:Dh}(b:EI a){t:Int}{w:Bool}{h:Em}(c:HL h):EI (PA a t w h).1:=by
 have e:=uF (w:=w) c;have f:=b.s;unfold PA;split
 . exact⟨.inr (.inl rfl),.nil,ak⟩
 . rename_i d;refine⟨?_,?_,?_⟩
   . simp only;split
     . omega
     . split<;>omega
   . simp only;split
     . exact MI _
     . exact b.o.filter _
   . simp only;split
     . omega
     . exact ABO (List.length_filter_le _ _) b.l
def qT(l:iq)(x:Int):List Int:=if 0<=x/\x<(l.length:Int)then[ix l x]else[]
theorem hitL_cons(e:Int)(l:iq)(x:Int):qT (e::l) x=if x=0 then[e]else qT l (x-1):=by
 unfold qT;by_cases h:x=0
 . subst h;rw[AAb rfl,AAb ak];rfl
 . rw[AAa h];by_cases a:0<=x/\x<((e::l).length:Int)
   . have b:0<=x-1/\x-1<(l.length:Int):=(by simp at a;omega);rw[AAb a,AAb b];unfold ix;obtain⟨n,hn⟩:∃n:Nat,x=n+1:=⟨(x-1).toNat,ah⟩;simp_all
   grind
theorem hitL_len(l:iq)(x:Int):(qT l x).length<=1:=by unfold qT;grind
def Iv(w:AG)(t:Int)(ks:iq):List Int:=ks.flatMap λk=>qT (MR t 0 w.AB) (k-ix w.db.dc t)
theorem insideS_cons(w:AG)(t k:Int)(a:iq):Iv w t (k::a)=qT (MR t 0 w.AB) (k-ix w.db.dc t)++Iv w t a:=by simp[Iv]
theorem qU(t:Int):∀(l:jm)(i:Nat)(x:Int),x∈MR t i l->∃(k:Nat)(b:k<l.length),x=((i+k:Nat):Int)/\l[k].cr=t:=by
 intro l;induction l with
 |nil=>intro i x a;simp[MR]at a
 |cons y l ih=>
  intro i x a;have c:x∈MR t (i+1) l->∃(k:Nat)(b:k<(y::l).length),x=((i+k:Nat):Int)/\(y::l)[k].cr=t:=λh=>by obtain⟨k,b,f,d⟩:=ih _ _ h;exact⟨k+1,am,ah,d⟩
  unfold MR at a;split at a
  . rename_i e;rcases AAr.1 a with rfl|a
    . exact⟨0,ak,ak,e⟩
    simp_all
  simp_all
theorem idxL_len(t:Int):∀(l:jm)(i:Nat),(MR t i l).length<=l.length:=by
 intro l;induction l with
 |nil=>intro i;simp[MR]
 |cons y l ih=>intro i;have:=ih (i+1);unfold MR;grind
def InW(w:AG)(c:iq):Prop:=∀q∈c,∃m:Nat,m<w.AB.length/\q=(m:Int)
theorem lS:∀q∈Iv w t c,∃m:Nat,∃b:m<w.AB.length,q=(m:Int)/\w.AB[m].cr=t:=by
 intro q d;obtain⟨k,_,a⟩:=List.mem_flatMap.1 d;generalize k-ix w.db.dc t=y at a;unfold qT at a;split at a
 . rename_i h;have b:ix (MR t 0 w.AB) y∈MR t 0 w.AB:=(by unfold ix;rw[AAZ (by omega)];exact AAi _);simp only[AAw]at a;obtain⟨i,e,f,g⟩:=qU _ _ _ _ b;grind
 grind
theorem inside_len(w:AG)(t:Int):∀a:List Int,(Iv w t a).length<=a.length:=by
 intro a;unfold Iv;induction a with
 |nil=>simp
 |cons k a ih=>have:=hitL_len (MR t 0 w.AB) (k-ix w.db.dc t);grind
def NumsR(ks:iq):Prop:=ks.length<=1000/\∀k∈ks,0<=k/\k<=1000
theorem rin_loop(hn:w.AB.length<=16)(L1:List Int->Int->ABu (List Int))(c b j:Int):∀(n e:Nat)(i:iq)(f:Int),e<=w.AB.length->w.AB.length<n+e->i.length<=1000000+e->0<=f->f<=1000+e->
 Jd.CC L1 c b w j n i f (e:Int)=Jd.J3 L1 c (i++qT (MR b e (w.AB.drop e)) (j-f))
 |0,e,i,f,h1,h2,_,_,_=>ah
 |n+1,e,i,f,h1,h2,h3,h4,h5=>by
  rw[Jd.CC];unfold Jd.L2;by_cases hi:e<w.AB.length
  . rw[BC ah,B4 hi,AAS,EH hi];unfold Jd.J2 Jd.J1 Jd.J2;by_cases a:w.AB[e].cr=b
    . rw[MR,AAb a,hitL_cons,AAa (by simp[a])];by_cases d:f=j
      . rw[AAb (by simp[d]),Ba ah,AAb ah,CG ah ah,Af ah,rin_loop hn L1 c b j n (e+1) _ (f+1) ah ah an ah ah];have:qT (MR b (e+1) (w.AB.drop (e+1))) (j-(f+1))=[]:=(by unfold qT;rw[AAa (by omega)]);simp_all
      . rw[AAa am,AAa ah,CG ah ah,Af ah,rin_loop hn L1 c b j n (e+1) i (f+1) ah ah ah ah ah];grind
    . rw[MR,AAa a,AAb am,Af ah,rin_loop hn L1 c b j n (e+1) i f ah ah ah h4 ah]
  . have:qT [] (j-f)=[]:=(by unfold qT;rw[AAa (by simp)]);rw[Ad ah,E6 ah,MR,this,List.append_nil]
theorem cntQ(b:WQ w):∀u,Cp u w.cT.AA.length=true->0<=ix w.db.dc u/\ix w.db.dc u<=400:=by have a:=b.g.v;unfold MJ aW at a;simp only[AAT]at a;exact cnt_of b.f.l a.2.2.2.1.1
theorem rInside_eq(d:WQ w)(g:Cp b w.cT.AA.length=true)(h:NumsR c):Jd w b c=some (Iv w b c):=by
 have r:=BP;have hn:=d.f.e;have j:Cp b w.db.dc.length=true:=by rw[d.f.l.c];exact g
 have m:=cntQ d b g;have key:∀(n i:Nat)(l:iq),i<=c.length->c.length<n+i->l.length<=i->Jd.AW c b w n l (i:Int)=some (l++Iv w b (c.drop i)):=by
  intro n;induction n with
  |zero=>omega
  |succ n ih=>
   intro i l o p q;rw[Jd.AW];unfold Jd.L1;have k:=h.1;by_cases hi:i<c.length
   . rw[BC ah,B4 hi,AAS,B6 j,AAS]
     have:=rin_loop hn (Jd.AW c b w n) i b c[i] BT 0 l (ix w.db.dc b) ah ah ah ah ah;rw[AAz]at this;rw[show((0:Nat):Int)=0 from rfl]at this;rw[this];unfold Jd.J3;rw[Af ah,ih (i+1) _ ah ah (by have:=hitL_len (MR b 0 w.AB) (c[i]-ix w.db.dc b);simp;omega),show Iv w b (c.drop i)=qT (MR b 0 w.AB) (c[i]-ix w.db.dc b)++Iv w b (c.drop (i+1))from by rw[EH hi,insideS_cons],ABi]
   . rw[Ad ah,E6 ah];simp[Jd.J4,Iv]
 have:=key BT 0 [] ah (by have:=h.1;omega) ak;simpa[Jd]using this
theorem lines_gt(a:Cp b w.cT.AA.length=true):gt (linesS w) b=some (MR b 0 w.AB):=by have h:=BI.1 a;obtain⟨n,rfl⟩:∃n:Nat,b=n:=⟨b.toNat,ah⟩;rw[Jz];unfold linesS;simp_all
theorem mreads_eq(k:WQ w)(p:r.w=w)(m:r.eb=linesS w)(d:Cp b w.cT.AA.length=true)(j:NumsR c):DQ r b c=some (Iv w b c,r):=by
 have B:=BP;have hn:=k.f.e;have q:Cp b r.w.db.dc.length=true:=by rw[p,k.f.l.c];exact d
 have u:=cntQ k b d;have o:=idxL_len b w.AB 0;have key:∀(n i:Nat)(l:iq),i<=c.length->c.length<n+i->l.length<=i->DQ.AW c r b n l (i:Int)=some (l++Iv w b (c.drop i),r):=by
  intro n;induction n with
  |zero=>omega
  |succ n ih=>
   intro i l x y z;rw[DQ.AW];unfold DQ.L1;have s:=j.1;by_cases hi:i<c.length
   . have v:=j.2 _ (AAi hi);rw[BC ah,B4 hi,AAS,B6 q,AAS,m,lines_gt d,p,CG ah ah,EH hi];have t:Iv w b (c[i]::c.drop (i+1))=qT (MR b 0 w.AB) (c[i]-ix w.db.dc b)++Iv w b (c.drop (i+1)):=insideS_cons ..;rw[t];unfold DQ.J1 DQ.J2;by_cases g:c[i]-ix w.db.dc b>=0
     . rw[BC g,AAS];by_cases h:c[i]-ix w.db.dc b<((MR b 0 w.AB).length:Int)
       . rw[BC h,m,lines_gt d,AAS,CG ah ah,B6 (BI.2 ⟨g,h⟩),AAS,Ba ah,Af ah,ih (i+1) _ ah ah an];unfold qT;simp_all
       . rw[Ad h,Af ah,ih (i+1) _ ah ah ah];unfold qT;simp_all
     . rw[Ad g,AAa ak,Af ah,ih (i+1) _ ah ah ah];unfold qT;grind
   . rw[Ad ah,E6 ah];simp[DQ.J3,Iv]
 have:=key BT 0 [] ah (by have:=j.1;omega) ak;simpa[DQ]using this
theorem filt_lt{p q:d->Bool}(b:∀y,q y=true->p y=true):∀{l:List d}{x:d},x∈l->p x=true->q x=false->(l.filter q).length+1<=(l.filter p).length:=by
 have mono:∀l:List d,(l.filter q).length<=(l.filter p).length:=by
  intro l;induction l with
  |nil=>simp
  |cons y l ih=>grind
 intro l;induction l with
 |nil=>simp_all
 |cons y l ih=>grind
def muS(n:Nat)(c:iq):Nat:=((List.range n).filter λi:Nat=> !c.contains (i:Int)).length
theorem mu_add(a:i<n)(b:c.contains (i:Int)=false):muS n (c++[(i:Int)])+1<=muS n c:=by
 unfold muS;refine filt_lt (λy h=> ?_) (ABo.2 a) ?_ ?_
 all_goals simp_all
def x5(c:iq):List Int->List Int
 |[]=>c
 |q::r=>x5 (if c.contains q=true then c else c++[q]) r
theorem addL_pre:∀(a c:iq),∃t,x5 c a=c++t:=by
 intro a;induction a with
 |nil=>exactλc=>⟨[],by simp[x5]⟩
 |cons q a ih=>
  intro c;unfold x5;split
  . exact ih c
  . obtain⟨t,b⟩:=ih (c++[q]);simp_all
theorem addL_mu:∀(a c:iq),InW w a->InW w c->(x5 c a).length+muS w.AB.length (x5 c a)<=c.length+muS w.AB.length c/\InW w (x5 c a):=by
 intro a;induction a with
 |nil=>exactλc _ d=>⟨AAv _,d⟩
 |cons q a ih=>
  intro c e d;have f:InW w a:=λy b=>e y (ABg _ b);unfold x5;split
  . simp_all
  . rename_i h;obtain⟨m,g,rfl⟩:=e q ABT;have i:=mu_add g (by simpa using h);have j:=ih (c++[(m:Int)]) f (λy b=>by
     rcases AAo.1 b with b|b
     . exact d y b
     grind)
    grind
def oneS(w:AG)(q:Int):ABu Nat:=match QQ w q with
 |[x]=>if 0<=x then some x.toNat else none
 |_=>none
def lH(w:AG):Nat->List Int->Nat->List Int
 |0,c,_=>c
 |n+1,c,a=>match c[a]? with
  |some q=>(match oneS w q with
   |some m=>lH w n (x5 c (Iv w (ix w.AB m).cr (ix w.AB m).DW)) (a+1)
   |none=>lH w n c (a+1))
  |none=>c
theorem candL_in:∀(l:jm)(i:Nat)(x:Int),x∈Le w t e i l->∃k,k<l.length/\x=((i+k:Nat):Int):=by
 intro l;induction l with
 |nil=>intro i x h;simp[Le]at h
 |cons y l ih=>
  intro i x h;have a:x∈Le w t e (i+1) l->∃k,k<(y::l).length/\x=((i+k:Nat):Int):=λh=>by obtain⟨k,b,c⟩:=ih _ _ h;exact⟨k+1,an,ah⟩
  unfold Le at h;split at h
  . rcases AAr.1 h with rfl|h
    . exact⟨0,ak,ak⟩
    simp_all
  simp_all
theorem candS_in{n x:Int}(h:x∈QQ w n):x= -1\/∃k,k<w.AB.length/\x=(k:Int):=by
 unfold QQ at h;split at h
 . rcases AAo.1 h with h|h
   . simp_all
   . obtain⟨k,a,b⟩:=candL_in _ _ _ h;grind
 grind
theorem oneS_some:oneS w t=some i↔i<w.AB.length/\QQ w t=[(i:Int)]:=by
 unfold oneS;constructor
 . intro h;split at h
   . rename_i x b;split at h
     . rename_i a;rcases candS_in (w:=w) (n:=t) (x:=x) aS with h1|⟨k,h1,h2⟩
       all_goals simp_all
     grind
   grind
 simp_all
theorem one_test{f:Bool->ABu d}{R:d->Prop}(a:oneS w t=none->B5 (f true) R)(c:∀m,oneS w t=some m->B5 (f false) R):
 B5 (if((QQ w t).length:Int) != 1 then f true else(gt (QQ w t) 0).bind λy=>f (decide (y<0))) R:=by
 cases hc:QQ w t with
 |nil=>rw[AAb ak];exact a (by unfold oneS;rw[hc])
 |cons x l=>
  cases l with
  |cons y l=>rw[AAb an];exact a (by unfold oneS;rw[hc])
  |nil=>
   rw[AAa ak,show gt [x] 0=some x from rfl,AAS];rcases candS_in (w:=w) (n:=t) (x:=x) aS with rfl|⟨k,hk,rfl⟩
   . exact a (by unfold oneS;grind)
   . have:=c k (oneS_some.2 ⟨hk,hc⟩);rw[show decide ((k:Int)<0)=false from by simp];exact this
theorem nums_ok:∀(l:jm)(s:AD)(K:Int),dQ wv s l->(∀u,Cp u wv.AA.length=true->0<=ix s.dc u/\ix s.dc u<=K)->K+l.length<=1000->∀e∈l,Cp e.cr wv.AA.length=true/\NumsR e.EA/\NumsR e.DW:=by
 intro l;induction l with
 |nil=>simp_all
 |cons x l ih=>
  intro s K a f o e b;have c:=(poss_enS a.1).2.1;have p:K+(l.length:Int)+1<=1000:=by simp at o;omega
  have i:=f _ c;rcases AAr.1 b with rfl|b
  . obtain⟨y,z⟩:=bG a.1;have hd:=a.1;unfold Hc Ek at hd;simp only[AAT]at hd;obtain⟨_,_,_,_,⟨⟨_,d1⟩,_,v⟩,_⟩:=hd;have len:∀D:List Int,GZ (ix s.dc e.cr) 0 D=true->(∀k∈D,1<=k/\k<ix s.dc e.cr)->NumsR D:=λD m n=>by
     refine⟨?_,λk w=>aS⟩;cases D with
     |nil=>simp
     |cons d D=>
      have:=n d ABT
      have:=nums_len (d::D) 0 ah m;omega
    simp_all
  . refine ih _ (K+1) a.2 (λu g=> ?_) ah e b;have j:=f u g;have t:=(Jx (wv:=wv) (s:=s) (by have h:=a.1;unfold Hc at h;simp_all)).2.2.2;have r:=BI.1 g;have q:=BI.1 c;show 0<=ix (s.dc.set x.cr.toNat (A6 (ix s.dc x.cr+1))) u/\ix (s.dc.set x.cr.toNat (A6 (ix s.dc x.cr+1))) u<=K+1;rw[CG ah ah];unfold ix at j i |-;grind
theorem evQ(a:WQ w)(hi:i<w.AB.length):Cp w.AB[i].cr w.cT.AA.length=true/\NumsR w.AB[i].EA/\NumsR w.AB[i].DW:=
 nums_ok w.AB w.db 400 (Vc a.g.v).p (cntQ a) (by have:=a.f.e;omega) _ (AAi hi)
theorem radd_loop(L1:List Int->Int->ABu (List Int))(a:Int)(e:iq)(b:e.length<=100000):∀(n d:Nat)(f:iq),d<=e.length->e.length<n+d->f.length<=100000+d->Je.CC L1 a e n f (d:Int)=Je.J3 L1 a (x5 f (e.drop d))
 |0,d,f,h1,h2,_=>ah
 |n+1,d,f,h1,h2,h3=>by
  rw[Je.CC];unfold Je.L2;by_cases hi:d<e.length
  . rw[BC ah,B4 hi,AAS,Has27_eq _ _ ah,AAS,EH hi,x5];unfold Je.J2;cases hc:f.contains e[d]with
    |true=>rw[AAa ak,AAb rfl,Af ah,radd_loop L1 a e b n (d+1) f ah ah ah]
    |false=>rw[AAb ak,Ba ah,AAa ak,Af ah,radd_loop L1 a e b n (d+1) _ ah ah an]
  . rw[Ad ah,E6 ah,x5]
theorem madd_loop(L1:AE->List Int->Int->ABu AE)(a:Int)(e:List Int×AE)(b:e.1.length<=100000):∀(n d:Nat)(f:iq),d<=e.1.length->e.1.length<n+d->f.length<=100000+d->Cm.CC L1 a e n f (d:Int)=Cm.J3 L1 a e.2 (x5 f (e.1.drop d))
 |0,d,f,h1,h2,_=>ah
 |n+1,d,f,h1,h2,h3=>by
  rw[Cm.CC];unfold Cm.L2;by_cases hi:d<e.1.length
  . rw[BC ah,B4 hi,AAS,YR _ _ ah,AAS,EH hi,x5];unfold Cm.J2;cases hc:f.contains e.1[d]with
    |true=>rw[AAa ak,AAb rfl,Af ah,madd_loop L1 a e b n (d+1) f ah ah ah]
    |false=>rw[AAb ak,Ba ah,AAa ak,Af ah,madd_loop L1 a e b n (d+1) _ ah ah an]
  . rw[Ad ah,E6 ah,x5]
def RR(w:AG)(c:iq)(a:Nat):Nat:=(c.length-a)+muS w.AB.length c
def s9(w:AG)(m:Nat):List Int:=Iv w (ix w.AB m).cr (ix w.AB m).DW
theorem grow_ok(d:WQ w)(b:n<w.AB.length):InW w (s9 w n)/\(s9 w n).length<=1000:=by
 refine⟨λq c=> ?_,?_⟩
 . obtain⟨k,e,h,_⟩:=lS q c;grind
 . have:=inside_len w (ix w.AB n).cr (ix w.AB n).DW;have a:=(evQ d b).2.2.1;rw[<- IK b]at a;exact ABO this a
theorem work_step(b:i<c.length):lH w (n+1) c i=match oneS w c[i]with
 |some m=>lH w n (x5 c (s9 w m)) (i+1)
 |none=>lH w n c (i+1):=by
 rw[lH,AAZ b];rfl
theorem work_end(b:¬i<c.length):lH w n c i=c:=by
 cases n with
 |zero=>rfl
 |succ n=>rw[lH,List.getElem?_eq_none ah]
theorem work_pre:∀(n:Nat)(c:iq)(a:Nat),∃t,lH w n c a=c++t:=by
 intro n;induction n with
 |zero=>exactλc a=>⟨[],by simp[lH]⟩
 |succ n ih=>
  intro c a;by_cases b:a<c.length
  . rw[work_step b];split
    . rename_i m _;obtain⟨t,d⟩:=ih (x5 c (s9 w m)) (a+1);obtain⟨u,e⟩:=addL_pre (s9 w m) c;simp_all
    simp_all
  . exact⟨[],by rw[work_end b];simp⟩
theorem RR_next(b:n<c.length)(d:InW w c):RR w c (n+1)+1<=RR w c n:=by unfold RR;omega
theorem RR_add(i:n<c.length)(b:InW w f)(d:InW w c):RR w (x5 c f) (n+1)+1<=RR w c n:=by
 have g:=(addL_mu f c b d).1;obtain⟨t,e⟩:=addL_pre f c;have h:c.length<=(x5 c f).length:=by rw[e];simp
 unfold RR;omega
theorem rwork(g:WQ w):∀(n:Nat)(c:iq)(a:Nat),a<=c.length->RR w c a<n->InW w c->c.length+muS w.AB.length c<=5000->B5 (Je.AW w n c (a:Int)) λr=>r=lH w n c a:=by
 have x:=BP;intro n;induction n with
 |zero=>omega
 |succ n ih=>
  intro c a s v e o;rw[Je.AW];unfold Je.L1;by_cases b:a<c.length
  . rw[BC ah,B4 b,AAS,rCand_eq g,AAS,work_step b];refine one_test (f:=λu=>Je.J1 (Je.AW w n) a c (QQ w c[a]) w u) (λl=> ?_) λm k=> ?_
    . rw[l];unfold Je.J1 Je.J3;rw[AAb rfl,Af ah];exact ih c (a+1) ah (by have:=RR_next b e;omega) e o
    . rw[k];obtain⟨d,g2⟩:=oneS_some.1 k;obtain⟨i,q⟩:=grow_ok g d;have j:=evQ g d;have h:=addL_mu _ _ i e;unfold Je.J1;rw[AAa ak,g2,show gt [(m:Int)] 0=some (m:Int)from rfl,AAS,B4 d,AAS,rInside_eq g j.1 j.2.2,AAS];have p:Iv w w.AB[m].cr w.AB[m].DW=s9 w m:=(by unfold s9;rw[IK d]);rw[p]
      have:=radd_loop (Je.AW w n) a (s9 w m) ah BT 0 c ah ah ah;rw[show((0:Nat):Int)=0 from rfl,AAz]at this;rw[this];unfold Je.J3;rw[Af ah];obtain⟨t,y⟩:=addL_pre (s9 w m) c;exact ih (x5 c (s9 w m)) (a+1) aS (by have:=RR_add b i e;omega) h.2 ah
  . rw[Ad ah,work_end b];exact tR rfl
theorem mwork(v:WQ w)(H:n<w.AB.length):∀(b:Nat)(c:iq)(a:Nat)(r:AE)(A:iy),a<=c.length->RR w c a<b->InW w c->c.length+muS w.AB.length c<=5000->RW w r A->
 B5 (Cm.AW (n:Int) b r c (a:Int)) λd=>RW w d (λi k=>A i k\/k=n/\∃q∈(lH w b c a).drop a,oneS w q=some i):=by
 have P:=BP;intro b;induction b with
 |zero=>omega
 |succ b ih=>
  intro c a r A N O p F j;rw[Cm.AW];unfold Cm.L1;by_cases e:a<c.length
  . rw[BC ah,B4 e,AAS,j.s,mcand_eq v,AAS]
    -- what the rest adds
    have next:∀(c':iq)(y:iy)(d:AE),(∃t,c'=c++t)->lH w (b+1) c a=lH w b c' (a+1)->(∀i k,y i k↔A i k\/k=n/\oneS w c[a]=some i)->RW w d (λi k=>y i k\/k=n/\∃q∈(lH w b c' (a+1)).drop (a+1),oneS w q=some i)->
     RW w d (λi k=>A i k\/k=n/\∃q∈(lH w (b+1) c a).drop a,oneS w q=some i):=by
     rintro c' y d ⟨t,rfl⟩ I G h;refine h.congr λi k _ _=> ?_;obtain⟨u,L⟩:=work_pre (w:=w) b (c++t) (a+1);have hd:(lH w (b+1) c a).drop a=c[a]::(lH w b (c++t) (a+1)).drop (a+1):=(by rw[I,L,EH (by simp;omega)];congr 1;rw[List.getElem_append_left (by simp;omega),List.getElem_append_left e]);rw[hd,G];constructor
     . grind
     . grind
    refine one_test (f:=λu=>Cm.J1 (Cm.AW (n:Int) b) n a c r (QQ w c[a]) u) (λE=> ?_) λm D=> ?_
    . unfold Cm.J1 Cm.J3;rw[AAb rfl,Af ah];refine tM (ih c (a+1) r A ah (by have:=RR_next e p;omega) p F j) λd h=>next c A d ⟨[],ak⟩ (by rw[work_step e,E]) (λi k=>aS) h
    . obtain⟨o,g2⟩:=oneS_some.1 D;obtain⟨B,M⟩:=grow_ok v o;have C:=evQ v o;have z:=addL_mu _ _ B p;unfold Cm.J1;rw[AAa ak,g2,show gt [(m:Int)] 0=some (m:Int)from rfl,AAS];refine j.set o H λrow _ x=> ?_;rw[j.s,B4 o,AAS,AA9,AA9];rw[j.s]at x;rw[mreads_eq v x.s x.l C.1 C.2.2,AAS];have J:Iv w w.AB[m].cr w.AB[m].DW=s9 w m:=(by unfold s9;rw[IK o]);rw[J]
      have:=madd_loop (Cm.AW (n:Int) b) a (s9 w m,⟨w,r.eb,r.ef,r.d4.set m (row.set n true)⟩) aS BT 0 c ah aS ah;rw[show((0:Nat):Int)=0 from rfl,AAz]at this;rw[this];unfold Cm.J3;rw[Af ah];obtain⟨t,K⟩:=addL_pre (s9 w m) c;refine tM (ih (x5 c (s9 w m)) (a+1) _ _ aS (by have:=RR_add e B p;omega) z.2 ah x) λd h=>next _ _ d ⟨t,K⟩ (by rw[work_step e,D]) (λi k=> ?_) h
      grind
  . rw[Ad ah];refine tR (j.congr λi k _ _=>⟨.inl,?_⟩);rintro(g|⟨_,q,g,_⟩)
    . exact g
    . rw[work_end e,List.drop_eq_nil_of_le ah]at g;cases g
def needS(w:AG)(j:Nat):List Int:=lH w BT (Iv w (ix w.AB j).cr (ix w.AB j).EA) 0
theorem inside_ok(a:WQ w)(b:j<w.AB.length):InW w (Iv w w.AB[j].cr w.AB[j].EA)/\(Iv w w.AB[j].cr w.AB[j].EA).length+muS w.AB.length (Iv w w.AB[j].cr w.AB[j].EA)<=5000:=by
 refine⟨λq c=> ?_,?_⟩
 . obtain⟨k,l,h,_⟩:=lS q c;grind
 . have d:=inside_len w w.AB[j].cr w.AB[j].EA;have g:=(evQ a b).2.1.1;have i:muS w.AB.length (Iv w w.AB[j].cr w.AB[j].EA)<=w.AB.length:=by unfold muS;exact ABO (List.length_filter_le _ _) ak
   have:=a.f.e;omega
theorem rNeeded_eq(b:WQ w)(a:j<w.AB.length):Je w (j:Int)=some (needS w j):=by have i:=BP;obtain⟨c,d,h⟩:=evQ b a;obtain⟨e,f⟩:=inside_ok b a;unfold Je needS;rw[B4 a,AAS,rInside_eq b c d,AAS,IK a];obtain⟨r,g,rfl⟩:=rwork b BT _ 0 ah (by unfold RR;omega) e f;exact g
theorem needs_tot(b:WQ w)(a:j<w.AB.length){A:iy}(c:RW w r A):B5 (Cm r (j:Int) w.AB[j]) λd=>RW w d (λi k=>A i k\/k=j/\∃q∈needS w j,oneS w q=some i):=by have o:=BP;obtain⟨e,f,n⟩:=evQ b a;obtain⟨g,m⟩:=inside_ok b a;unfold Cm;rw[mreads_eq b c.s c.l e f,AAS];refine tM (mwork b a BT (Iv w w.AB[j].cr w.AB[j].EA) 0 r A ah (by unfold RR;omega) g m c) λd h=> ?_;unfold needS;rw[IK a];grind
abbrev ev(w:AG)(i:Nat):AH:=ix w.AB (i:Int)
def srcB(x e:AH):Bool:=e.da==1&&(x.da==20&&x.dn==e.cr)||(e.da==21&&(x.da==2&&x.cr==e.dn)||e.da==23&&(x.da==22&&x.dn==e.dn))
theorem src_j3(L1:jg)(d:AH)(b:Int)(c:AE)(a:Int)(e:AH)(o:Bool):Bv.J3 L1 d b c a e o=Bv.J4 L1 b c a (o||(d.da==23&&(e.da==22&&e.dn==d.dn))):=by unfold Bv.J3;grind
theorem src_j2(L1:jg)(d:AH)(b:Int)(c:AE)(a:Int)(e:AH)(o:Bool):Bv.J2 L1 d b c a e o=Bv.J4 L1 b c a (o||(d.da==21&&(e.da==2&&e.cr==d.dn)||(d.da==23&&(e.da==22&&e.dn==d.dn)))):=by unfold Bv.J2;simp only[src_j3];grind
theorem src_j1(L1:jg)(d:AH)(b:Int)(c:AE)(a:Int)(e:AH)(o:Bool):Bv.J1 L1 d b c a e o=Bv.J4 L1 b c a (o||srcB e d):=by unfold Bv.J1 srcB;simp only[src_j2];grind
def srcA(w:AG)(j i:Nat):Prop:=((ev w i).cr=(ev w j).cr/\i<j)\/srcB (ev w i) (ev w j)=true
theorem sources_tot(hn:w.AB.length<=16)(e:j<w.AB.length){A:iy}(f:RW w r A):B5 (Bv r (j:Int) w.AB[j]) λc=>RW w c (λi k=>A i k\/k=j/\srcA w j i):=by
 have t:=BP;have key:∀(n a:Nat)(x:AE),a<=w.AB.length->w.AB.length<n+a->RW w x (λi k=>A i k\/k=j/\i<a/\srcA w j i)->B5 (Bv.AW w.AB[j] (j:Int) r n x (a:Int)) λc=>RW w c (λi k=>A i k\/k=j/\srcA w j i):=by
  intro n;induction n with
  |zero=>omega
  |succ n ih=>
   intro a x o p d;rw[Bv.AW];unfold Bv.L1;rw[f.s];by_cases b:a<w.AB.length
   . rw[BC ah,B4 b,AAS];have l:∀q,(if(w.AB[a].cr==w.AB[j].cr)=true then Bv.J1 (Bv.AW w.AB[j] (j:Int) r n) w.AB[j] (j:Int) x (a:Int) w.AB[a] q else Bv.J1 (Bv.AW w.AB[j] (j:Int) r n) w.AB[j] (j:Int) x (a:Int) w.AB[a] false)=Bv.J4 (Bv.AW w.AB[j] (j:Int) r n) (j:Int) x (a:Int) (w.AB[a].cr==w.AB[j].cr&&q||srcB w.AB[a] w.AB[j]):=by intro q;simp only[src_j1];cases w.AB[a].cr==w.AB[j].cr<;>simp
     rw[l];have u:(w.AB[a].cr==w.AB[j].cr&&decide ((a:Int)<(j:Int))||srcB w.AB[a] w.AB[j])=true↔srcA w j a:=(by unfold srcA ev;rw[IK b,IK e];simp);unfold Bv.J4 Bv.J5;refine tI (λh=> ?_) λh=> ?_
     . refine d.set b e λrow _ m=> ?_;rw[AA9,AA9,Af ah];refine ih (a+1) _ ah ah (m.congr λi k _ _=> ?_);grind
     . rw[Af ah];grind
   . rw[Ad ah];exact tR (d.congr λi k hi _=>⟨λg=>g.imp id λg=>⟨g.1,g.2.2⟩,λg=>g.imp id λg=>⟨g.1,ah,g.2⟩⟩)
 unfold Bv;exact key BT 0 r ah ah (f.congr λi k _ _=>⟨.inl,λg=>g.elim id λg=>ah⟩)
theorem idxL_mem(t:Int):∀(l:jm)(i k:Nat)(a:k<l.length),l[k].cr=t->((i+k:Nat):Int)∈MR t i l:=by
 intro l;induction l with
 |nil=>simp_all
 |cons y l ih=>
  intro i k a h;unfold MR;cases k with
  |zero=>simp_all
  |succ k=>have:=ih (i+1) k aS aS;grind
def nfB(e x:AH):Bool:=(x.da==18||x.da==19)&&(x.dn==e.dn&&x.cr != e.cr)
def nfL(e:AH):Nat->List AH->List Int
 |_,[]=>[]
 |i,x::l=>if nfB e x=true then(i:Int)::nfL e (i+1) l else nfL e (i+1) l
theorem nfL_in(e:AH):∀(l:jm)(i:Nat)(x:Int),x∈nfL e i l->∃k,k<l.length/\x=((i+k:Nat):Int):=by
 intro l;induction l with
 |nil=>intro i x h;simp[nfL]at h
 |cons y l ih=>
  intro i x h;have a:x∈nfL e (i+1) l->∃k,k<(y::l).length/\x=((i+k:Nat):Int):=λh=>by obtain⟨k,b,c⟩:=ih _ _ h;exact⟨k+1,an,ah⟩
  unfold nfL at h;split at h
  . rcases AAr.1 h with rfl|h
    . exact⟨0,ak,ak⟩
    simp_all
  simp_all
def waitsP(w:AG)(j:Nat):Prop:=(ix w.db.de.AA (ev w j).cr).dg=3\/∃k,k<j/\(ev w k).cr=(ev w j).cr/\(ev w k).da=16
def NF(w:AG)(j i:Nat):Prop:=(ev w j).da=17/\waitsP w j/\nfL (ev w j) 0 w.AB=[(i:Int)]
theorem mnf_loop(hn:w.AB.length<=16)(f:r.w=w)(b:AH)(c:Int):∀(n d:Nat)(e:iq),d<=w.AB.length->w.AB.length<n+d->e.length<=1000+d->Bb.CC b c r n e (d:Int)=Bb.J7 c r (e++nfL b d (w.AB.drop d))
 |0,d,e,h1,h2,_=>ah
 |n+1,d,e,h1,h2,h3=>by
  rw[Bb.CC];unfold Bb.L2;rw[f];by_cases hi:d<w.AB.length
  . rw[BC ah,B4 hi,AAS,EH hi,nfL];have a:(if(w.AB[d].da==18)=true then Bb.J4 (Bb.CC b c r n) b e d w.AB[d] true else Bb.J4 (Bb.CC b c r n) b e d w.AB[d] (w.AB[d].da==19))=Bb.J5 (Bb.CC b c r n) e d (nfB b w.AB[d]):=by unfold Bb.J4 nfB;cases w.AB[d].da==18<;>cases w.AB[d].da==19<;>cases w.AB[d].dn==b.dn<;>simp
    rw[a];unfold Bb.J5 Bb.J6;cases hb:nfB b w.AB[d]with
    |true=>rw[AAb rfl,AAb rfl,Ba ah,Af ah,mnf_loop hn f b c n (d+1) _ ah ah an];simp
    |false=>rw[AAa ak,AAa ak,Af ah,mnf_loop hn f b c n (d+1) e ah ah ah]
  . rw[Ad ah,E6 ah,nfL,List.append_nil]
theorem notified_tot(E:WQ w)(D:j<w.AB.length){A:iy}(d:RW w r A):B5 (Bb r (j:Int) w.AB[j]) λo=>RW w o (λi k=>A i k\/k=j/\NF w j i):=by
 have T:=BP;have hn:=E.f.e;have B:=(evQ E D).1;have F:ev w j=w.AB[j]:=IK D;have b:¬((ev w j).da=17/\waitsP w j/\∃i:Nat,nfL (ev w j) 0 w.AB=[(i:Int)])->RW w r (λi k=>A i k\/k=j/\NF w j i):=λh=>d.congr λi k _ _=>⟨.inl,λg=>g.elim id λg=>absurd ⟨g.2.1,g.2.2.1,i,g.2.2.2⟩ h⟩;unfold Bb;by_cases H:w.AB[j].da=17;rotate_left
 . rw[AAb am];exact tR (b λh=>H (F▸h.1))
 rw[AAa (by simp[H]),d.s,B6 (by rw[E.f.l.t];exact B),AAS,d.l,lines_gt B,AAS];have K:B5 (Bb.J7 (j:Int) r (nfL w.AB[j] 0 w.AB)) λo=>waitsP w j->RW w o (λi k=>A i k\/k=j/\NF w j i):=by
  unfold Bb.J7;refine tI (λh=> ?_) λh=>tR λm=>b ?_
  . have U:(nfL w.AB[j] 0 w.AB).length=1:=(by simp at h;omega);cases hc:nfL w.AB[j] 0 w.AB with
    |nil=>simp_all
    |cons x l=>
     cases l with
     |cons y l=>simp_all
     |nil=>
      rw[show gt [x] 0=some x from rfl,AAS];obtain⟨k,a,p⟩:=nfL_in w.AB[j] w.AB 0 x aS;rw[ABW]at p;subst p;refine d.set a D λrow _ O=> ?_;rw[AA9,AA9];refine tR λm=>O.congr λi V _ _=>⟨λg=>g.imp id λg=>⟨g.2,am,m,am⟩,λg=>g.imp id λg=>⟨?_,g.1⟩⟩
      have:=g.2.2.2;grind
  . grind
 -- the waits of the thread
 have key:∀(n f:Nat)(i:Bool),f<=(MR w.AB[j].cr 0 w.AB).length->(MR w.AB[j].cr 0 w.AB).length<n+f->(i=true↔(ix w.db.de.AA w.AB[j].cr).dg=3\/∃x∈(MR w.AB[j].cr 0 w.AB).take f,x<(j:Int)/\(ix w.AB x).da=16)->
  B5 (Bb.AW w.AB[j] (j:Int) r (MR w.AB[j].cr 0 w.AB) n i (f:Int)) λo=>RW w o (λi k=>A i k\/k=j/\NF w j i):=by
  have I:=idxL_len w.AB[j].cr w.AB 0;intro n;induction n with
  |zero=>omega
  |succ n ih=>
   intro f i R S G;rw[Bb.AW];unfold Bb.L1;by_cases C:f<(MR w.AB[j].cr 0 w.AB).length
   . rw[BC ah,d.l,lines_gt B,AAS,B4 C,AAS];obtain⟨k,a,p,L⟩:=qU _ _ _ _ (AAi C);rw[ABW]at p;have M:(MR w.AB[j].cr 0 w.AB).take (f+1)=(MR w.AB[j].cr 0 w.AB).take f++[(k:Int)]:=(by rw[List.take_succ_eq_append_getElem C,p]);rw[p,d.s,B4 a];unfold Bb.J1 Bb.J2;rw[AAS,Af ah];have step:∀v:Bool,(v=true↔(k:Int)<(j:Int)/\w.AB[k].da=16)->B5 (if v=true then Bb.AW w.AB[j] (j:Int) r (MR w.AB[j].cr 0 w.AB) n true ((f+1:Nat):Int)else Bb.AW w.AB[j] (j:Int) r (MR w.AB[j].cr 0 w.AB) n i ((f+1:Nat):Int)) λo=>RW w o (λi k=>A i k\/k=j/\NF w j i):=by
      intro v N;refine tI (λh=>ih (f+1) true ah ah ?_) λh=>ih (f+1) i ah ah ?_
      . obtain⟨c,g2⟩:=N.1 h;exact⟨λ_=>.inr ⟨k,aS,c,by rw[IK a];exact g2⟩,λ_=>rfl⟩
      . rw[G,M];constructor
        . grind
        . refineλg=>g.imp id λ⟨x,c,g2⟩=> ?_;rcases AAo.1 c with c|c
          . grind
          . simp at c;subst c;rw[IK a]at g2;simp_all
     by_cases q:(k:Int)<(j:Int)
     . rw[BC q];exact step _ an
     . rw[Ad q];simp_all
   . rw[Ad ah];have m:i=true↔waitsP w j:=by
      rw[G,AA3 ah];unfold waitsP;rw[F];refine or_congr Iff.rfl ⟨λ⟨x,c,g2,z⟩=> ?_,λ⟨k,c,g2,z⟩=> ?_⟩
      . obtain⟨k,P,J,Q⟩:=qU _ _ _ _ c;rw[ABW]at J;subst J;exact⟨k,ah,by unfold ev;rw[IK P];exact Q,z⟩
      . have u:k<w.AB.length:=ah;unfold ev at g2 z;rw[IK u]at g2
        have:=idxL_mem w.AB[j].cr w.AB 0 k u g2;grind
     unfold Bb.J3;refine tI (λh=>tR (b λg=> ?_)) λh=> ?_
     . simp_all
     . have:=mnf_loop hn d.s w.AB[j] (j:Int) BT 0 [] ah ah ak;simp_all
 exact key BT 0 _ ah (by have:=idxL_len w.AB[j].cr w.AB 0;omega) ak
def relV(wv:AF)(e:AH):Int:=if e.da=7\/e.da=9\/e.da=11 then e.dn else if e.da=16 then(ix wv.Ak e.dn).dm else if e.da=13 then(wv.AK.length:Int)else -1
def acqV(wv:AF)(e:AH):Int:=if e.da=6\/e.da=8\/e.da=10 then e.dn else if e.da=17 then(ix wv.Ak e.dn).dm else if e.da=12 then(wv.AK.length:Int)else -1
structure ObjOK (wv:AF) (e:AH):Prop where
 l:e.da=6\/e.da=7\/e.da=8\/e.da=9\/e.da=10\/e.da=11->Cp e.dn wv.AK.length=true
 c:e.da=16\/e.da=17->Cp e.dn wv.Ak.length=true/\Cp (ix wv.Ak e.dn).dm wv.AK.length=true
theorem obj_ok(j:WQ w)(hi:i<w.AB.length):ObjOK w.cT w.AB[i]:=by
 have key:∀{l:jm}{s:AD},dQ w.cT s l->∀e∈l,Bm w.cT e.da e.dn=true:=by
  intro l;induction l with
  |nil=>simp_all
  |cons a r ih=>
   intro s d e c;rcases AAr.1 c with rfl|c
   . exact(poss_enS d.1).2.2.1
   . exact ih d.2 e c
 have b:=key (Vc j.g.v).p _ (AAi hi);generalize w.AB[i]=e at b;refine⟨λh=> ?_,λh=> ?_⟩
 . unfold Bm at b;rcases h with h|h|h|h|h|h<;>rw[h]at b<;>simp at b<;>exact b.1
 . have:Cp e.dn w.cT.Ak.length=true:=(by unfold Bm at b;rcases h with h|h<;>rw[h]at b<;>simpa using b);exact⟨this,j.f.l.m _ this⟩
theorem released_eq(h:ObjOK wv e):IA wv e=some (relV wv e):=by
 unfold IA IA.J1 relV;by_cases d:e.da=7
 . simp[d]
 by_cases f:e.da=9
 . simp[f]
 by_cases b:e.da=11
 . simp[b]
 by_cases a:e.da=16
 . rw[B6 (h.c (.inl a)).1];simp[a]
 grind
theorem acquired_eq(h:ObjOK wv e):Hz wv e=some (acqV wv e):=by
 unfold Hz Hz.J1 acqV;by_cases d:e.da=6
 . simp[d]
 by_cases f:e.da=8
 . simp[f]
 by_cases b:e.da=10
 . simp[b]
 by_cases a:e.da=17
 . rw[B6 (h.c (.inr a)).1];simp[a]
 grind
def holdP(w:AG)(k u:Int)(sh:Bool):Prop:=Cp u w.cT.AA.length=true/\
 if k=(w.cT.AK.length:Int)then w.db.de.Tx=u/\sh=false else sh=false/\(ix w.db.de.AK k).B9=u\/sh=true/\u∈(ix w.db.de.AK k).An
def firstR(w:AG)(u k:Int)(i:Nat):Prop:=i<w.AB.length/\(ev w i).cr=u/\relV w.cT (ev w i)=k/\∀i',i'<i->(ev w i').cr=u->relV w.cT (ev w i')≠k
def HP(w:AG)(u k:Int)(sh:Bool)(i j:Nat):Prop:=firstR w u k i/\j<w.AB.length/\(ev w j).cr≠u/\acqV w.cT (ev w j)=k/\(sh=true->(ev w j).da≠8)
def HB(w:AG)(k:Int)(i j:Nat):Prop:=∃u sh,holdP w k u sh/\HP w u k sh i j
theorem idxL_sorted(t:Int):∀(l:jm)(i:Nat),(MR t i l).Pairwise (· < ·):=by
 intro l;induction l with
 |nil=>intro i;simp[MR]
 |cons y l ih=>
  intro i;unfold MR;split
  . refine List.pairwise_cons.2 ⟨λx a=> ?_,ih (i+1)⟩;obtain⟨k,_,b,_⟩:=qU _ _ _ _ a;omega
  simp_all
theorem release_tot(H:WQ w)(M:Cp t w.cT.AA.length=true){a:Bool}{A:iy}(o:RW w r A):B5 (Bc r t k a) λb=>RW w b (λi j=>A i j\/HP w t k a i j):=by
 have hB:=BP;have hn:=H.f.e;have L:=idxL_len t w.AB 0
 -- behind the first release
 have c:∀e:Nat,firstR w t k e->B5 (Bc.J1 k r a t (e:Int)) λb=>RW w b (λi j=>A i j\/HP w t k a i j):=by
  intro e p;have u:∀i,firstR w t k i->i=e:=λi hi=>by
   rcases Nat.lt_trichotomy i e with h|h|h
   . exact absurd hi.2.2.1 (p.2.2.2 i h hi.2.1)
   . exact h
   . exact absurd p.2.2.1 (hi.2.2.2 e h p.2.1)
  have key:∀(n i:Nat)(f:AE),i<=w.AB.length->w.AB.length<n+i->RW w f (λx y=>A x y\/y<i/\HP w t k a x y)->B5 (Bc.CC (e:Int) k r a t n f (i:Int)) λb=>RW w b (λi j=>A i j\/HP w t k a i j):=by
   intro n;induction n with
   |zero=>omega
   |succ n ih=>
    intro i f Q R d;rw[Bc.CC];unfold Bc.L2;rw[o.s];by_cases hi:i<w.AB.length
    . have P:ev w i=w.AB[i]:=IK hi;have skip:¬(w.AB[i].cr≠t/\acqV w.cT w.AB[i]=k/\(a=true->w.AB[i].da≠8))->B5 (Bc.CC (e:Int) k r a t n f ((i+1:Nat):Int)) λb=>RW w b (λi j=>A i j\/HP w t k a i j):=λW=>by
       refine ih (i+1) f ah ah (d.congr λx y _ _=>⟨λg=>g.imp id λg=>⟨ah,g.2⟩,λg=>g.imp id λg=>⟨?_,g.2⟩⟩);by_cases D:y=i
       . subst D
         have:=g.2.2.2;simp_all
       . omega
      have put:w.AB[i].cr≠t/\acqV w.cT w.AB[i]=k/\(a=true->w.AB[i].da≠8)->B5 ((gt f.d4 (e:Int)).bind λq=>(gt q (i:Int)).bind λ_=>Bc.J4 (Bc.CC (e:Int) k r a t n) (i:Int) (AE.mk f.w f.eb f.ef (f.d4.set (e:Int).toNat (q.set (i:Int).toNat true)))) λb=>RW w b (λi j=>A i j\/HP w t k a i j):=λN=>by
       refine d.set p.1 hi λrow _ V=> ?_;unfold Bc.J4;rw[AA9,AA9,Af ah];refine ih (i+1) _ ah ah (V.congr λx y _ _=> ?_);constructor
       . rintro((g|⟨g1,g2⟩)|⟨rfl,rfl⟩)
         . grind
         . grind
         . exact .inr ⟨ah,p,hi,am⟩
       . rintro(g|⟨g1,g2⟩)
         . simp_all
         . by_cases D:y=i
           . exact .inr ⟨u x g2.1,D⟩
           grind
      rw[BC ah,B4 hi,AAS];unfold Bc.J2;refine tI (λB=> ?_) λB=> ?_
      . rw[AAb rfl];unfold Bc.J4;rw[Af ah];simp_all
      . rw[d.s,acquired_eq (obj_ok H hi),AAS];refine tI (λv=> ?_) λv=> ?_
        . unfold Bc.J4;rw[Af ah];simp_all
        . have v:acqV w.cT w.AB[i]=k:=(by simpa using v);have B:w.AB[i].cr≠t:=(by simpa using B);unfold Bc.J3;refine tI (λU=> ?_) λU=> ?_
          . simp_all
          . refine tI (λS=>put ⟨B,v,λ_=>am⟩) λS=> ?_;unfold Bc.J4;rw[Af ah];simp_all
    . rw[Ad ah];exact tR (d.congr λx y _ hy=>⟨λg=>g.imp id λg=>g.2,λg=>g.imp id λg=>⟨ah,g⟩⟩)
  unfold Bc.J1;rw[Ad ah];exact key BT 0 r ah ah (o.congr λx y _ _=>⟨.inl,λg=>g.elim id λg=>ah⟩)
 have key:∀(n l:Nat),l<=(MR t 0 w.AB).length->(MR t 0 w.AB).length<n+l->(∀x∈(MR t 0 w.AB).take l,relV w.cT (ix w.AB x)≠k)->B5 (Bc.AW k r a t (MR t 0 w.AB) n (l:Int)) λb=>RW w b (λi j=>A i j\/HP w t k a i j):=by
  intro n;induction n with
  |zero=>omega
  |succ n ih=>
   intro l Q R d;rw[Bc.AW];unfold Bc.L1;by_cases z:l<(MR t 0 w.AB).length
   . obtain⟨i,hi,C,Z⟩:=qU _ _ _ _ (AAi z);rw[ABW]at C;have X:(MR t 0 w.AB).take (l+1)=(MR t 0 w.AB).take l++[(i:Int)]:=(by rw[List.take_succ_eq_append_getElem z,C]);rw[BC ah,o.l,lines_gt M,AAS,B4 z,AAS,C,o.s,B4 hi,AAS,released_eq (obj_ok H hi),AAS];have P:ev w i=w.AB[i]:=IK hi;refine tI (λh=>c i ⟨hi,am,am,λI J K O=> ?_⟩) λh=> ?_
     . have hi':I<w.AB.length:=ah;have E:=idxL_mem t w.AB 0 I hi' (by rw[<- K];exact congrArg AH.cr (IK hi').symm);rw[ABW]at E;obtain⟨m,F,G⟩:=ABX E;have T:m<l:=by
        rcases Nat.lt_trichotomy m l with g|g|g
        . exact g
        . grind
        . have:=List.pairwise_iff_getElem.1 (idxL_sorted t w.AB 0) l m z F g;omega
       refine d (I:Int) ?_ O;rw[<- G];exact List.mem_take_iff_getElem.2 ⟨m,ah,rfl⟩
     . rw[Af ah];grind
   . rw[Ad ah];unfold Bc.J1;rw[BC ah];refine tR (o.congr λx y _ _=>⟨.inl,λg=>g.elim id λg=> ?_⟩);obtain⟨J,K,O,_⟩:=g.1;have E:=idxL_mem t w.AB 0 x J (by rw[<- K];exact congrArg AH.cr (IK J).symm);grind
 unfold Bc;rw[o.l,lines_gt M,AAS];grind
end
end Go.Abs
