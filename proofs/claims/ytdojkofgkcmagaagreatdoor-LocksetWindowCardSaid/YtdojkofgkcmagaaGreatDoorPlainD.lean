/- What the typed programs give, in plain Lean. -/
import Derived.Test.YtdojkofgkcmagaaGreatDoorWalkF
import Derived.Test.YtdojkofgkcmagaaGreatDoorPlainC
import Derived.Test.YtdojkofgkcmagaaGreatDoorRows
import Derived.Test.YtdojkofgkcmagaaGreatDoorTie
import Derived.ProofKit
import Derived.LaidMore
import Derived.OpenShut
set_option linter.defProp false
set_option linter.unusedSimpArgs false
set_option linter.unusedVariables false
namespace Go.Abs
variable{p:AR}{t a o i k:Int}{S b:gx}{n nt N:Nat}{j:Ad}{R:gc}{wv:AD}{l f:dc}{s:AB}{z:AU}{C:ep}{v:M8}{w:AL}{r:KM}{B:dh}{c:Type}{e:AG}
section
set_option maxHeartbeats 4000000
section
variable{T:fb}
def Ow:Nat->List AQ->Nat
 |0,_=>0
 |d+1,l=>(l.map λs=>1+Ow d s.Body+Ow d s.Else).sum
theorem sum_le{l:dF}{k:Nat}(h:∀x∈l,x<=k):l.sum<=l.length*k:=by
 induction l with
 |nil=>simp
 |cons x r ih=>have b:=h x ABD;have c:=ih λy a=>h y (ABN _ a);rw[List.sum_cons,AA8,ABF];omega
theorem eW(d:Nat):∀l,S9 T d l->Ow d l<=10*HK d:=by
 induction d with
 |zero=>exactλ_ _=>Nat.zero_le _
 |succ d ih=>intro l ⟨h1,h2⟩;have f:HK (d+1)=1+20*HK d:=rfl;refine AA5 (sum_le (k:=HK (d+1)) ?_) (by rw[AAo];exact AAw _ h1);intro x b;obtain⟨s,a,rfl⟩:=ABO.1 b;have c:=ih _ (h2 s a).body;have e:=ih _ (h2 s a).els;omega
theorem Yn{l:d5}{i:Nat}(h:i<l.length)(f:AQ->Nat):((l.take (i+1)).map f).sum=((l.take i).map f).sum+f l[i]:=by rw[<- AAX h,AAp,List.sum_append];simp
theorem Mh(l:d5)(i:Nat)(f:AQ->Nat):((l.take i).map f).sum<=(l.map f).sum:=by
 conv=>rhs;rw[<- ABA i l,AAp,List.sum_append]
 omega
theorem cst_le{d:Nat}(h:d<=4):HK d<=8421:=by
 have:d=0\/d=1\/d=2\/d=3\/d=4:=ah
 rcases this with rfl|rfl|rfl|rfl|rfl<;>decide
theorem Count_eq(d:Nat):∀(n:Nat)(l:d5),d<=4->d+1<=n->S9 T d l->CD (GY n l) λr=>r=(Ow d l:Int):=by
 induction d with
 |zero=>intro n l _ hn ⟨_,h⟩;obtain⟨n,rfl⟩:∃k,n=k+1:=⟨n-1,ah⟩;have:l=[]:=AAv.2 λx a=>(h x a).elim;subst this;show CD (Cy (GY n) []) _;exact tR rfl
 |succ d ih=>
  intro n l hd hn ⟨h1,h2⟩;obtain⟨n,rfl⟩:∃k,n=k+1:=⟨n-1,ah⟩;show CD (Cy (GY n) l) _;unfold Cy;have t:=cst_le (d:=d) ah;have g:=eW (T:=T) (d+1) l ⟨h1,h2⟩;have o:=cst_le hd
  let f:AQ->Nat:=λs=>1+Ow d s.Body+Ow d s.Else
  refine Pw l.length (λi (s:Int)=>s+i=((l.take i).map f).sum+l.length) (F:=λn s i=>Cy.Aa _ l n s i) ah ak λm i s hi y k=> ?_;unfold Cy.Aa Cy.L1 Cy.J1;have w:=Mh l i f;have C:Ow (d+1) l=(l.map f).sum:=rfl;refine tD (λj=>bR ah ?_) λ_=>tR ?_
  . have a:l[i]∈l:=AAS ah;have b:=(h2 _ a).body;have c:=(h2 _ a).els;have p:=eW d _ b;have q:=eW d _ c;have e:=Mh l (i+1) f;have st:=Yn ah f (i:=i) (l:=l);refine tB (ih n _ ah ah b) λv B=>tB (ih n _ ah ah c) λu z=>k _ ah ?_;rw[B9 (n:=s+v) ah ah,B9 ah ah,st];grind
  grind
theorem bQ{l:List Cq}{i:Nat}(h:i<l.length)(f:Cq->Nat):((l.take (i+1)).map f).sum=((l.take i).map f).sum+f l[i]:=by rw[<- AAX h,AAp,List.sum_append];simp
theorem check60(h:MP p):CD (A5 p) λr=>r.1=0->(p.AA.map λt=>Ow 4 t.Body).sum<=60:=by
 have hd:=h.dl;have j:=h.t;have D:HK 4=8421:=rfl;have N:∀{a b:Int}{P:Prop},(a != 0)=true->CD (some (a,b)) λr:Int×Int=>r.1=0->P:=λh=>tR λB=>am
 unfold A5;refine IW (Wi h) λ_=>tI (λ_=>N rfl) λ_=>IW (Z3 h) λ_=>tI (λh=>N h) λ_=>tI (λ_=>N rfl) λ_=>IW (VH h) λ_=>tI (λh=>N h) λ_=> ?_
 let f:Cq->Nat:=λt=>Ow 4 t.Body
 have c:∀t∈p.AA,f t<=84210:=λt j=>by have:=eW 4 _ (h.b t j);grind
 refine Pw p.AA.length (λi (s:Int)=>s=((p.AA.take i).map f).sum/\s<=i*84210) (F:=λn s i=>A5.Aa p n s i) ah ak λm i s hi g k=> ?_;unfold A5.Aa A5.L1 A5.J1;refine tD (λ_=>bR ah (tB (Count_eq 4 _ _ ah (MC ah) (h.b _ (AAS ah))) λv o=>k _ ah ?_)) λE=>tD (λ_=>N rfl) λu=> ?_
 . have st:=bQ (l:=p.AA) (i:=i) ah f;have C:=c _ (AAS (show i<p.AA.length by omega));have e:f p.AA[i]=Ow 4 p.AA[i].Body:=rfl;rw[B9 ah ah,st];omega
 have d:i=p.AA.length:=ah
 rw[d,List.take_length]at g;have q:(p.AA.map f).sum<=60:=ah
 refine Pw p.AA.length (λi w=>WK p 0 (i*84210) w) (F:=λn s i=>A5.DF p n s i) ah ⟨rfl,rfl,ak,ak⟩ λm i s hi c k=> ?_;unfold A5.DF A5.L2 A5.J2;refine tD (λz=>tG ah λx y=> ?_) λ_=>tR λ_=>q;refine tB (rM h 4 _ 0 (i*84210) _ _ (MC ah) ah ah ⟨c.p,c.a,c.s,c.t⟩ (h.b x y)) λv o=>tI (λh=>N h) λ_=>k _ ah (o.mono ah)
def SN(t nv:Int)(l:gx):Prop:=∀(j:Nat) x,l[j]? =some x->x.Thread=t/\x.Stmt=nv+j
theorem SN.app(h:SN t a S)(g:SN t (a+S.length) b):SN t a (S++b):=by
 intro j x c;by_cases e:j<S.length
 . rw[AAg e]at c;exact h j x c
 . rw[AAa ah]at c
   have:=g _ x c;omega
theorem SN.one:SN t a [⟨t,a,o⟩]:=by intro j x b;grind
theorem sites_ok(d:Nat):∀(n:Nat)(o:gx)(t a:Int)(l:d5),d+1<=n->o.length+Ow d l<=900000->(0<=a/\a+Ow d l<=900000)->S9 T d l->CD (GZ n o t a l) λr=>∃S,r.1=o++S/\S.length=Ow d l/\SN t a S/\r.2=a+Ow d l:=by
 induction d with
 |zero=>intro n o t a l hn _ _ ⟨_,h⟩;obtain⟨n,rfl⟩:∃k,n=k+1:=⟨n-1,ah⟩;have:l=[]:=AAv.2 λx b=>(h x b).elim;subst this;show CD (Cz (GZ n) o t a []) _;exact tR ⟨[],ak,rfl,λj x b=>by simp at b,by simp[Ow]⟩
 |succ d ih=>
  intro n o t a l hn I J ⟨h1,h2⟩;obtain⟨n,rfl⟩:∃k,n=k+1:=⟨n-1,ah⟩;show CD (Cz (GZ n) o t a l) _;unfold Cz
  let f:AQ->Nat:=λs=>1+Ow d s.Body+Ow d s.Else
  have K:Ow (d+1) l=(l.map f).sum:=rfl;refine Pw l.length (λi (s:List Dk×Int)=>∃S,s.1=o++S/\S.length=((l.take i).map f).sum/\SN t a S/\s.2=a+((l.take i).map f).sum) (F:=λm s i=>Cz.Aa _ l t m s.1 s.2 i) (s0:=(o,a)) ah ⟨[],ak,rfl,λj x b=>by simp at b,ak⟩ λm i s hi C k=> ?_;obtain⟨S,q,c,w,g⟩:=C;unfold Cz.Aa Cz.L1 Cz.J1;refine tD (λG=>bR ah ?_) λL=> ?_
  . have st:=Yn (l:=l) (i:=i) ah f;have B:=Mh l (i+1) f;have b:l[i]∈l:=AAS ah;have H:f l[i]=1+Ow d l[i].Body+Ow d l[i].Else:=rfl;have p:s.1.length=o.length+((l.take i).map f).sum:=(by rw[q,AAr,c]);refine tC (Bm ah) ?_;rw[g,B9 (n:=a+((l.take i).map f).sum+1) ah ah];refine tB (ih n _ t _ _ ah an ah (h2 _ b).body) λv z=> ?_;obtain⟨S2,Q,R,E,U⟩:=z;refine tB (ih n _ t _ _ ah bg ah (h2 _ b).els) λu D=> ?_;obtain⟨y,M,N,O,P⟩:=D;refine k (_,_) ah ⟨S++([⟨t,a+((l.take i).map f).sum,l[i].FK⟩]++(S2++y)),?_,?_,?_,?_⟩
    . simp_all
    . grind
    . refine w.app ?_;rw[c];refine SN.one.app ?_;rw[show a+((l.take i).map f).sum+(([⟨t,a+((l.take i).map f).sum,l[i].FK⟩]:List Dk).length:Int)=a+((l.take i).map f).sum+1 from by simp];refine E.app ?_;simp_all
    omega
  . have e:i=l.length:=ah;subst e;rw[List.take_length]at c g;exact tR ⟨S,q,c,w,g⟩
end
section
variable{T:fb}{g h r:BB}{lo hi lo' hi':Int}
def BS(T:fb)(R:gc)(l:d5)(n:Nat):Prop:=
 ∀g,GW T g->(0<=g.next/\g.next+n<=1000000)->Lt (R g l) λr=>GV g r g.next (g.next+n)/\r.next=g.next+n
def QD{l k:fq}(h:n<l.length):(l++k)[n]? =l[n]? :=AAg h
theorem WD{l:fq}:(l++[j])[l.length]? =some j:=ak
theorem nH{s:AQ}(c:GW T g)(j:lo<=g.site/\g.site<hi)(hn:0<=g.next/\g.next+n<=1000000)(b:lo<=g.next)(q:g.next+n<=hi)(m:BS T R s.Body n)(x:11<=a/\a<=25)(y:11<=t/\t<=25)(i:∀p S,p=a\/p=t->AN g.w ⟨p,o,0,0,0,S⟩=some true):Lt (DC R g s a t o) λr=>GV g r lo hi/\r.next=g.next+n:=by
 unfold DC;refine pB (s8 (lo:=lo) (hi:=hi) ⟨aA,i _ _ (.inl rfl),by rw[rg0 aA];simp,j,aA,aA⟩ aA) λv d=> ?_;have e:=m v (c.next d.1) (by rw[d.2.2];exact hn);rw[d.2.2]at e;refine pB e λu k=> ?_;have f:=d.1.trans (k.1.mono b q);have l:=f.site g.site u.next;refine pM (IL (lo:=lo) (hi:=hi) ⟨aA,?_,by rw[rg0 aA];simp,j,aA,aA⟩ aA) λ_ h=>⟨l.trans h.1,h.2.2.trans k.2⟩;simp only;rw[f.w];exact i _ _ (.inr rfl)
theorem cJ{s:AQ}(E:GW T g)(N:lo<=g.site/\g.site<hi)(hn:0<=g.next/\g.next+n+nt<=1000000)(hl:lo<=g.next)(hh:g.next+n+nt<=hi)(M:S8 2 s.Expr)(hR:BS T R s.Body n)(hE:BS T R s.Else nt)(h3:s.Op=3->nt=0)(h0:s.Else=[]->nt=0):Lt (Ct R g s) λr=>GV g r lo hi/\r.next=g.next+n+nt:=by
 have W:(g.locals.length:Int)=2:=by rw[E.l];rfl
 unfold Ct;rw[W];refine pB (Tv M E N ah) λd hd=> ?_;have dL:(d.locals.length:Int)=2:=by rw[hd.1.l];exact W
 rw[dL];refine pB (put_eq _) λq hq=> ?_;have JJ:d.site=g.site:=hd.2.1;have u:d.next=g.next:=hd.2.2;subst hq;have G:=E.next hd.1;have j:=hR ⟨d.w,d.locals,d.out++[⟨10,2,0,0,0,d.site⟩],d.site,d.next⟩ ⟨G.w,G.l⟩ (by simp only;rw[u];omega);refine pB j λb t=> ?_;obtain⟨t,D⟩:=t;simp only at D;rw[u]at D;have t:=t.mono (lo':=lo) (hi':=hi) (by simp only;rw[u];exact hl) (by simp only;rw[u];omega);have q1:=hd.1.n;have b1:d.out.length+1<=b.out.length:=by have:=t.n;simpa using this
 have I:∀i,i<d.out.length+1->b.out[i]? =(d.out++[(⟨10,2,0,0,0,d.site⟩:Ad)])[i]? :=λi hi=>t.p i (by simpa using hi);have S:SG d.w lo hi b.out (d.out.length+1) b.out.length b.out.length:=by have:=t.s;simpa using this
 have C:b.w=g.w:=t.w.trans hd.1.w;have H:b.locals=g.locals:=t.l.trans hd.1.l;have dw:=hd.1.w;rw[dw]at S
 -- a list that goes on as these do, but for the branch
 have val:∀(F:fq),b.out.length<=F.length->(∀i,i<d.out.length->F[i]? =b.out[i]?)->SG g.w lo hi F g.out.length d.out.length F.length:=λF f1 f2=>
  hd.1.s.frame (λi _ hi=>by rw[f2 i hi,I i ah,QD hi]) ah ah ah ah
 have pre:∀(F:fq),(∀i,i<d.out.length->F[i]? =b.out[i]?)->∀i,i<g.out.length->F[i]? =g.out[i]? :=λF f2 i hi=>by rw[f2 i ah,I i ah,QD ah,hd.1.p i hi]
 have v:∀(F:fq)(c:Nat),b.out.length<=F.length->b.out.length<=c->(∀i,d.out.length<i->i<b.out.length->F[i]? =b.out[i]?)->SG g.w lo hi F (d.out.length+1) b.out.length c:=λF c f1 f3 f2=>
  S.frame (λi j o=>(f2 i ah o).symm) f1 ah ah f3
 have J:∀(c:Nat)(B:Nat),B<=c->LV g.w lo hi c ⟨10,2,(B:Int),0,0,d.site⟩:=λc B V=>⟨ak,p8 ak,by rw[rg10 rfl];exact dW (x:=0) ak,by simp only;rw[JJ];exact N,ak,λ_=>aA⟩;have Z:∀(c:Nat)(A:Nat),A<=c->LV g.w lo hi c ⟨5,(A:Int),0,0,0,g.site⟩:=λc A U=>⟨ak,p8 ak,by rw[rg0 (.inl rfl)];simp,N,λ_=>aA,ak⟩;have bd:b.out[d.out.length]? =some ⟨10,2,0,0,0,d.site⟩:=by rw[I _ ah];exact WD
 refine pI (λh=> ?_) λO1=>pI (λh=> ?_) λX=> ?_
 . -- a loop
   have hm:=h3 (eq_of_beq h);refine pB (put_eq _) λe M=> ?_;subst M;refine pE (y:=⟨10,2,0,0,0,d.site⟩) (by rw[JI];simp only;rw[QD (by omega)];exact bd) (pR ⟨?_,aA⟩);simp only;generalize a:(b.out++[(⟨5,(g.out.length:Int),0,0,0,g.site⟩:Ad)]).set d.out.length ⟨10,2,((b.out++[(⟨5,(g.out.length:Int),0,0,0,g.site⟩:Ad)]).length:Int),0,0,d.site⟩=F;have fl:F.length=b.out.length+1:=(by rw[<- a];simp);have f1:∀i,i≠d.out.length->i<b.out.length->F[i]? =b.out[i]? :=λi j o=>(by rw[<- a,AAI (by omega),QD o]);have f2:F[d.out.length]? =some ⟨10,2,((b.out.length+1:Nat):Int),0,0,d.site⟩:=(by rw[<- a,AAF (by simp;omega)];simp);have f3:F[b.out.length]? =some ⟨5,(g.out.length:Int),0,0,0,g.site⟩:=(by rw[<- a,AAI (by omega)];exact WD);refine⟨C,H,aA,pre F λi hi=>f1 i ah ah,?_⟩;simp only
   have:=SG.back (val F ah λi hi=>f1 i ah ah) f2 (J _ _ ah) rfl (v F F.length ah ah λi j o=>f1 i ah o) f3 (Z _ _ ah) rfl rfl;rw[fl]at this |-;exact this
 . -- without another part
   have hm:nt=0:=h0 (by have:=eq_of_beq h;exact List.length_eq_zero_iff.1 (by omega));refine pE (y:=⟨10,2,0,0,0,d.site⟩) (by rw[JI];exact bd) (pR ⟨?_,aA⟩);simp only;generalize a:b.out.set d.out.length ⟨10,2,(b.out.length:Int),0,0,d.site⟩=F;have fl:F.length=b.out.length:=(by rw[<- a];simp);have f1:∀i,i≠d.out.length->F[i]? =b.out[i]? :=λi j=>(by rw[<- a,AAI (by omega)]);have f2:F[d.out.length]? =some ⟨10,2,(b.out.length:Int),0,0,d.site⟩:=(by rw[<- a,AAF (by omega)]);refine⟨C,H,aA,pre F λi hi=>f1 i ah,?_⟩;simp only
   have:=((val F ah λi hi=>f1 i ah).app (SG.one f2 (J _ _ ah) ak)).app (v F F.length ah ah λi j o=>f1 i ah);rw[fl]at this |-;exact this
 . -- with another part
   refine pB (put_eq _) λf hf=> ?_;subst hf;refine pE (y:=⟨10,2,0,0,0,d.site⟩) (by rw[JI];simp only;rw[QD (by omega)];exact bd) ?_;simp only;generalize a:(b.out++[(⟨5,0,0,0,0,g.site⟩:Ad)]).set d.out.length ⟨10,2,((b.out++[(⟨5,0,0,0,0,g.site⟩:Ad)]).length:Int),0,0,d.site⟩=F;have fl:F.length=b.out.length+1:=(by rw[<- a];simp);have f1:∀i,i≠d.out.length->i<b.out.length->F[i]? =b.out[i]? :=λi j o=>(by rw[<- a,AAI (by omega),QD o]);have f2:F[d.out.length]? =some ⟨10,2,((b.out.length+1:Nat):Int),0,0,d.site⟩:=(by rw[<- a,AAF (by simp;omega)];simp);have f3:F[b.out.length]? =some ⟨5,0,0,0,0,g.site⟩:=(by rw[<- a,AAI (by omega)];exact WD);have h4:=hE ⟨b.w,b.locals,F,g.site,b.next⟩ ⟨by simp only;rw[C];exact E.w,H.trans E.l⟩ aA;refine pB h4 λi hi=> ?_;obtain⟨z,T5⟩:=hi;simp only at T5;have z:=z.mono (lo':=lo) (hi':=hi) aA aA;have i1:b.out.length+1<=i.out.length:=(by have:=z.n;simp only[fl]at this;exact this);have O:∀k,k<b.out.length+1->i.out[k]? =F[k]? :=λk hk=>z.p k (by simp only[fl];exact hk);have is:SG g.w lo hi i.out (b.out.length+1) i.out.length i.out.length:=(by have:=z.s;simp only[fl,C]at this;exact this);refine pE (y:=⟨5,0,0,0,0,g.site⟩) (by rw[JI,O _ (by omega)];exact f3) (pR ⟨?_,aA⟩);simp only;generalize L:i.out.set b.out.length ⟨5,(i.out.length:Int),0,0,0,g.site⟩=K;have kl:K.length=i.out.length:=(by rw[<- L];simp);have P:∀k,k≠b.out.length->K[k]? =i.out[k]? :=λk j=>(by rw[<- L,AAI (by omega)]);have Q:∀k,k≠d.out.length->k<b.out.length->K[k]? =b.out[k]? :=λk j o=>(by rw[P k (by omega),O k (by omega),f1 k j o]);have k3:K[d.out.length]? =some ⟨10,2,((b.out.length+1:Nat):Int),0,0,d.site⟩:=(by rw[P _ (by omega),O _ (by omega)];exact f2);have k4:K[b.out.length]? =some ⟨5,(i.out.length:Int),0,0,0,g.site⟩:=(by rw[<- L,AAF (by omega)]);refine⟨z.w.trans C,z.l.trans H,aA,pre K λi hi=>Q i ah ah,?_⟩;simp only;have U:=((val K ah λi hi=>Q i ah ah).app (SG.one k3 (J _ _ ah) ak)).app (v K K.length ah ah λi j o=>Q i ah o);have V:SG g.w lo hi K (b.out.length+1) i.out.length K.length:=is.frame (λk j _=>(P k ah).symm) ah ah ah ah
   have:=U.jump k4 (Z _ _ ah) rfl rfl V;rw[kl]at this |-;exact this
theorem tZ(d:Nat):Ow d []=0:=by cases d<;>rfl
end
section
variable{T:fb}{g h r:BB}{lo hi lo' hi':Int}
theorem cO(h:g.w.Ai=[⟨cN,0⟩]):CV g cN=some (0,g):=by unfold CV;have a:=BO;obtain⟨n,hn⟩:∃n,BW=n+1:=⟨BW-1,ah⟩;rw[hn];unfold CV.Aa CV.L1;rw[h];simp[gt]
theorem At_par{l:dv}{s:ABe}(e:l.length<1000000):Lt (CU l s) λr=>s∈l->0<=r/\r<l.length:=by
 unfold CU;refine pLs l.length (λi (_:Unit)=>∀j:Nat,j<i->l[j]? ≠some s) (s0:=()) (F:=λn _ i=>CU.Aa l s n i) (λ_ _=>rfl) ah (λj d=>ah) λn i _ hi f k=> ?_;unfold CU.Aa CU.L1 CU.J1;refine pD (λb=>pE (CF ah) (pI (λ_=>pR λ_=>ah) λc=>k () ah ?_)) λh=>pR λa=> ?_
 . grind
 . obtain⟨j,j1,g⟩:=ABR a;grind
theorem stmt_par{s:AQ}(m:GW T g)(u:Hw T (n+1) s)(hn:0<=g.next/\g.next+(1+nt+N)<=1000000)(hB:BS T R s.Body nt)(hE:BS T R s.Else N)(b0:s.Body=[]->nt=0)(e0:s.Else=[]->N=0):
 Lt (Cc (Ct R) (DC R) g s) λr=>GV g r g.next (g.next+(1+nt+N))/\r.next=g.next+(1+nt+N):=by
 have hw:BA (g.next+1)=g.next+1:=B9 ah ah;have bd:=u.2.2.2.2.2.2.2.2.1;have nm:=u.2.2.2.2.2.2.2.2.2;have nB:s.Op∉[(2:Int),3,4,5,6,7,8]->nt=0:=λh=>b0 (bd.1 h);have K:s.Op≠2->N=0:=λh=>e0 (bd.2 h);unfold Cc;rw[hw];generalize o:BB.mk g.w g.locals g.out g.next (g.next+1)=g1;have I:GW T g1:=by rw[<- o];exact⟨m.w,m.l⟩
 have gs:g1.site=g.next:=by rw[<- o]
 have H:g1.next=g.next+1:=by rw[<- o]
 have j:g1.w=g.w:=by rw[<- o]
 have gl:(g1.locals.length:Int)=2:=by rw[I.l];rfl
 have up:∀{r lo hi},GV g1 r lo hi->GV g r lo hi:=λh=>by rw[<- o]at h;exact⟨h.w,h.l,h.n,h.p,h.s⟩
 have si:g.next<=g1.site/\g1.site<g.next+(1+nt+N):=by rw[gs];omega
 -- one instruction
 have P:∀i:Ad,s.Op∉[(2:Int),3,4,5,6,7,8]->LV g1.w g.next (g.next+(1+nt+N)) (g1.out.length+1) ⟨i.Op,i.A,i.B,i.C,i.N,g1.site⟩->i.Op≠5->Lt ((A6 g1 i).bind λv=>some v) λr=>GV g r g.next (g.next+(1+nt+N))/\r.next=g.next+(1+nt+N):=by intro i F J h3;have z1:=nB F;have z2:=K (by intro h;rw[h]at F;simp at F);exact pM (IL J h3) λr h=>⟨up h.1,by rw[h.2.2,H];omega⟩
 have A:∀{a b c:Int},s.Op≠2->11<=a/\a<=25->11<=b/\b<=25->(∀p S,p=a\/p=b->AN g1.w ⟨p,c,0,0,0,S⟩=some true)->Lt ((DC R g1 s a b c).bind λv=>some v) λr=>GV g r g.next (g.next+(1+nt+N))/\r.next=g.next+(1+nt+N):=by intro a b c J ha O U;have z2:=K J;exact pB (nH (lo:=g.next) (hi:=g.next+(1+nt+N)) I si ah ah ah hB ha O U) λr h=>pR ⟨up h.1,by rw[h.2,H];omega⟩
 have lk:g.w.AF=Xo:=m.w.l;have j1:∀b,(b=true->s.Op=2\/s.Op=3)->(b=false->s.Op≠1/\s.Op≠2/\s.Op≠3)->Lt (Cc.J1 (Ct R) (DC R) g s b) λr=>GV g r g.next (g.next+(1+nt+N))/\r.next=g.next+(1+nt+N):=by
  intro b O wX;unfold Cc.J1;rw[hw,o];refine pI (λh=> ?_) λh0=> ?_
  . have U:=O h;have Q:S8 2 s.Expr:=u.2.2.1.resolve_right λh=>h.1 (by rcases U with h|h<;>simp[h]);exact pB (cJ (lo:=g.next) (hi:=g.next+(1+nt+N)) I si ah ah ah Q hB hE (λh=>K ah) e0) λr h=>pR ⟨up h.1,by rw[h.2,H];omega⟩
  have n0:=wX h0;refine pI (λh=> ?_) λn4=>pI (λh=> ?_) λn5=>pI (λh=> ?_) λn6=>pI (λh=> ?_) λn7=>pI (λh=> ?_) λn8=> ?_
  . have h:=eq_of_beq h;rw[lk];rcases nm.2.1 h with F|F<;>rw[F]
    . exact pE (y:=0) (by decide +kernel) (A ah ah ah λp S G=>objM aA (y:=⟨⟨#[109]⟩,false⟩) (by rw[j,lk];rfl) rfl)
    . exact pE (y:=1) (by decide +kernel) (A ah ah ah λp S G=>objM aA (y:=⟨⟨#[110]⟩,false⟩) (by rw[j,lk];rfl) rfl)
  . have h:=eq_of_beq h;rw[lk,nm.2.2.1 (.inl h)];exact pE (y:=2) (by decide +kernel) (A ah ah ah λp S G=>objR aA (y:=⟨⟨#[114]⟩,true⟩) (by rw[j,lk];rfl) rfl)
  . have h:=eq_of_beq h;rw[lk,nm.2.2.1 (.inr h)];exact pE (y:=2) (by decide +kernel) (A ah ah ah λp S G=>objR aA (y:=⟨⟨#[114]⟩,true⟩) (by rw[j,lk];rfl) rfl)
  . have h:=eq_of_beq h;exact A ah ah ah λp S G=>p8 (by rcases G with h|h<;>simp[h])
  . have h:=eq_of_beq h;exact A ah ah ah λp S G=>p8 (by rcases G with h|h<;>simp[h])
  simp only[ABI,ne_eq]at n4 n5 n6 n7 n8;have D:s.Op∉[(2:Int),3,4,5,6,7,8]:=an
  have L:∀{p c e:Int},11<=p/\p<=25->AN g1.w ⟨p,c,0,0,0,g1.site⟩=some true->LV g1.w g.next (g.next+(1+nt+N)) (g1.out.length+1) ⟨p,c,0,0,0,g1.site⟩:=λF J=>
   ⟨aA,J,by rw[rg0 aA];simp,si,aA,aA⟩
  have M:g1.w.Ai=[⟨cN,0⟩]:=by rw[j];exact m.w.d
  have G3:(g1.w.Ai.length:Int)=1:=by rw[M];rfl
  refine pI (λh=> ?_) λn9=>pI (λh=> ?_) λV=>pI (λh=> ?_) λW=>pI (λh=> ?_) λX=>pI (λh=> ?_) λZ=>pI (λh=> ?_) λn14=>pI (λh=> ?_) λn15=> ?_
  . rw[u.2.2.2.1 (by simp[eq_of_beq h])];exact pE (cO M) (P ⟨21,0,0,0,0,0⟩ D (L (e:=0) ak (objC (.inl rfl) aA)) ak)
  . rw[u.2.2.2.1 (by simp[eq_of_beq h])];exact pE (cO M) (P ⟨22,0,0,0,0,0⟩ D (L (e:=0) ak (objC (.inr (.inl rfl)) aA)) ak)
  . rw[u.2.2.2.1 (by simp[eq_of_beq h])];exact pE (cO M) (P ⟨23,0,0,0,0,0⟩ D (L (e:=0) ak (objC (.inr (.inr rfl)) aA)) ak)
  . refine pB (At_par (by have:=m.w.n;omega)) λv z=> ?_
    have:=z (m.w.t _ (nm.2.2.2.1 (.inl (eq_of_beq h))));exact P ⟨24,v,0,0,0,0⟩ D (L (e:=0) ak (objT (.inl rfl) (by simp only;rw[j];exact this))) ak
  . refine pB (At_par (by have:=m.w.n;omega)) λv z=> ?_
    have:=z (m.w.t _ (nm.2.2.2.1 (.inr (eq_of_beq h))));exact P ⟨25,v,0,0,0,0⟩ D (L (e:=0) ak (objT (.inr rfl) (by simp only;rw[j];exact this))) ak
  . have h:=eq_of_beq h;have Q:S8 2 s.Expr:=u.2.2.1.resolve_right λq=>q.1 (by simp[h]);have z1:=nB D;have z2:=K ah;rw[show(g.locals.length:Int)=2 from by rw[m.l];rfl];refine pB (Tv (lo:=g.next) (hi:=g.next+(1+nt+N)) Q I si ah) λv z=> ?_;have hf:v.w.AK=[⟨#[102]⟩]:=(by rw[z.1.w,j];exact m.w.f);rw[hf,nm.2.2.2.2.1 h];refine pE (y:=0) (by decide +kernel) (pM (IL ⟨ak,obj26 rfl (by rw[hf];simp),by rw[rg26 rfl];exact dW (x:=0) ak,by rw[z.2.1];exact si,ak,ak⟩ ak) λr h=>⟨up (z.trans h).1,by rw[h.2.2,z.2.2,H];omega⟩)
  . have h:=eq_of_beq h;have hn:=nm.2.2.2.2.2 h;rw[m.l,m.w.f,hn.1,hn.2];refine pE (y:=0) (by decide +kernel) (pE (y:=0) (by decide +kernel) (P ⟨27,0,0,0,0,0⟩ D ⟨ak,obj27 rfl (by rw[j,m.w.f];simp),by rw[rg27 rfl];exact dW (x:=0) ak,si,ak,ak⟩ ak))
  . have:=u.1;simp only[ABI,ne_eq]at n9 V W X Z n14 n15;omega
 refine pI (λh=> ?_) λn1=>pI (λh=>j1 _ (λ_=>.inl (eq_of_beq h)) λh'=>by rw[h']at h;cases h) λn2=>j1 _ (λh=>.inr (eq_of_beq h)) λh=>⟨by simpa using n1,by simpa using n2,by simpa using h⟩;have h:=eq_of_beq h;have z1:=nB (by rw[h];decide);have z2:=K ah;exact pB (nK (lo:=g.next) (hi:=g.next+(1+nt+N)) I si u h) λr h=>pR ⟨up h.1,by rw[h.2.2,H];omega⟩
theorem zD(d:Nat):∀(n:Nat)(l:d5),3*d+1<=n->S9 T d l->BS T (DU n) l (Ow d l):=by
 induction d with
 |zero=>intro n l hn ⟨_,h⟩ g hg c;obtain⟨n,rfl⟩:∃k,n=k+1:=⟨n-1,ah⟩;have:l=[]:=AAv.2 λx c=>(h x c).elim;subst this;show Lt (some g) _;exact pR ⟨GV.refl,by simp[Ow]⟩
 |succ d ih=>
  intro n l hn ⟨h1,h2⟩ g hg c;obtain⟨n,rfl⟩:∃k,n=k+3:=⟨n-3,ah⟩;show Lt (CH (Cc (Ct (DU n)) (DC (DU n))) g l) _;unfold CH
  let f:AQ->Nat:=λs=>1+Ow d s.Body+Ow d s.Else
  have t:Ow (d+1) l=(l.map f).sum:=rfl;refine pLs l.length (λi s=>GV g s g.next (g.next+((l.take i).map f).sum)/\s.next=g.next+((l.take i).map f).sum) (F:=λm s i=>CH.Aa _ l m s i) (λ_ _=>rfl) ah ⟨GV.refl,ak⟩ λm i s hi p k=> ?_;obtain⟨a,e⟩:=p;unfold CH.Aa CH.L1;refine pD (λq=>pE (CF ah) ?_) λu=> ?_
  . have st:=Yn (l:=l) (i:=i) ah f;have o:=Mh l (i+1) f;have b:l[i]∈l:=AAS ah;have r:f l[i]=1+Ow d l[i].Body+Ow d l[i].Else:=rfl;refine pB (stmt_par (hg.next a) (h2 _ b) ah (ih n _ ah (h2 _ b).body) (ih n _ ah (h2 _ b).els) (λh=>by rw[h];exact tZ d) λh=>by rw[h];exact tZ d) λv j=>k _ ah ?_;rw[e]at j;refine⟨(a.mono ah ah).trans (j.1.mono ah ah),ah⟩
  . have:i=l.length:=ah;subst this;rw[List.take_length]at a e;exact pR ⟨a,e⟩
theorem RX{l:fq}{a b:Nat}(h:l.length<=8000000)(g:b<=l.length):∀(n fuel i k m:Nat),QR l a b n k m->Ev l m->n+i<=l.length->l.length+1<fuel+i->CJ.Aa l fuel k i=some true:=by
 intro n;induction n with
 |zero=>intro fuel i k m r ⟨x,x1,x2⟩ h1 h2;cases r;obtain⟨fuel,rfl⟩:∃f,fuel=f+1:=⟨fuel-1,ah⟩;have c:=(AAE.1 x1).1;unfold CJ.Aa CJ.L1 CJ.J1;rw[A9 ah,Ae ah,AAK an,JI,x1,AAB,P6,x2];rfl
 |succ n ih=>
  intro fuel i k m ⟨c,j,⟨x,x1,x2,x3⟩,r⟩ ev h1 h2;obtain⟨fuel,rfl⟩:∃f,fuel=f+1:=⟨fuel-1,ah⟩;unfold CJ.Aa CJ.L1 CJ.J1 CJ.J2;have c:=(AAE.1 x1).1;rw[A9 ah,Ae ah,AAK an,JI,x1,AAB,P6,x2,AAB,Aj ah]
  have:=ih fuel (i+1) j m r ev ah ah;rcases x3 with⟨d,e⟩|⟨d,rfl⟩
  . simp_all
  . rw[AAK ak,AAK am,Aj ah];exact this
structure VO (w:AD) (t:Int) (c:Az):Prop where
 r:2<=c.Ck/\c.Ck<=32
 n:∃out lo hi,c.Br=out++[⟨28,0,0,0,0, -1⟩]/\SG w lo hi out 0 out.length out.length/\(∀k,lo<=k->k<hi->∃y,gt w.BU k=some y/\y.Thread=t)
 g:∀x∈c.Br,∀y∈rg x,y<c.Ck
theorem objE(h:j.Op=28):AN wv j=some true:=by simp[AN,AN.J3,AN.J5,AN.J7,AN.J8,h]
theorem Uc{c:Az}(C:c.Br.length<=8000000)(S:VO wv t c):AX wv t c=some true:=by
 obtain⟨⟨r1,r2⟩,⟨out,lo,hi,H,I,U⟩,Q⟩:=S;have Z:c.Br.length=out.length+1:=by rw[H];simp
 have L:=BO
 -- an instruction
 have l:∀(i:Nat) x,c.Br[i]? =some x->(i<out.length/\out[i]? =some x)\/i=out.length/\x=⟨28,0,0,0,0, -1⟩:=by
  intro i x q;rw[H]at q;by_cases h:i<out.length
  . grind
  . grind
 have V:c.Br[out.length]? =some ⟨28,0,0,0,0, -1⟩:=by rw[H];exact WD
 have v:∀i:Nat,i<c.Br.length->CJ c.Br (i:Int)=some true:=by
  intro i hi;have K:∀{n k m},QR out 0 out.length n k m->QR c.Br 0 out.length n k m:=λr=>r.frame (λj _ R=>bg) ah ah;have J:Ev c.Br out.length:=⟨_,V,rfl⟩;unfold CJ;by_cases h:i<out.length
  . rcases I.f i ah h with⟨n,m,r,m1,⟨x,x1,W⟩,hn⟩|⟨n,r,hn⟩
    . exact RX C ah n BW 0 i m (K r) ⟨x,bg,W⟩ ah ah
    . exact RX C ah n BW 0 i _ (K r) J ah ah
  . obtain rfl:i=out.length:=ah;exact RX (a:=0) (b:=0) C ah 0 BW 0 _ _ rfl J ah ah
 have key:CD (AX wv t c) λb=>b=true:=by
  unfold AX;refine tD ck λ_=>tD ck λ_=> ?_;rw[show((c.Br.length:Int)==0)=false from ABI.2 ah];unfold AX.J1;refine tI bk λ_=>Pw c.Br.length (λ_ (_:Unit)=>True) (s0:=()) (F:=λn _ i=>AX.Aa c t wv n i) ah trivial λn i _ hi _ k=> ?_;unfold AX.Aa AX.L1 AX.J6;refine tD (λX=>bR ah ?_) λ_=>tR rfl;have q:c.Br[i]? =some c.Br[i]:=AAJ ah;have u:c.Br[i]∈c.Br:=AAS ah;generalize c.Br[i]=x at q u;have M:CJ c.Br (i:Int)=some true:=v i ah;have N:BA ((c.Br.length:Int)-1)=out.length:=by rw[B9 ah ah];omega
  -- the registers
  have z:CD (AX.J4 (AX.Aa c t wv n) c i x false) λb=>b=true:=by
   unfold AX.J4;refine tI bk λ_=>tE (GR x).1 (Pw (rg x).length (λ_ (_:Unit)=>True) (s0:=()) (F:=λn _ i=>AX.DF _ c _ (rg x) n i) (by have:=(GR x).2;omega) trivial λm j _ R _ T=> ?_);unfold AX.DF AX.L2 AX.J5;refine tD (λ_=>bR ah ?_) λ_=>k () ah trivial;have E:(rg x)[j]∈rg x:=AAS ah;have O:0<=(rg x)[j]:=by
    rcases l i x q with⟨h,B⟩|⟨_,rfl⟩
    . exact((I.i i x ah h B).g _ E).1
    . have:=List.length_pos_of_mem E;rw[rg0 (.inr (.inr rfl))]at this;cases this
   exact tE (Ih ⟨O,Q x u _ E⟩) (tI bk λ_=>T () ah trivial)
  rcases l i x q with⟨p,B⟩|⟨D,rfl⟩
  . have d:=I.i i x ah p B;have lo':=d.o;have G:x.Op≠28:=ah;refine tD ck λ_=>tD ck λ_=> ?_;rw[N,show(x.Op==28)=false from by simp_all,show((i:Int)==(out.length:Int))=false from by simp;omega];refine tI bk λ_=>tE d.ob (tI bk λ_=>tE M ?_);unfold AX.J2;obtain⟨y,y1,y2⟩:=U _ d.s.1 d.s.2;refine tI bk λ_=>tI (λh=>absurd (eq_of_beq h) G) λ_=>tI (λ_=> ?_) λh=>am;refine tE (Ih (aE y1)) (tI bk λ_=>tE y1 ?_);rw[y2,show(t != t)=false from by simp];unfold AX.J3;refine tI bk λ_=>tI (λP=> ?_) λ_=>tI (λe=> ?_) λ_=>z
    . have:=d.j (eq_of_beq P);refine tE (Ih ah) (tI bk λ_=>tI (λe=> ?_) λ_=>z);simp_all
    . have:=d.b (eq_of_beq e);exact tE (Ih ah) z
  . refine tD (λh=>by simp at h) λ_=>tD (λh=>by simp at h) λ_=> ?_;rw[N,D];simp only[AA4,Bool.not_true];refine tI bk λ_=>tE (objE rfl) (tI bk λ_=>tE (D▸M) ?_);rw[D]at z;unfold AX.J2 AX.J3;simp_all
 obtain⟨b,L,rfl⟩:=key;exact L
end
section
theorem bM(hi:i<nt):∀(S:gx)(m:Int)(R:gx),SN i m S->Gr nt i m (S++R)=Gr nt i (m+S.length) R:=by
 intro S;induction S with
 |nil=>simp_all
 |cons x r ih=>
  intro m R h;obtain⟨c,a⟩:=h 0 x rfl;have b:SN i (m+1) r:=λj y d=>by have:=h (j+1) y am;omega
  rw[AAx,Gr,AAK ah,AAK ah,ih _ _ b,a];grind
theorem qT(hi:i<nt)(h:t<i\/t=i/\a=0)(n:SN i 0 S):∃b c,(b<i+1\/b=i+1/\c=0)/\∀R,Gr nt t a (S++R)=Gr nt b c R:=by
 rcases h with h|⟨rfl,rfl⟩
 . cases S with
   |nil=>exact⟨t,a,.inl ah,λ_=>rfl⟩
   |cons x r=>obtain⟨d,e⟩:=n 0 x rfl;have f:SN i 1 r:=λj y g=>(by have:=n (j+1) y (by simp_all);omega);refine⟨i,1+r.length,.inl ah,λR=> ?_⟩;rw[AAx,Gr,AAK ah,AAL ah,d,bM hi _ _ _ f,e];simp
 . exact⟨t,0+S.length,.inl ah,λR=>bM hi _ _ _ n⟩
def S7(p:AR)(i:Nat):Nat:=((p.AA.take i).map λt=>Ow 4 t.Body).sum
def aZ(h:n<p.AA.length):S7 p (n+1)=S7 p n+Ow 4 p.AA[n].Body:=bQ h _
theorem dU(h:(p.AA.map λt=>Ow 4 t.Body).sum<=60)(i:Nat):S7 p i<=60:=by
 have:((p.AA.map λt=>Ow 4 t.Body)).sum=S7 p i+((p.AA.drop i).map λt=>Ow 4 t.Body).sum:=by
  conv=>lhs;rw[<- ABA i p.AA,AAp,List.sum_append]
  rfl
 omega
theorem yB(h:n<=nt):S7 p n<=S7 p nt:=by
 have:S7 p nt=S7 p n+(((p.AA.take nt).drop n).map λt=>Ow 4 t.Body).sum:=by
  unfold S7
  conv=>lhs;rw[<- ABA n (p.AA.take nt),List.take_take,Nat.min_eq_left h,AAp,List.sum_append]
 omega
structure WV (p:AR) (N:Nat) (w:AD):Prop where
 c:w.Cells=K7
 l:w.AF=Xo
 d:w.Ai=[⟨cN,0⟩]
 f:w.AK=[⟨#[102]⟩]
 t:w.AA=(p.AA.take N).map (·.Name)
 n:w.BU.length=S7 p N
 o:∀j k,j<N->S7 p j<=k->k<S7 p (j+1)->∃y,w.BU[k]? =some y/\y.Thread=(j:Int)
 s:∃t n:Int,(t<N\/t=N/\n=0)/\∀R,Gr p.AA.length 0 0 (w.BU++R)=Gr p.AA.length t n R
theorem World_ok(h:MP p)(u:∃l,A5 p=some (0,l))(C:(p.AA.map λt=>Ow 4 t.Body).sum<=60):CD (Bt p) (WV p p.AA.length):=by
 obtain⟨l,u⟩:=u;have N:=h.t;unfold Bt;refine tE u (tI bk λ_=> ?_);have key:∀D T,Ei=some D->Bt.Aa ⟨D,T⟩ BW (AD.mk [] [] [] [] [] []) 0=Bt.J4 ⟨D,T⟩ ⟨K7,Xo,[⟨cN,0⟩],[⟨#[102]⟩],[],[]⟩:=by
  intro D T x;unfold Ei at x;obtain rfl:=AAG x
  kernel_rfl
 rw[show Bt.Aa p BW (AD.mk [] [] [] [] [] []) 0=_ from key p.Decls p.AA h.d];unfold Bt.J4;show CD (Bt.Gg p BW ⟨K7,Xo,[⟨cN,0⟩],[⟨#[102]⟩],[],[]⟩ 0) _;refine Pw p.AA.length (λi w=>WV p i w) (F:=λn s i=>Bt.Gg _ n s i) ah ⟨rfl,rfl,rfl,rfl,rfl,rfl,λj k h=>ah,0,0,.inr ⟨rfl,rfl⟩,λ_=>rfl⟩ λn i w hi a k=> ?_;unfold Bt.Gg Bt.L3 Bt.J5;refine tD (λg=>bR ah ?_) λO=>tR ?_
 . have g:i<p.AA.length:=ah;have E:=aZ g;have G:=dU C (i+1);have hn:=a.n;refine tC (Bm (by rw[a.t];simp;omega)) (tB (sites_ok 4 _ _ _ _ _ (MC ah) ah ah (h.b _ (AAS g))) λv H=>k _ ah ?_);obtain⟨S,L,V,z,W⟩:=H;obtain⟨t,m,K,P⟩:=a.s;obtain⟨J,I,Q,U⟩:=qT (nt:=p.AA.length) (i:=i) ah K z;refine⟨a.c,a.l,a.d,a.f,?_,?_,?_,J,I,ah,λR=> ?_⟩
   . simp only;rw[a.t,<- AAX g,AAp];rfl
   . simp_all
   . intro j q M r B;simp only;rw[L];by_cases e:j<i
     . have:=yB (p:=p) (show j+1<=i by omega);rw[AAg ah];exact a.o j q e r B
     . obtain rfl:j=i:=ah;rw[AAa ah];have y:q-w.BU.length<S.length:=ah;exact⟨S[q-w.BU.length],AAJ y,(z _ _ (AAJ y)).1⟩
   simp_all
 grind
theorem WV.names(a:WV p p.AA.length wv):wv.AA=p.AA.map (·.Name):=by rw[a.t,List.take_length]
theorem zO(h:MP p)(o:(p.AA.map λt=>Ow 4 t.Body).sum<=60)(a:WV p p.AA.length wv):Ce wv=true:=by
 obtain⟨n,z,B,nm⟩:=h.nm;have e:=a.names;rw[nm]at e;obtain⟨t,m,C,y⟩:=a.s;have b:=y [];rw[ABc]at b;have x:p.AA.length=wv.AA.length:=by rw[a.names,AAo]
 rw[x]at b;have hn:=a.n;have q:=dU o p.AA.length;have g:=a.c;have i:=a.l;have j:=a.d;have k:=a.f;obtain⟨c,l,d,f,T,S⟩:=wv;simp only at g i j k e hn b;subst g i j k;have v:AY K7=some ([⟨#[120]⟩,⟨#[121]⟩,⟨#[118]⟩,qS],true):=by decide +kernel
 have r:Gr T.length 0 0 S=true:=b;have u:T=Ox.take 1\/T=Ox.take 2\/T=Ox.take 3\/T=Ox.take 4:=by
  have:n=1\/n=2\/n=3\/n=4:=ah
  rcases this with rfl|rfl|rfl|rfl<;>simp[e]
 unfold Ce;simp only[v,r];have hd:decide (S.length<=60)=true:=decide_eq_true ah;rw[hd];rcases u with rfl|rfl|rfl|rfl<;>(show @Eq Bool _ true;kernel_rfl)
theorem oN(h:MP p)(O:∃l,A5 p=some (0,l)):CD (Ax p) λr=>CK r.1/\Bz r.1=some true:=by
 obtain⟨q,hq,T⟩:=check60 h;have S:(p.AA.map λt=>Ow 4 t.Body).sum<=60:=by obtain⟨l,O⟩:=O;rw[O]at hq;cases hq;exact T rfl
 have ht:=h.t
 let Q:BT->Prop:=λc=>WV p p.AA.length c.World/\c.AA.length=p.AA.length/\∀(j:Nat) t,c.AA[j]? =some t->VO c.World j t
 have par:Lt (Ax p) λr=>Q r.1:=by
  obtain⟨l,pK⟩:=O;unfold Ax;refine pE pK (pI bk λ_=>pB (pA (pT (Zq h ⟨l,pK⟩)) (pT (World_ok h ⟨l,pK⟩ S))) λw B=> ?_);obtain⟨mw,B⟩:=B;have wf:WF (λs=>s∈p.AA.map (·.Name)) w:=⟨B.c,B.l,B.d,B.f,λs W=>by rw[B.names];exact W,by rw[B.names,AAo];exact ht⟩;refine pLs p.AA.length (λi (s:BT×Int)=>s.1.World=w/\s.1.AA.length=i/\s.2=S7 p i/\∀(j:Nat) t,s.1.AA[j]? =some t->VO w j t) (F:=λn s i=>Ax.Aa p n s.1 s.2 i) (s0:=(_,_)) (λ_ _=>rfl) ah ⟨rfl,rfl,rfl,ak⟩ λn i s hi W k=> ?_;obtain⟨G,s2,s3,s4⟩:=W;unfold Ax.Aa Ax.L1 Ax.J4;refine pD (λH=>pE (CF ah) ?_) λmF=>pR ⟨by simp only;rw[G];exact B,aA,by simp only;rw[G];exact s4⟩;have H:i<p.AA.length:=ah
  have L:p.AA[i]∈p.AA:=AAS H;have ho1:=aZ H;have ho2:=dU S (i+1);have hc:cg 4=336840:=rfl;have g0:GB (BB.mk s.1.World p.AA[i].GA [] 0 s.2) 4000000:=⟨by rw[G];exact mw,h.l _ L,ak⟩;refine pB (pA (pT (XL 4 _ _ _ (MC ah) (g0.less ah) (h.b _ L))) (zD 4 _ _ (MC ah) (h.b _ L) ⟨s.1.World,p.AA[i].GA,[],0,s.2⟩ ⟨by rw[G];exact wf,h.lo _ L⟩ aA)) λv hv=>pB (put_eq _) λu hu=> ?_;obtain⟨v0,v1,v2⟩:=hv;have v0:=v0.b;simp only[ABK]at v0;have V:(u.locals.length:Int)=2:=by rw[hu];simp only;rw[v1.l];simp only;rw[h.lo _ L];rfl
  have R:u.out=v.out++[⟨28,0,0,0,0, -1⟩]:=by rw[hu]
  have sg:=v1.s;simp only[ABK,G,s3]at sg;have v2':v.next=S7 p (i+1):=by rw[v2];simp only;omega
  have rb:∀y∈u.out,∀r∈rg y,0<=r/\r<32:=by
   intro y x r e;rw[R]at x;rcases AAW.1 x with x|x
   . obtain⟨m,m1,m2⟩:=ABR x;exact(sg.i m y ah m1 (by rw[AAJ m1,m2])).g r e
   . rw[AAl.1 x,rg0 (.inr (.inr rfl))]at e;cases e
  rw[V];have ZD:u.out.length<1000000000000:=by rw[R];simp;omega
  refine pLs u.out.length (λk (t:Az)=>t.Br=u.out/\(2<=t.Ck/\t.Ck<=32)/\∀y∈u.out.take k,∀r∈rg y,r<t.Ck) (F:=λn t k=>Ax.DF _ _ _ _ _ n t k) (λ_ _=>rfl) ZD ⟨rfl,ak,ak⟩ λm q t hq2 X k2=> ?_;obtain⟨t1,t2,t3⟩:=X;unfold Ax.DF Ax.L2 Ax.J2 Ax.J3;refine pD (λhlt2=>pE (CF ah) ?_) λhge2=>pC λ_=>k (_,_) ah ⟨G,an,v2',?_⟩
  . have x:u.out[q]∈u.out:=AAS ah;have ry:=rb _ x;have K:q<u.out.length:=ah;have tk:=AAX K;generalize u.out[q]=y at x ry tk;refine pE (GR y).1 (pLs (rg y).length (λl (t:Az)=>t.Br=u.out/\(2<=t.Ck/\t.Ck<=32)/\(∀y∈u.out.take q,∀r∈rg y,r<t.Ck)/\∀r∈(rg y).take l,r<t.Ck) (F:=λn t k=>Ax.Gg _ _ _ n t k) (λ_ _=>rfl) (by have:=(GR y).2;omega) ⟨t1,t2,t3,ak⟩ λm3 M D hq3 Z k3=> ?_);obtain⟨x1,x2,x3,x4⟩:=Z;unfold Ax.Gg Ax.L3 Ax.J1;refine pD (λhlt3=>pE (CF ah) ?_) λhge3=>k2 _ K ⟨x1,x2,λz C r e=> ?_⟩
    . have e:(rg y)[M]' ah∈rg y:=AAS ah;have U:=ry _ e;have N:=AAX (show M<(rg y).length by omega);generalize (rg y)[M]' ah=r at e U N;rw[B9 ah ah];have J:∀z,(if r+1>D.Ck then r+1 else D.Ck)=z->D.Ck<=z/\r<z/\z<=32:=by intro z C;split at C<;>omega
      generalize C:(if r+1>D.Ck then r+1 else D.Ck)=z
      obtain⟨z1,z2,z3⟩:=J z C;refine k3 _ ah ⟨x1,aA,λy x r e=>by have:=x3 y x r e;simp only;omega,?_⟩;rw[<- N];intro a I;rcases AAW.1 I with I|I
      . have:=x4 a I;simp only;omega
      . rw[AAl.1 I];exact z2
    . rw[<- tk]at C;rcases AAW.1 C with C|C
      . exact x3 z C r e
      . rw[AAl.1 C]at e;rw[AAq ah]at x4;exact x4 r e
  . intro j D E;simp only at E;by_cases hj:j<s.1.AA.length
    . rw[AAg hj]at E;exact s4 j D E
    . have:=(AAE.1 E).1;simp at this;obtain rfl:j=s.1.AA.length:=ah;rw[show(s.1.AA++[t])[s.1.AA.length]? =some t from by simp]at E;obtain rfl:=AAG E;rw[s2];rw[AAq ah]at t3;refine⟨t2,⟨v.out,_,_,by rw[t1,R],sg,λk k1 k2=> ?_⟩,by rw[t1];exact t3⟩;obtain⟨k,rfl⟩:∃m:Nat,k=m:=⟨k.toNat,ah⟩;rw[JI];exact B.o i k H ah ah
 obtain⟨r,e,P⟩:=iJ h;refine⟨r,e,P,?_⟩;obtain⟨q1,q2,M⟩:=par r e;have hl:r.1.AA.length=r.1.World.AA.length:=by rw[q2,q1.names,AAo]
 have hn:=P.n;have key:CD (Bz r.1) λb=>b=true:=by unfold Bz;refine tE (Js _) ?_;rw[zO h S q1];refine tI bk λ_=> ?_;rw[hl,show((r.1.World.AA.length:Int) != r.1.World.AA.length)=false from by simp];unfold Bz.J1;refine tI bk λ_=>Pw r.1.AA.length (λ_ (_:Unit)=>True) (s0:=()) (F:=λn _ i=>Bz.Aa r.1 n i) ah trivial λn i _ hi _ k=> ?_;unfold Bz.Aa Bz.L1 Bz.J2;refine tD (λH=>bR ah ?_) λ_=>tR rfl;refine tE (Uc (P.i _ (AAS ah)) (M i _ (AAJ ah))) (tI bk λ_=>k () ah trivial)
 obtain⟨b,U,rfl⟩:=key;exact U
end
theorem Code_ok(d:l.length<=4000000000000000000)(e:∀x∈l,0<=x/\x<256):CD (NM l) λc=>CK c/\Bz c=some true:=by unfold NM;exact tB (fW d e) λp a=>tB (oN a.1 a.2) λc b=>tR b
theorem Trace_wf(g:l.length<=4000000000000000000)(j:∀x∈l,0<=x/\x<256)(i:f.length<=1000):CD (LA l f) λt=>TA f.length t/\Ce t.World=true:=by unfold LA;refine tB (Code_ok g j) λc b=>tB (fP i) λp o=>tB (tP (Run_ok b.1 ah) (Q:=λr=>Ce r.1.World=true) ?_) λr a=>tR ⟨⟨⟨by have:=a.1.m.n;omega,a.1.m.e,a.1.m.w⟩,a.1.c⟩,a.2⟩;obtain⟨v,d,s⟩:=P7 b.1;rw[b.2]at d;have k:=s (AAG d).symm;unfold LS;exact pE b.2 (pI bk λ_=>pB' λ_=>pB' λ_=>pR k.w)
theorem Check_ok{t:CC}(a:TA n t)(hn:n<=400)(b:Ce t.World=true):Ix t=(0,0):=by have:=a.m.n;unfold Ix;rw[AAK ah,AAL b,a.c]
theorem sceneW_m:FA.Ai.all (λc=>Cu c.Mutex FA.AF.length)=true:=by decide +kernel
structure SL (s:AB):Prop where
 l:s.Sync.AF.length=3
 d:s.Sync.Bn.length=1
 t:s.Sync.AA.length=4
 c:s.Cells.length=5
 u:s.AK.length=1
 n:s.Count.length=4
 r:RB 1 s.Sync
theorem SL.sc(h:SL s):SC 1 s:=by refine⟨?_,h.r⟩;simp only[IG,GQ,AAD,AAR,YX,Tm,Tl,h.d,h.t,h.c,h.u,h.n,and_self,and_true];exact⟨sceneW_m,by rw[h.l,YY]⟩
theorem Zy(b:DG z)(x:Int)(d:l.length<=900):CD (Ge z x l) λr=>(-1<=r.1/\r.1<l.length)/\DG r.2:=by unfold Ge Ge.J1;rw[B9 (n:=(l.length:Int)+2) ah ah];refine tB (El b ah) ?_;rintro v ⟨e,a,_⟩;rw[B9 (n:=v.1-2) ah ah];refine tI (λh=> ?_) λh=>tG bg λy _=>tI (λ_=>tR ⟨ah,a.1⟩) λ_=>tR ⟨bg,a.1⟩;exact tI (λ_=>tR ⟨ah,a.1⟩) λh=>by cases h
abbrev BG(o:ABd (AB×AU)):Prop:=CD o λr=>SL r.1/\DG r.2
theorem Wx(e:DG z)(g:SL s):BG (Af.Y4 z s):=by
 have o:=BO;have key:∀(n i:Nat)(z:AU)(f:AB),5<n+i->i<=5->DG z->SL f->BG (Af.Gg s n z f i):=by
  intro n;induction n with
  |zero=>omega
  |succ n ih=>
   intro i z f k m e b;unfold Af.Gg Af.L3 Af.rK;refine tI (λh=> ?_) λ_=>tR ⟨b,e⟩;have h:=AAO h
   have:=g.c;have:=b.c;refine tB (El e ah) ?_;rintro a ⟨_,j,_⟩;rw[Aj ah];exact tG ah λx _=>ih (i+1) _ _ ah ah j.1 ⟨b.l,b.d,b.t,am,b.u,b.n,b.r⟩
 exact key BW 0 z s ah ah e g
theorem Ug(g:DG z)(e:SL s):BG (Af.Oz z s):=by
 unfold Af.Oz;refine tB (El g ah) ?_;rintro a ⟨_,f,_⟩
 have:=e.d;have:=e.u;refine tI (λ_=>tG ah λx _=>tB (El f.1 ah) ?_) λ_=>Wx f.1 e;rintro b ⟨_,bA,_⟩;exact tG ah λx _=>Wx bA.1 ⟨e.l,am,e.t,e.c,am,e.n,e.r⟩
theorem nR(g:DG z)(e:SL s):BG (Af.J9 z s):=by unfold Af.J9;refine tB (El g ah) ?_;rintro a ⟨_,f,_⟩;refine tI (λ_=>tB (Zy f.1 _ (by have:=e.n;omega)) ?_) λ_=>Ug f.1 e;rintro b ⟨_,bA⟩;exact Ug bA ⟨e.l,e.d,e.t,e.c,e.u,e.n,e.r⟩
theorem SL.lock(h:SL s)(i:Nat)(x:AW)(b:x.Ak.length<=1):SL (AB.mk (AP.mk (s.Sync.AF.set i x) s.Sync.Tx s.Sync.Bn s.Sync.AA) s.Cells s.AK s.Count):=by
 refine⟨by simpa using h.l,h.d,h.t,h.c,h.u,h.n,?_⟩;intro y a;rcases mem_set a with a|rfl
 . exact h.r y a
 . exact b
theorem nQ(g:DG z)(q:SL s):BG (Af.J5 z s):=by
 have D:=BO;have key:∀(n i:Nat)(z:AU)(f:AB),3<n+i->i<=3->DG z->SL f->BG (Af.DF s n z f i):=by
  intro n;induction n with
  |zero=>omega
  |succ n ih=>
   intro i z f B C g e;unfold Af.DF Af.L2;refine tI (λh=> ?_) λ_=>nR g e;have h:=AAO h
   have:=q.l;have:=e.l;have:=e.t;have:=e.n;have j:∀c m,DG c->SL m->BG (Af.J8 (Af.DF s n) i c m):=(by intro c m d y;unfold Af.J8;rw[Aj (by omega)];exact ih (i+1) _ _ (by omega) (by omega) d y);refine tB (Zy g _ ah) ?_;rintro a ⟨a0,k⟩;refine tI (λ_=>j _ _ k e) λp=> ?_;have p:=of_decide_eq_false p;have o:∀c v,DG c->BG (Af.J7 (Af.DF s n) f i c a v):=(by intro c v d;unfold Af.J7;exact tI (λ_=>j _ _ d e) λ_=>tG ah λx u=>j _ _ d (e.lock _ _ (e.r x u)));have w:∀c v,DG c->BG (Af.J6 (Af.DF s n) f i a c v):=(by intro c v d;unfold Af.J6;exact tI (λ_=>tG ah λx u=>j _ _ d (e.lock _ _ ak)) λ_=>tI (λ_=>tG ah λx _=>tI (λ_=>o _ _ d) λ_=>o _ _ d) λ_=>o _ _ d);refine tI (λ_=>tB (El k ah) ?_) λ_=>w _ _ k;rintro b ⟨_,bA,_⟩;exact w _ _ bA.1
 exact key BW 0 z s ah ah g q
def SL.thr(h:SL s)(b:C.length=4)(a:l.length=4):SL (AB.mk (AP.mk s.Sync.AF s.Sync.Tx s.Sync.Bn C) s.Cells s.AK l):=⟨h.l,h.d,b,h.c,h.u,a,h.r⟩
theorem Y5(s:DG z):BG (Af z FA):=by
 have a:=BO;unfold Af;rw[Jy FA YZ,AAB];have f:SL (Gx FA):=by refine⟨?_,?_,?_,?_,?_,?_,RB.mono (RB.start FA) ah⟩<;>simp[Gx,JP,YY,YX,Tm,Tl]
 generalize Gx FA=p at f;have key:∀(n i:Nat)(u:AU)(b:AB),4<n+i->i<=4->DG u->SL b->BG (Af.Aa p n u b i):=by
  intro n;induction n with
  |zero=>omega
  |succ n ih=>
   intro i u b B C k a;unfold Af.Aa Af.L1;refine tI (λh=> ?_) λ_=>nQ k a;have h:=AAO h
   have:=f.n;have:=a.n;have:=a.t;have m:∀g e,DG g->SL e->BG (Af.J4 (Af.Aa p n) i g e):=(by intro g e q r;unfold Af.J4;rw[Aj (by omega)];exact ih (i+1) _ _ (by omega) (by omega) q r);refine tB (El k ah) ?_;rintro j ⟨j0,o,_⟩;refine tG ah λy _=> ?_;have D:∀t,BG (Af.J2 (Af.Aa p n) b i j t):=(by intro t;have l:∀z,BG (Af.J3 (Af.Aa p n) b t i j z):=(by intro z;unfold Af.J3;refine tI (λ_=>tB (El o.1 ah) ?_) λ_=>m _ _ o.1 (a.thr am a.n);rintro v ⟨_,c,_⟩;refine tG ah λx _=>tB (El c.1 ah) ?_;rintro w ⟨_,d,_⟩;exact tG an λx _=>m _ _ d.1 (a.thr am am));unfold Af.J2;exact tG ah λx _=>tI (λ_=>l _) λ_=>l _);unfold Af.J1;grind
 exact key BW 0 z p ah ah s f
def RE(l:dc):Prop:=∀x∈l,0<=x/\x<256
theorem tape_of(a:l.length<=4000000000000000000)(h:RE l):DG ⟨l,0⟩:=⟨a,⟨Int.le_refl _,ak⟩,h⟩
structure WG (w:AL):Prop where
 v:Mx w=true
 e:∀e∈w.AE,I6 e
 r:RB 1000 w.Init.Sync
theorem NY(e:RE f)(s:t<=16)(o:0<=t):CD (De f t) WG:=by
 have m:=BO;have j1:∀i:List Int,i.length<=400->RE i->CD (De.J1 t i) WG:=by
  intro i hi hi';unfold De.J1;rw[bL,AAB];refine tB (Y5 (tape_of ah hi')) ?_;rintro c ⟨cS,j⟩;have key:∀(n d:Nat)(a:Int),4<n+d->d<=4->CD (De.Aa t c n ⟨FA,a,c.1,[]⟩ d) WG:=by
   intro n;induction n with
   |zero=>omega
   |succ n ih=>
    intro d a p q
    have:=cS.n;unfold De.Aa De.L1;refine tI (λh=> ?_) λ_=> ?_
    . have h:=AAO h;rw[Aj ah];exact tG ah λb _=>ih (d+1) _ ah ah
    . unfold De.J2;refine tB (play_tot j (cS.sc.mono ah) ah true) ?_;rintro l ⟨u,g⟩;rw[mC (w:=⟨FA,a,c.1,l.1⟩) g (RB.mono cS.r ah),AAB];refine tI (λ_=> ?_) λh=>tR ⟨bg,g,RB.mono cS.r ah⟩;rw[bL,AAB,AAB,Jy FA YZ,AAB];exact tR ⟨by decide +kernel,ak,RB.mono (RB.start FA) ah⟩
  exact key BW 0 0 ah ah
 unfold De;refine tI (λh=> ?_) λh=>j1 _ bg e;have h:=AAO h;exact tC ah (j1 _ an λx k=>e x (ABX k))
structure mX (v:M8):Prop where
 p:RE v.Program
 s:RE v.FM
 c:RE v.fY
 z:0<=v.Bq/\v.Bq<256
 w:0<=v.Zp/\v.Zp<256
theorem madeAT{t:CC}(h:TA n t)(hn:n<=400)(b:Ce t.World=true):AT t:=AT.of (λe a=>(h.m.e e a).ok) (by rw[Check_ok h hn b])
theorem VP(a:mX v)(r:0<t)(F:t<=16)(u:v.Program.length<=4000000000000000000):CD (G8 v t) WG:=by
 have C:((BA v.Bq).tmod t:Int)=v.Bq.tmod t:=by rw[B9 (by have:=a.z;omega) (by have:=a.z;omega)]
 have D:0<=v.Bq.tmod t:=Int.tmod_nonneg _ a.z.1;have E:v.Bq.tmod t<t:=Int.tmod_lt_of_pos _ r;unfold G8;rw[C,B9 (n:=1+v.Bq.tmod t) ah ah];refine tI (λ_=>tC ah (tB (NY a.c ah ah) λw b=>tR b)) λ_=> ?_;have o:0<=(if 80<(v.FM.length:Int)then 80 else(v.FM.length:Int))/\((if 80<(v.FM.length:Int)then 80 else(v.FM.length:Int)).toNat)<=v.FM.length/\((if 80<(v.FM.length:Int)then 80 else(v.FM.length:Int)).toNat)<=80:=by split<;>omega
 refine tC ⟨o.1,o.2.1⟩ (tB (Trace_wf u a.p (by rw[List.length_take];omega)) ?_);rintro m ⟨g,g2⟩;have f:AT m:=madeAT g (by rw[List.length_take];omega) g2;have s:=f.l;refine tC ah ?_;rw[yL m (λe i=>(g.m.e e i).ok),AAB];have y:eT m (1+v.Bq.tmod t)=(OJ m (1+v.Bq.tmod t).toNat m.AE.length,0):=by unfold eT;rw[AAK (by rw[f.check];simp),AAK ah]
 rw[y];have o:=winN_le (k:=(1+v.Bq.tmod t).toNat) ah m.AE.length;have q:=Zj m (1+v.Bq.tmod t).toNat m.AE.length;refine tI (λ_=>tB (NY (by intro x B;cases B) ah ah) λw b=>tR b) λh=> ?_;have h:¬((OJ m (1+v.Bq.tmod t).toNat m.AE.length).length:Int)=0:=by simpa using h
 refine tC h ?_;rw[B9 (n:=v.Zp) (by have:=a.w;omega) (by have:=a.w;omega)];refine tG ⟨Int.tmod_nonneg _ a.w.1,Int.tmod_lt_of_pos _ (by show(0:Int)<((OJ m (1+v.Bq.tmod t).toNat m.AE.length).length:Int);omega)⟩ λw b=>tR ?_;unfold OJ at b;obtain⟨j,d,rfl⟩:=ABO.1 b;have d:=List.mem_range.1 d;have hi:j*(1+v.Bq.tmod t).toNat<=m.AE.length:=by
  unfold fE at d
  have:=(Nat.le_div_iff_mul_le ah).1 (show j+1<=_ from d);rw[ABF]at this;omega
 exact⟨rA f.w s f.c ah hi,λe i=>(g.m.e e (List.mem_of_mem_drop (ABX i))).ok,RB.mono (AT.rb _ hi) ah⟩
def cE(wv:AD):AB->List AG->Prop
 |_,[]=>True
 |s,e::r=>HG wv s e=true/\cE wv (Ef wv s e) r
theorem cE.step{wv:AD}(d:Small wv){s:AB}{N:Nat}(c:RB N s.Sync)(a:N<=1000000){e:AG}(b:I6 e)(f:HG wv s e=true):Bc wv s e=some (Ef wv s e,true)/\Bj wv s e=some (Ef wv s e,true):=by rw[V8 wv d s (c.mono a) e b,Pg wv d s (c.mono a) e b];unfold Oe;rw[AAL f];exact⟨rfl,rfl⟩
theorem cE.of:∀{l:dx}{s:AB},(∀(i:Nat)(hi:i<l.length),HG wv ((l.take i).foldl (Ef wv) s) l[i]=true)->cE wv s l:=by
 intro l;induction l with
 |nil=>intro s _;trivial
 |cons e r ih=>intro s h;exact⟨h 0 ak,ih λi hi=>h (i+1) (by simpa using hi)⟩
theorem posW_poss:∀{c pre:dx}{s:AB},Vi wv l pre s c=true->cE wv s c:=by
 intro c;induction c with
 |nil=>intro pre s _;trivial
 |cons e r ih=>intro pre s h;unfold Vi at h;simp only[AAD]at h;exact⟨h.1,ih h.2.2⟩
structure WV2 (w:AL):Prop where
 s:Small w.World
 n:w.AE.length<=16
 p:cE w.World w.Init w.AE
theorem zT(h:Mx w=true):WV2 w:=by unfold Mx at h;simp only[AAD,AAV]at h;exact⟨DX h.1,h.2.2.1,posW_poss h.2.2.2.2⟩
def Uw(wv:AD)(t kk o k:Int)(x:AW):AW:=
 if(kk=6\/kk=10)/\k=o\/kk=17/\k=(ix wv.Ai o).Mutex then⟨t,x.Ak⟩
 else if(kk=7\/kk=11)/\k=o\/kk=16/\k=(ix wv.Ai o).Mutex then⟨-1,x.Ak⟩
 else if kk=8/\k=o then⟨x.CG,Od (x.Ak++[t])⟩
 else if kk=9/\k=o then⟨x.CG,x.Ak.filter λy=> !(y==t)⟩
 else x
theorem setT_L(s:AP)(t:Int)(g:AH->AH):(KH s t g).AF=s.AF:=rfl
def eM{s:AP}(hi:Cu i s.AF.length=true)(a:Cu k s.AF.length=true)(f:AW->AW):ix (KG s i f).AF k=if k=i then f (ix s.AF i)else ix s.AF k:=Lg hi a
theorem gL{s:AP}(n:Cu k s.AF.length=true):∀wake,(wake=6\/wake=7\/wake=8\/wake=9\/wake=10\/wake=11->Cu o s.AF.length=true)->(wake=16\/wake=17->Cu (ix wv.Ai o).Mutex s.AF.length=true)->
 ix (DH wv s t wake o a).1.AF k=Uw wv t wake o k (ix s.AF k):=by
 refine kinds ?_ ?_ ?_ ?_ ?_ ?_ ?_ ?_ ?_ ?_ ?_ ?_ ?_ ?_ ?_ ?_ ?_ ?_ ?_ ?_ ?_ ?_ ?_ (λwake q r u v w x y z B b c F d e f E g i j D l G m=> ?_)
 all_goals
  intro C p;unfold DH Uw
 all_goals first
  | (simp(decide:=true)only[AAi,AAT,or_true,true_or,AA2,false_or,true_and,false_and,KH];done)
  | (simp(decide:=true)only[AAi,AAT,or_true,true_or,AA2,false_or,true_and,false_and];rw[eM (C ah) n];simp_all)
  | (simp(decide:=true)only[AAi,AAT,or_true,true_or,AA2,false_or,true_and,false_and];refine(eM (p ah) n _).trans ?_;split<;>rename_i h<;>simp only[h,AAi,AAT];done)
  | (simp(decide:=true)only[AAi,AAT,or_true,true_or,AA2,false_or,true_and,false_and];split<;>rfl)
  | (simp only[q,r,u,v,w,x,y,z,B,b,c,F,d,e,f,E,g,i,j,D,l,G,m,AAT,or_self,false_and];done)
  |skip
 all_goals
  simp(decide:=true)only[AAi,AAT,or_true,true_or,AA2,false_or,true_and,false_and];rw[setT_L,eM (p ah) n];simp_all
theorem Wr{s:AP}(c:Bx wv s t a o=true)(e:Cu k wv.AF.length=true):ix (DH wv s t a o i).1.AF k=Uw wv t a o k (ix s.AF k):=by
 unfold Bx at c;simp only[AAD]at c;obtain⟨d,_,b,_⟩:=c;have f:=(D9 d).1;have g:=λh=>G1 d (o:=o) h;rw[<- f]at e g;refine gL e a (λh=> ?_) λh=>g ?_
 . rw[f];unfold Bi at b;rcases h with h|h|h|h|h|h<;>subst h<;>simp(decide:=true)only[AAi,AAT,or_true,true_or,AA2,AAD]at b<;>exact b.1
 . unfold Bi at b;grind
def hpL(t:Int)(x:AW):Bool×Bool:=(x.CG==t,x.Ak.contains t)
def ownF(wv:AD)(kk o k:Int)(p:Bool×Bool):Bool×Bool:=
 if(kk=6\/kk=10)/\k=o\/kk=17/\k=(ix wv.Ai o).Mutex then(true,p.2)
 else if(kk=7\/kk=11)/\k=o\/kk=16/\k=(ix wv.Ai o).Mutex then(false,p.2)
 else if kk=8/\k=o then(p.1,true)
 else if kk=9/\k=o then(p.1,false)
 else p
def XI(wv:AD)(s:AP):Prop:=∀k,Cu k wv.AF.length=true->(ix s.AF k).Ak≠[]->(ix wv.AF k).RW=true/\(ix s.AF k).CG= -1
def MQ(wv:AD):Prop:=∀o,Cu o wv.Ai.length=true->(ix wv.AF (ix wv.Ai o).Mutex).RW=false
theorem own_eq(c:0<=t)(x:AW):hpL t (Uw wv t a o k x)=ownF wv a o k (hpL t x):=by
 have b:((-1:Int)==t)=false:=an
 unfold Uw ownF hpL;split
 . simp
 . split
   . simp[b]
   . split
     . have:(Od (x.Ak++[t])).contains t=true:=(by rw[AAb,Kb];simp);simp_all
     grind
theorem X1{s:AP}(b:Bx wv s t a o=true):
 (a=6->(ix s.AF o).CG= -1/\(ix wv.AF o).RW=false)/\(a=10->(ix s.AF o).CG= -1/\(ix s.AF o).Ak=[])/\(a=8->(ix s.AF o).CG= -1/\(ix wv.AF o).RW=true)/\(a=7\/a=11->(ix s.AF o).CG=t)/\
 (a=16->(ix s.AF (ix wv.Ai o).Mutex).CG=t/\Cu o wv.Ai.length=true)/\(a=17->(ix s.AF (ix wv.Ai o).Mutex).CG= -1/\Cu o wv.Ai.length=true):=by
 unfold Bx at b;simp only[AAD]at b;obtain⟨_,_,c,d⟩:=b;unfold Bi at c;unfold I0 at d;refine⟨λh=> ?_,λh=> ?_,λh=> ?_,λh=> ?_,λh=> ?_,λh=> ?_⟩
 . simp_all
 . simp_all
 . simp_all
 . grind
 all_goals simp_all
theorem other_eq{s:AP}(d:Bx wv s i a o=true)(j:0<=t)(hn:i≠t):hpL t (Uw wv i a o k (ix s.AF k))=hpL t (ix s.AF k):=by
 obtain⟨l,f,n,m,g,u⟩:=X1 d;have b:((-1:Int)==t)=false:=an
 have c:(i==t)=false:=by simpa using hn
 unfold Uw hpL;split
 . rename_i h;have:(ix s.AF k).CG= -1:=by
    rcases h with⟨h|h,rfl⟩|⟨h,rfl⟩
    . omega
    . omega
    . omega
   simp only[this,b,c]
 . split
   . grind
   . split
     . have:(Od ((ix s.AF k).Ak++[i])).contains t=(ix s.AF k).Ak.contains t:=(by rw[ABa,AAb,AAb,Kb];simp only[AAW,AAl];exact⟨λh=>h.resolve_right λe=>hn e.symm,.inl⟩);simp_all
     grind
theorem XI.apply{s:AP}(g:MQ wv)(h:XI wv s){wake:Int}(d:Bx wv s t i o=true):XI wv (DH wv s t i o wake).1:=by
 intro k e;obtain⟨m,j,p,n,l,c⟩:=X1 d;rw[Wr d e];have b:=h k e;unfold Uw;split
 . rename_i a;intro f;have b:=b f;rcases a with⟨a|a,rfl⟩|⟨a,rfl⟩
   . simp_all
   . simp_all
   . rw[g _ (c a).2]at b;cases b.1
 grind
def HF(wv:AD)(t k:Int)(l:dx)(p:Bool×Bool):Bool×Bool:=l.foldl (λp e=>if e.Thread=t then ownF wv e.Kind e.Obj k p else p) p
theorem HF_snoc(wv:AD)(t k:Int)(l:dx)(e:AG)(p:Bool×Bool):HF wv t k (l++[e]) p=if e.Thread=t then ownF wv e.Kind e.Obj k (HF wv t k l p)else HF wv t k l p:=by unfold HF;simp_all
theorem HF_skip(wv:AD)(t k:Int){l r:dx}(h:∀e∈r,e.Thread≠t)(p:Bool×Bool):HF wv t k (l++r) p=HF wv t k l p:=by
 unfold HF;rw[List.foldl_append];generalize l.foldl _ p=q;revert q;induction r with
 |nil=>grind
 |cons e r ih=>simp_all
instance:Inhabited Kj:=⟨⟨0,false⟩⟩
structure WQ (w:AL):Prop where
 g:WG w
 f:WinF w
theorem WG.q(h:WG w):WQ w:=by refine⟨h,?_⟩;have a:=h.v;unfold Mx at a;simp only[AAD,AAV]at a;exact⟨a.1,a.2.1,a.2.2.1⟩
structure GIw (w:AL) (K:Nat) (c:JB):Prop where
 f:GQ w.World c.Sync=true
 r:RB (1000+K) c.Sync
 l:c.Cells.length=w.World.Cells.length
 u:c.AK.length=w.World.AK.length
 x:c.Iq.length=w.AE.length
 k:c.Woke.length=w.AE.length
 o:c.Order.length<=K
 p:∀(i j:Nat)(hi:i<j)(hj:j<w.AE.length),w.AE[i].Thread=w.AE[j].Thread->(j:Int)∈c.Order->(i:Int)∈c.Order
 h:∀t k,0<=t->Cu k w.World.AF.length=true->∀m,m<=w.AE.length->(∀(i:Nat)(hi:i<w.AE.length),w.AE[i].Thread=t->((i:Int)∈c.Order↔i<m))->hpL t (ix c.Sync.AF k)=HF w.World t k (w.AE.take m) (hpL t (ix w.Init.Sync.AF k))
 X:XI w.World c.Sync
theorem GIw.step{w:AL}(hw:WQ w){K:Nat}{c:JB}(d:GIw w K c){i:Nat}(hi:i<w.AE.length)(J:(i:Int)∉c.Order)(Q:∀(j:Nat)(z:j<i),w.AE[j].Thread=w.AE[i].Thread->(j:Int)∈c.Order)(G:Bx w.World c.Sync w.AE[i].Thread w.AE[i].Kind w.AE[i].Obj=true)(wake:Int){C F:List Kj}{X:eb}{W:dc}(R:C.length=c.Cells.length)(S:F.length=c.AK.length)(U:X.length=c.Iq.length)(T:W.length=c.Woke.length):
 GIw w (K+1) ⟨(DH w.World c.Sync w.AE[i].Thread w.AE[i].Kind w.AE[i].Obj wake).1,C,F,c.Order++[(i:Int)],X,W⟩:=by
 have hq:=RJ hw.f.v;refine⟨XE d.f _ _ _ _,d.r.apply _ _ _ _ _,R.trans d.l,S.trans d.u,U.trans d.x,T.trans d.k,by have:=d.o;simp;omega,?_,?_,d.X.apply hq G⟩
 . intro a b E V y s;rcases AAW.1 s with s|s
   . exact List.mem_append_left _ (d.p a b E V y s)
   grind
 . intro t k y I m s D;dsimp only at D |-;rw[Wr G I];by_cases q:w.AE[i].Thread=t
   . have Z:i<m:=(D i hi q).1 ak;have O:w.AE.take m=w.AE.take (i+1)++(w.AE.take m).drop (i+1):=(by have:=ABA (i+1) (w.AE.take m);rw[List.take_take,Nat.min_eq_left (by omega)]at this;exact this.symm);have P:∀e∈(w.AE.take m).drop (i+1),e.Thread≠t:=by
      intro e H g;obtain⟨j,z,rfl⟩:=ABR H;simp only[List.length_drop,List.length_take]at z;rw[List.getElem_drop,List.getElem_take]at g;have B:i+1+j<w.AE.length:=ah
      have:=(D (i+1+j) B g).2 ah;rcases AAW.1 this with L|L
      . exact J (d.p i (i+1+j) ah B (q.trans g.symm) L)
      . grind
     rw[O,HF_skip _ _ _ P,<- AAX hi,HF_snoc,AAL q,q,own_eq y];congr 1;refine d.h t k y I i ah λj z n=>⟨λN=> ?_,λM=>Q j M (n.trans q.symm)⟩;refine Decidable.byContradiction λhn=> ?_;by_cases e:j=i
     . grind
     . exact J (d.p i j ah z (q.trans n.symm) N)
   . rw[other_eq G y q];refine d.h t k y I m s λj z n=> ?_;grind
instance:Inhabited AG:=⟨⟨0,0,0,0,0,[],[]⟩⟩
def Mk(s r:AG):Bool:=s.Obj==r.Obj&&(s.Kind==4&&r.Kind==3||s.Kind==22&&r.Kind==23)
def candB(w:AL)(n:Int)(r:AG)(i:Nat)(s:AG):Bool:=Mk s r&&(s.Value==r.Value&& !(s.Thread==r.Thread&&decide ((i:Int)>n)))
def gX(w:AL)(n:Int)(r:AG):Nat->List AG->List Int
 |_,[]=>[]
 |i,s::l=>if candB w n r i s=true then(i:Int)::gX w n r (i+1) l else gX w n r (i+1) l
def sT(w:AL)(r:AG):Bool:=if r.Kind=23 then ix w.Init.Sync.Bn r.Obj&&ix w.Init.AK r.Obj==r.Value else ix w.Init.Cells r.Obj==r.Value
def rR(w:AL)(n:Int):List Int:=
 if Cu n w.AE.length=true/\((ix w.AE n).Kind=3\/(ix w.AE n).Kind=23)then(if sT w (ix w.AE n)=true then[-1]else[])++gX w n (ix w.AE n) 0 w.AE else[]
def ZJ(t:Int):Nat->List AG->List Int
 |_,[]=>[]
 |i,e::l=>if e.Thread=t then(i:Int)::ZJ t (i+1) l else ZJ t (i+1) l
def linesS(w:AL):List (List Int):=(List.range w.World.AA.length).map λ(t:Nat)=>ZJ (t:Int) 0 w.AE
def relB(r:KM)(i j:Nat):Bool:=((((r.ahead)[i]?).getD [])[j]?).getD false
structure RW (w:AL) (r:KM) (A:Nat->Nat->Prop):Prop where
 s:r.w=w
 l:r.lines=linesS w
 n:r.ahead.length=w.AE.length
 m:∀x∈r.ahead,x.length=w.AE.length
 a:∀i j,i<w.AE.length->j<w.AE.length->(relB r i j=true↔A i j)
def RW.congr{A:dh}(h:RW w r A)(c:∀i j,i<w.AE.length->j<w.AE.length->(A i j↔B i j)):RW w r B:=
 ⟨h.s,h.l,h.n,h.m,λi j hi b=>(h.a i j hi b).trans (c i j hi b)⟩
theorem RW.row{A:dh}(h:RW w r A)(b:n<w.AE.length):∃row,gt r.ahead (n:Int)=some row/\r.ahead[n]? =some row/\row.length=w.AE.length:=by
 have a:n<r.ahead.length:=by rw[h.n];exact b
 exact⟨r.ahead[n],CF a,AAJ a,h.m _ (AAS a)⟩
theorem RW.get{A:dh}(h:RW w r A)(d:n<w.AE.length)(g:nt<w.AE.length){f:Bool->ABd c}{R:c->Prop}(k:∀b,(b=true↔A n nt)->CD (f b) R):CD ((gt r.ahead (n:Int)).bind λx=>(gt x (nt:Int)).bind f) R:=by
 obtain⟨row,e,i,j⟩:=h.row d;rw[e,AAB,CF (show nt<row.length by omega),AAB];refine k _ ?_
 have:=h.a n nt d g;unfold relB at this;simp_all
theorem RW.put{A:dh}(h:RW w r A)(g:n<w.AE.length)(k:nt<w.AE.length){row:eb}(f:r.ahead[n]? =some row):RW w ⟨r.w,r.lines,r.number,r.ahead.set n (row.set nt true)⟩ (λi j=>A i j\/i=n/\j=nt):=by
 have c:row.length=w.AE.length:=h.m _ (AAP f);refine⟨h.s,h.l,by simpa using h.n,?_,?_⟩
 . intro x b;rcases AAh b with b|rfl
   . exact h.m x b
   simp_all
 . intro i j hi e;have d:=h.a i j hi e;unfold relB at d |-;grind
theorem RW.set{A:dh}(h:RW w r A)(a:n<w.AE.length)(g:nt<w.AE.length){f:List Bool->Bool->ABd c}{R:c->Prop}(k:∀row b,RW w ⟨r.w,r.lines,r.number,r.ahead.set n (row.set nt true)⟩ (λi j=>A i j\/i=n/\j=nt)->CD (f row b) R):CD ((gt r.ahead (n:Int)).bind λx=>(gt x (nt:Int)).bind (f x)) R:=by
 obtain⟨row,d,e,l⟩:=h.row a;rw[d,AAB,CF (show nt<row.length by omega),AAB];exact k row _ (h.put a g e)
def exL(t:Int):Nat->List AW->List Int
 |_,[]=>[]
 |i,x::r=>if x.CG==t then(i:Int)::exL t (i+1) r else exL t (i+1) r
def shL(t:Int):Nat->List AW->List Int
 |_,[]=>[]
 |i,x::r=>if x.Ak.contains t then(i:Int)::shL t (i+1) r else shL t (i+1) r
def VX(wv:AD)(s:AP)(t:Int):FL:=if GQ wv s=true/\Cu t wv.AA.length=true then⟨exL t 0 s.AF,shL t 0 s.AF⟩else⟨[],[]⟩
theorem exL_len(t:Int)(l:gy):∀i,(exL t i l).length<=l.length:=by
 induction l with
 |nil=>intro i;simp[exL]
 |cons x r ih=>intro i;have:=ih (i+1);unfold exL;grind
theorem shL_len(t:Int)(l:gy):∀i,(shL t i l).length<=l.length:=by
 induction l with
 |nil=>intro i;simp[shL]
 |cons x r ih=>intro i;have:=ih (i+1);unfold shL;grind
theorem holds_len(a:Small wv)(s:AP)(t:Int):(VX wv s t).Hb.length<=4/\(VX wv s t).M9.length<=4:=by
 unfold VX;split
 . rename_i h;have b:=(D9 h.1).1;have:=a.l;have c:=exL_len t s.AF 0;have d:=shL_len t s.AF 0;grind
 simp_all
theorem kH(s:AP)(t:Int)(e:s.AF.length<=100)(d:RB 1000000000 s):∀(n i:Nat)(a b:dc),i<=s.AF.length->s.AF.length<n+i->a.length<=i->b.length<=i->GX.Aa s t n a b i=some (a++exL t i (s.AF.drop i),b++shL t i (s.AF.drop i))
 |0,i,a,b,h1,h2,_,_=>ah
 |n+1,i,a,b,h1,h2,h3,h4=>by
  rw[GX.Aa];unfold GX.L1;by_cases hi:i<s.AF.length
  . rw[A9 ah,CF hi,AAB,EC hi];have g:=Yy (s.AF[i].Ak) t (d _ (AAS hi));have h:∀c,c.length<=i+1->GX.J2 (GX.Aa s t n) b i t s.AF[i] c=some (c++exL t (i+1) (s.AF.drop (i+1)),b++shL t i (s.AF[i]::s.AF.drop (i+1))):=by
     intro c f;unfold GX.J2 GX.J3;rw[g,AAB,Aj ah,shL];split
     . rw[BV ah,kH s t e d n (i+1) c _ ah ah ah an];simp
     . rw[kH s t e d n (i+1) c b ah ah ah ah]
    rw[exL];split
    . rw[BV ah,h _ an];simp
    grind
  . rw[Ae ah,Ez ah];simp[GX.J4,exL,shL]
theorem object_Holds_eq(wv:AD)(a:Small wv)(s:AP)(b:RB 1000000000 s)(t:Int):GX wv s t=some ((VX wv s t).Hb,(VX wv s t).M9):=by
 have d:=BO;unfold GX VX;rw[NO wv a,AAB,JX,AAB];cases hf:GQ wv s with
 |false=>simp[GX.J1]
 |true=>
  cases ht:Cu t wv.AA.length with
  |false=>simp[GX.J1]
  |true=>have c:=(D9 hf).1;have:=a.l;simp only[Bool.not_true,AAM,AAT,GX.J1];exact kH s t ah b BW 0 [] [] ah ah ak ak
theorem lD(s:AP)(t:Int)(e:s.AF.length<=100)(d:RB 1000000000 s):∀(n i:Nat)(a b:dc),i<=s.AF.length->s.AF.length<n+i->a.length<=i->b.length<=i->G7.Aa s t n a b i=some (a++exL t i (s.AF.drop i),b++shL t i (s.AF.drop i))
 |0,i,a,b,h1,h2,_,_=>ah
 |n+1,i,a,b,h1,h2,h3,h4=>by
  rw[G7.Aa];unfold G7.L1;by_cases hi:i<s.AF.length
  . rw[A9 ah,CF hi,AAB,EC hi];have g:=fT (s.AF[i].Ak) t (d _ (AAS hi));have h:∀c,c.length<=i+1->G7.J2 (G7.Aa s t n) b i s t c=some (c++exL t (i+1) (s.AF.drop (i+1)),b++shL t i (s.AF[i]::s.AF.drop (i+1))):=by
     intro c f;unfold G7.J2 G7.J3;rw[CF hi,AAB,g,AAB,Aj ah,shL];split
     . rw[BV ah,lD s t e d n (i+1) c _ ah ah ah an];simp
     . rw[lD s t e d n (i+1) c b ah ah ah ah]
    rw[exL];split
    . rw[BV ah,h _ an];simp
    grind
  . rw[Ae ah,Ez ah];simp[G7.J4,exL,shL]
theorem ref08_Holds_eq(wv:AD)(a:Small wv)(s:AP)(b:RB 1000000000 s)(t:Int):G7 wv s t=some ((VX wv s t).Hb,(VX wv s t).M9):=by
 have d:=BO;unfold G7 VX;rw[LN wv a,AAB,Yz,AAB];cases hf:GQ wv s with
 |false=>simp[G7.J1]
 |true=>
  cases ht:Cu t wv.AA.length with
  |false=>simp[G7.J1]
  |true=>have c:=(D9 hf).1;have:=a.l;simp only[Bool.not_true,AAM,AAT,G7.J1];exact lD s t ah b BW 0 [] [] ah ah ak ak
def Nv(wv:AD):AB->List AG->List FL
 |_,[]=>[]
 |s,e::r=>VX wv s.Sync e.Thread::Nv wv (Ef wv s e) r
theorem sJ(wv:AD)(l:dx):∀s,(Nv wv s l).length=l.length:=by
 induction l with
 |nil=>intro s;rfl
 |cons e r ih=>intro s;simp[Nv,ih]
theorem helds_drop(wv:AD)(l:dx):∀s (k:Nat),Nv wv ((l.take k).foldl (Ef wv) s) (l.drop k)=(Nv wv s l).drop k:=by
 induction l with
 |nil=>intro s k;simp[Nv]
 |cons e r ih=>
  intro s k;cases k with
  |zero=>rfl
  |succ k=>simp[Nv,ih]
theorem helds_small(b:Small wv)(l:dx):∀s,∀h∈Nv wv s l,h.Hb.length<=4/\h.M9.length<=4:=by
 induction l with
 |nil=>intro s h a;cases a
 |cons e r ih=>
  intro s h a;unfold Nv at a;rcases AAn.1 a with rfl|a
  . exact holds_len b _ _
  grind
theorem tU(a:List c)(x y:c)(b:List c):(a++x::b).set a.length y=a++y::b:=ak
theorem gt_mid(a:List c)(x:c)(b:List c):gt (a++x::b) (a.length:Int)=some x:=by rw[JI];simp
theorem zR(l:dx)(wv:AD)(c:Small wv)(d:∀e∈l,I6 e)(g:l.length<=1000):∀(n:Nat)(s:AB)(a:gb),a.length<=l.length->l.length<n+a.length->RB (a.length+1000) s.Sync->cE wv s (l.drop a.length)->
 Ho.Aa l wv n s (a++List.replicate (l.length-a.length) ⟨[],[]⟩) a.length=some (a++Nv wv s (l.drop a.length))
 |0,s,a,h1,h2,_,_=>ah
 |n+1,s,a,h1,h2,h4,b=>by
  rw[Ho.Aa];unfold Ho.L1;by_cases hi:a.length<l.length
  . rw[EC hi]at b |-;obtain⟨h,b⟩:=b;have f:l.length-a.length=(l.length-(a.length+1))+1:=ah;rw[A9 ah,CF hi,AAB,object_Holds_eq wv c _ (h4.mono ah),AAB,f,List.replicate_succ,gt_mid,AAB,AAz,tU,gt_mid,AAB,(cE.step c h4 ah (d _ (AAS _)) h).1,AAB,tU,Aj ah]
    have:=zR l wv c d g n (Ef wv s l[a.length]) (a++[VX wv s.Sync l[a.length].Thread]) bg bg ((h4.apply _ _ _ _ _).mono am) am;simpa[Nv]using this
  . rw[Ae ah,Ez ah];have:l.length-a.length=0:=ah;simp[Ho.J1,Nv,this]
theorem follow_eq{l:dx}(c:Small wv)(a:∀e∈l,I6 e)(b:l.length<=1000)(g:RB 1000 s.Sync)(f:cE wv s l):Ho wv s l=some (Nv wv s l):=by
 have d:=BO;unfold Ho;rw[AAL ⟨ah,ah,Bm ah⟩]
 have:=zR l wv c a b BW s [] ak an ah am;simp_all
def Y1(wv:AD):AB->List AG->List AP
 |s,[]=>[s.Sync]
 |s,e::r=>s.Sync::Y1 wv (Ef wv s e) r
theorem poss_apply(g:Small wv)(f:RB N s.Sync)(b:N<=1000000)(a:HG wv s e=true)(o:Int)(d:o=if e.Kind=18 then e.Value else -1):∃x,DN wv s.Sync e.Thread e.Kind e.Obj o=some ((Ef wv s e).Sync,x):=by
 have c:Bx wv s.Sync e.Thread e.Kind e.Obj=true:=by unfold HG at a;simp only[AAD]at a;exact a.2.2.1
 rw[NT wv g s.Sync (f.mono b)];unfold NA;rw[AAL c];subst d;exact⟨_,rfl⟩
theorem zS(l:dx)(wv:AD)(c:Small wv)(d:l.length<=1000):∀(n i:Nat)(s:AB)(a:i5),i<=l.length->l.length<n+i->a.length<=i->RB (i+1000) s.Sync->cE wv s (l.drop i)->
 Hz.Aa l wv n s.Sync (a++[s.Sync]) i=some (a++Y1 wv s (l.drop i))
 |0,i,s,a,h1,h2,_,_,_=>ah
 |n+1,i,s,a,h1,h2,h3,h4,b=>by
  rw[Hz.Aa];unfold Hz.L1;by_cases hi:i<l.length
  . rw[EC hi]at b |-;obtain⟨f,b⟩:=b;rw[A9 ah,CF hi,AAB];have j1:∀o,o=(if l[i].Kind=18 then l[i].Value else -1)->Hz.J1 (Hz.Aa l wv n) (a++[s.Sync]) s.Sync i wv l[i] o=some (a++Y1 wv s (l[i]::l.drop (i+1))):=by
     intro o e;unfold Hz.J1;obtain⟨x,g⟩:=poss_apply c h4 ah f o e;rw[g,AAB,BV an,Aj ah]
     have:=zS l wv c d n (i+1) (Ef wv s l[i]) (a++[s.Sync]) ah ah an ((h4.apply _ _ _ _ _).mono ah) b;simpa[Y1]using this
    grind
  . rw[Ae ah,Ez ah];rfl
theorem states_eq{l:dx}(b:Small wv)(a:l.length<=1000)(e:RB 1000 s.Sync)(d:cE wv s l):Hz wv s.Sync l=some (Y1 wv s l):=by
 have c:=BO;unfold Hz
 have:=zS l wv b a BW 0 s [] ah ah ak ah am;simp_all
theorem states_get(wv:AD)(l:dx):∀s (i:Nat),i<=l.length->(Y1 wv s l)[i]? =some ((l.take i).foldl (Ef wv) s).Sync:=by
 induction l with
 |nil=>
  intro s i hi;have:i=0:=by simpa using hi
  subst this;rfl
 |cons e r ih=>
  intro s i hi;cases i with
  |zero=>rfl
  |succ i=>simpa[Y1]using ih (Ef wv s e) i am
theorem fold_rb(l:dx):∀{s:AB}{N:Nat},RB N s.Sync->RB (N+l.length) (l.foldl (Ef wv) s).Sync:=by
 induction l with
 |nil=>simp_all
 |cons e r ih=>
  intro s N h
  have:=ih (s:=Ef wv s e) (h.apply wv _ _ _ _);grind
theorem rheld_loop(l:dx)(wv:AD)(d:Small wv)(f:l.length<=1000)(s:AB)(c:RB 1000 s.Sync):∀(n i:Nat)(a:gb),i<=l.length->l.length<n+i->a.length<=i->
 LC.Aa l (Y1 wv s l) wv n a i=some (a++(Nv wv s l).drop i)
 |0,i,a,h1,h2,_=>ah
 |n+1,i,a,h1,h2,h3=>by
  rw[LC.Aa];unfold LC.L1;by_cases hi:i<l.length
  . have g:=states_get wv l s i ah;have b:RB 1000000000 ((l.take i).foldl (Ef wv) s).Sync:=(fold_rb (wv:=wv) (l.take i) c).mono an;have e:(Nv wv s l).drop i=VX wv ((l.take i).foldl (Ef wv) s).Sync l[i].Thread::(Nv wv s l).drop (i+1):=(by rw[<- helds_drop,EC hi,Nv,<- helds_drop];congr 2;rw[<- AAX hi,List.foldl_append];rfl);rw[A9 ah,CF hi,AAB,JI,g,AAB,ref08_Holds_eq wv d _ b,AAB,BV ah,Aj ah,rheld_loop l wv d f s c n (i+1) _ ah ah an,e];simp
  . rw[Ae ah,List.drop_of_length_le (by rw[sJ];omega)];simp[LC.J1]
theorem rHeld_eq{l:dx}(c:Small wv)(a:l.length<=1000)(b:RB 1000 s.Sync)(d:cE wv s l):LC wv s.Sync l=some (Nv wv s l):=by have e:=BO;unfold LC;rw[states_eq c a b d,AAB];simpa using rheld_loop l wv c a s b BW 0 [] ah ah ak
theorem Equal_loop(l:dc)(a:l.length<=1000000000):∀n i:Nat,i<=l.length->l.length<n+i->Ha.Aa l l n (i:Int)=some true
 |0,i,h1,h2=>ah
 |n+1,i,h1,h2=>by
  rw[Ha.Aa];unfold Ha.L1;by_cases hi:i<l.length
  . rw[A9 ah,CF hi,AAB,AAB,AAK ak,Aj ah];exact Equal_loop l a n (i+1) ah ah
  . rw[Ae ah];rfl
theorem Equal_self(l:dc)(a:l.length<=1000000000):Ha l l=some true:=by unfold Ha;rw[AAK ak];exact Equal_loop l a BW 0 ah aG
theorem mL(l:gb)(a:l.length<=1000000)(h:∀x∈l,x.Hb.length<=4/\x.M9.length<=4):∀n i:Nat,i<=l.length->l.length<n+i->Hq.Aa l l n (i:Int)=some true
 |0,i,h1,h2=>ah
 |n+1,i,h1,h2=>by
  rw[Hq.Aa];unfold Hq.L1;by_cases hi:i<l.length
  . have b:=h _ (AAS hi);rw[A9 ah,CF hi,AAB,AAB,Equal_self _ ah,AAB,AAK ak,Equal_self _ ah,AAB];unfold Hq.J1;rw[AAK ak,Aj ah];exact mL l a h n (i+1) ah ah
  . rw[Ae ah];rfl
theorem SameHeld_self(l:gb)(a:l.length<=1000000)(h:∀x∈l,x.Hb.length<=4/\x.M9.length<=4):Hq l l=some true:=by unfold Hq;rw[AAK ak];exact mL l a h BW 0 ah aG
end
theorem awake28:PV=some true:=by decide +kernel
variable{D:AP->Prop}{c' g:JB}{m u:Int->Bool}
section
set_option maxHeartbeats 4000000
theorem Window28_eq(h:WG w):PX w=some (Nv w.World w.Init w.AE):=by have a:=zT h.v;unfold PX;rw[Valid_eq h.e (h.r.mono ah),AAB,h.v,AAK ak,follow_eq a.s h.e (by have:=a.n;omega) h.r a.p];rfl
theorem LWindow_tot(e:mX v)(d:v.Program.length<=4000000000000000000):CD (HJ v) λb=>b=true:=by unfold HJ HJ.J1;refine tB (VP e ah ah d) λw c=> ?_;have a:=zT c.v;have hn:=a.n;rw[Window28_eq c,AAB,rHeld_eq a.s ah c.r a.p,AAB,SameHeld_self _ (by rw[sJ];omega) (helds_small a.s _ _),AAB,awake28];exact tI (λ_=>tR rfl) λh=>by cases h
def K9(w:Bool)(h:FL):List Int:=Od (if w=true then h.Hb else h.Hb++h.M9)
def Nt(a:FC)(t:Int)(w:Bool)(h:FL):FC×Bool:=
 if a.State=0\/a.State=1/\t=a.CG then(⟨1,t,[]⟩,false)
 else(⟨if w=true then 3 else if a.State=1 then 2 else a.State,0,if a.State=1 then K9 w h else a.AF.filter (K9 w h).contains⟩,
  (if w=true then 3 else if a.State=1 then 2 else a.State)==3&&((if a.State=1 then K9 w h else a.AF.filter (K9 w h).contains).length:Int)==0)
structure EI (a:FC):Prop where
 s:a.State=0\/a.State=1\/a.State=2\/a.State=3
 o:a.AF.Pairwise (· < ·)
 l:a.AF.length<=1000
def HL(h:FL):Prop:=h.Hb.length<=100/\h.M9.length<=100
theorem pZ{w:Bool}{h:FL}(a:HL h):(K9 w h).length<=200:=by
 have b:=a.1;have c:=a.2;unfold K9;refine AA5 (Tn _) ?_;split
 . omega
 . simp only[AAr];omega
theorem EI.step{a:FC}(b:EI a){t:Int}{w:Bool}{h:FL}(c:HL h):EI (Nt a t w h).1:=by
 have e:=pZ (w:=w) c;have f:=b.s;unfold Nt;split
 . exact⟨.inr (.inl rfl),.nil,ak⟩
 . rename_i d;refine⟨?_,?_,?_⟩
   . simp only;split
     . omega
     . split<;>omega
   . simp only;split
     . exact LM _
     . exact b.o.filter _
   . simp only;split
     . omega
     . exact AA5 (List.length_filter_le _ _) b.l
def hitL(l:dc)(x:Int):List Int:=if 0<=x/\x<(l.length:Int)then[ix l x]else[]
def QF(w:AL)(t:Int)(ks:dc):List Int:=ks.flatMap λk=>hitL (ZJ t 0 w.AE) (k-ix w.Init.Count t)
theorem idxL_in(t:Int):∀(l:dx)(i:Nat)(x:Int),x∈ZJ t i l->∃(k:Nat)(b:k<l.length),x=((i+k:Nat):Int)/\l[k].Thread=t:=by
 intro l;induction l with
 |nil=>intro i x a;simp[ZJ]at a
 |cons y l ih=>
  intro i x a;have c:x∈ZJ t (i+1) l->∃(k:Nat)(b:k<(y::l).length),x=((i+k:Nat):Int)/\(y::l)[k].Thread=t:=λh=>by obtain⟨k,b,f,d⟩:=ih _ _ h;exact⟨k+1,am,ah,d⟩
  unfold ZJ at a;split at a
  . rename_i e;rcases AAn.1 a with rfl|a
    . exact⟨0,ak,ak,e⟩
    simp_all
  simp_all
theorem xJ:∀q∈QF w t l,∃m:Nat,∃b:m<w.AE.length,q=(m:Int)/\w.AE[m].Thread=t:=by
 intro q c;obtain⟨k,_,a⟩:=List.mem_flatMap.1 c;generalize k-ix w.Init.Count t=y at a;unfold hitL at a;split at a
 . rename_i h;have b:ix (ZJ t 0 w.AE) y∈ZJ t 0 w.AE:=(by unfold ix;rw[AAJ (by omega)];exact AAS _);simp only[AAl]at a;obtain⟨i,e,f,g⟩:=idxL_in _ _ _ _ b;grind
 grind
abbrev ev(w:AL)(i:Nat):AG:=ix w.AE (i:Int)
theorem later{c a:AG->Prop}(g:∀s e,HG wv s e=true->c e->D (Ef wv s e).Sync)(h:∀s e,HG wv s e=true->D s.Sync->D (Ef wv s e).Sync/\¬a e):
 ∀(l:dx)(s:AB),cE wv s l->((D s.Sync->∀e∈l,¬a e)/\∀(j i:Nat)(k:j<l.length)(hi:i<l.length),j<i->c l[j]->¬a l[i]):=by
 intro l;induction l with
 |nil=>simp_all
 |cons e l ih=>
  intro s b;obtain⟨d,o⟩:=ih _ b.2;refine⟨λf x p=> ?_,λj i k hi n m=> ?_⟩
  . obtain⟨q,r⟩:=h s e b.1 f;grind
  . cases i with
    |zero=>omega
    |succ i=>
     cases j with
     |zero=>exact d (g s e b.1 m) _ (AAS am)
     |succ j=>grind
theorem vK{n:Int}{r:AG}:∀(l:dx)(i k:Nat)(a:k<l.length),candB w n r (i+k) l[k]=true->((i+k:Nat):Int)∈gX w n r i l:=by
 intro l;induction l with
 |nil=>simp_all
 |cons y l ih=>
  intro i k a h;unfold gX;cases k with
  |zero=>simp_all
  |succ k=>have:=ih (i+1) k bg bg;grind
def hold(wv:AD)(s:AP)(k u:Int)(sh:Bool):Prop:=
 if k=(wv.AF.length:Int)then s.Tx=u/\sh=false else Cu k wv.AF.length=true/\(sh=false/\(ix s.AF k).CG=u\/sh=true/\(ix wv.AF k).RW=true/\u∈(ix s.AF k).Ak)
structure StepR (w:AL) (c c':JB) (i:Nat) (wake:Int):Prop where
 hi:i<w.AE.length
 no:(i:Int)∉c.Order
 pre:∀j:Nat,j<i->(ev w j).Thread=(ev w i).Thread->(j:Int)∈c.Order
 en:Bx w.World c.Sync (ev w i).Thread (ev w i).Kind (ev w i).Obj=true
 dp:∀q∈QF w (ev w i).Thread (ev w i).Dw,ix c.Iq q=true
 sy:c'.Sync=(DH w.World c.Sync (ev w i).Thread (ev w i).Kind (ev w i).Obj wake).1
 od:c'.Order=c.Order++[(i:Int)]
 ce:((ev w i).Kind=4/\∃x:Kj,c'.Cells=c.Cells.set (ev w i).Obj.toNat x/\(x.SJ=true->x.Value=(ev w i).Value/\∀q∈QF w (ev w i).Thread (ev w i).DM,ix c.Iq q=true))\/((ev w i).Kind≠4/\c'.Cells=c.Cells)
 fu:((ev w i).Kind=22/\∃x:Kj,c'.AK=c.AK.set (ev w i).Obj.toNat x/\(x.SJ=true->x.Value=(ev w i).Value/\∀q∈QF w (ev w i).Thread (ev w i).DM,ix c.Iq q=true))\/((ev w i).Kind≠22/\c'.AK=c.AK)
 fx:(∃b:Bool,c'.Iq=c.Iq.set i b/\((ev w i).Kind=3/\(b=true->(ix c.Cells (ev w i).Obj).SJ=true/\(ix c.Cells (ev w i).Obj).Value=(ev w i).Value)\/(ev w i).Kind=23/\(b=true->(ix c.AK (ev w i).Obj).SJ=true/\(ix c.AK (ev w i).Obj).Value=(ev w i).Value)))\/((ev w i).Kind≠3/\(ev w i).Kind≠23/\c'.Iq=c.Iq)
def startC(w:AL):JB:=⟨w.Init.Sync,w.Init.Cells.map λx=>⟨x,true⟩,w.Init.AK.map λx=>⟨x,true⟩,[],List.replicate w.AE.length false,List.replicate w.AE.length 0⟩
inductive Reach (w:AL):JB->Prop
 |start:Reach w (startC w)
 |step {K:Nat} {c c':JB} {i:Nat} {wake:Int} (g:GIw w K c) (h:Reach w c) (s:StepR w c c' i wake):Reach w c'
theorem XD{s:AP}(h:Bx wv s t a o=true):Cu t wv.AA.length=true/\Bi wv a o=true/\I0 wv s t a o=true/\GQ wv s=true:=by unfold Bx at h;simp only[AAD]at h;exact⟨h.2.1,h.2.2.1,h.2.2.2,h.1⟩
def Z5{s:AP}(h:Bx wv s t a o=true):True/\Cu t wv.AA.length=true/\Bi wv a o=true/\I0 wv s t a o=true/\GQ wv s=true:=⟨trivial,XD h⟩
theorem vZ{s:AP}(e:Bx wv s o a k=true)(g:Cu t wv.AK.length=true):ix (DH wv s o a k i).1.Bn t=if a=22/\k=t then true else ix s.Bn t:=by
 have j:=(D9 (Z5 e).2.2.2.2).2.1
 have:=BF.1 g;unfold DH KH KG;dsimp only;by_cases ob:a=22
 . simp only[ob];simp(decide:=true)only[AAi,AAT,AA2,true_and];unfold ix;by_cases b:k=t
   . rw[AAL b,b,AAF ah];rfl
   . have f:Cu k wv.AK.length=true:=by have d:=(Z5 e).2.2.1;unfold Bi at d;rw[ob]at d;simpa(decide:=true)only[AAi,AAT,or_true,true_or,AA2]using d
     have:=BF.1 f;rw[AAK b,AAI ah]
 . rw[AAK (c:=a=22/\k=t) λh=>ob h.1,AAK (c:=a=22) ob];simp only[apply_ite Prod.fst,apply_ite AP.Bn,ite_self]
theorem yO(h:Reach w c'):∀x∈c'.Order,∃m:Nat,m<w.AE.length/\x=(m:Int):=by
 induction h with
 |start=>intro x a;cases a
 |step g h s ih=>
  intro x a;rw[s.od]at a;rcases AAW.1 a with a|a
  . exact ih x a
  . exact⟨_,s.hi,AAl.1 a⟩
theorem qI(e:Cu o w.World.AK.length=true)(h:Reach w c'):(∀i:Nat,(i:Int)∈c'.Order->¬((ev w i).Kind=22/\(ev w i).Obj=o))->ix c'.Sync.Bn o=ix w.Init.Sync.Bn o:=by
 induction h with
 |start=>intro _;rfl
 | @step K c' c i wake g h s ih=>intro a;have b:=ih λm d=>a m (by rw[s.od];exact List.mem_append_left _ d);rw[s.sy,vZ s.en e,AAK (a i (by rw[s.od];simp))];exact b
def HV(P:Int->Bool)(l:Int)(ord:dc):Int:=ord.foldl (λl x=>if P x=true then x else l) l
theorem pX(P:Int->Bool)(l:Int)(a:dc)(x:Int):HV P l (a++[x])=if P x=true then x else HV P l a:=by simp[HV,List.foldl_append]
theorem Xj(P:Int->Bool):∀(a:dc)(l:Int),(HV P l a=l/\∀x∈a,P x=false)\/(HV P l a∈a/\P (HV P l a)=true):=by
 intro a;induction a with
 |nil=>exactλl=>.inl ⟨rfl,λx d=>by cases d⟩
 |cons x a ih=>
  intro l;have e:HV P l (x::a)=HV P (if P x=true then x else l) a:=rfl
  rw[e];cases d:P x with
  |true=>
   rw[AAL rfl];rcases ih x with⟨b,c⟩|⟨b,c⟩
   . exact .inr ⟨by rw[b];simp,by rw[b];exact d⟩
   . exact .inr ⟨ABN _ b,c⟩
  |false=>
   rw[AAK ak];rcases ih l with⟨b,c⟩|⟨b,c⟩
   . exact .inl ⟨b,λy f=>by rcases AAn.1 f with rfl|f;exact d;exact c y f⟩
   . exact .inr ⟨ABN _ b,c⟩
def fO(w:AL)(k o:Int)(x:Int):Bool:=(ix w.AE x).Kind==k&&(ix w.AE x).Obj==o
theorem kA(h:∀x,m x=u x)(l:Int)(a:dc):HV m l a=HV u l a:=by have:m=u:=funext h;rw[this]
def LW(w:AL)(c:JB)(k:Nat):Prop:=∀x∈QF w (ev w k).Thread (ev w k).DM,ix c.Iq x=true
structure CIw (w:AL) (c:JB):Prop where
 o:∀q:Nat,q<w.AE.length->ix c.Iq (q:Int)=true->(q:Int)∈c.Order
 ce:∀b,Cu b w.World.Cells.length=true->(ix c.Cells b).SJ=true->(HV (fO w 4 b) (-1) c.Order= -1/\(ix c.Cells b).Value=ix w.Init.Cells b)\/∃k:Nat,HV (fO w 4 b) (-1) c.Order=(k:Int)/\k<w.AE.length/\(ix c.Cells b).Value=(ev w k).Value/\LW w c k
 fu:∀b,Cu b w.World.AK.length=true->(ix c.AK b).SJ=true->(HV (fO w 22 b) (-1) c.Order= -1/\(ix c.AK b).Value=ix w.Init.AK b)\/∃k:Nat,HV (fO w 22 b) (-1) c.Order=(k:Int)/\k<w.AE.length/\(ix c.AK b).Value=(ev w k).Value/\LW w c k
 xr:∀q:Nat,q<w.AE.length->ix c.Iq (q:Int)=true->∃pre post,c.Order=pre++(q:Int)::post/\HV (λx=>Mk (ix w.AE x) (ev w q)) (-1) pre∈rR w (q:Int)/\∀k:Nat,HV (λx=>Mk (ix w.AE x) (ev w q)) (-1) pre=(k:Int)->(k:Int)∈pre/\LW w c k
theorem LW.mono(d:∀q:Nat,q<w.AE.length->ix g.Iq (q:Int)=true->ix c'.Iq (q:Int)=true)(h:LW w g n):LW w c' n:=by intro x b;obtain⟨m,a,e,_⟩:=xJ x b;rw[e];exact d m a (by have:=h x b;rw[e]at this;exact this)
theorem CIw.step{w:AL}(hw:WQ w){K:Nat}{c c':JB}{i:Nat}{wake:Int}(g:GIw w K c)(hr:Reach w c)(s:StepR w c c' i wake)(h:CIw w c):CIw w c':=by
 have hil:=s.hi;have v:=(XD s.en).2.1
 -- what was fixed stays so
 have H:∀q:Nat,q<w.AE.length->q≠i->ix c'.Iq (q:Int)=ix c.Iq (q:Int):=by
  intro q f O1;rcases s.fx with⟨b,e,_⟩|⟨_,_,e⟩
  . rw[e];unfold ix;rw[show((q:Int)).toNat=q from by omega,AAI ah]
  . rw[e]
 have W:∀q:Nat,q<w.AE.length->ix c.Iq (q:Int)=true->ix c'.Iq (q:Int)=true:=by intro q f a;rw[H q f λe=>s.no (e▸h.o q f a)];exact a
 have G:∀q:Nat,q<w.AE.length->ix c'.Iq (q:Int)=true->ix c.Iq (q:Int)=true\/q=i:=by
  intro q f a;by_cases e:q=i
  . exact .inr e
  . rw[H q f e]at a;exact .inl a
 have lst:∀(k b:Int),HV (fO w k b) (-1) c'.Order=if(ev w i).Kind=k/\(ev w i).Obj=b then(i:Int)else HV (fO w k b) (-1) c.Order:=by
  intro k b;rw[s.od,pX];unfold fO ev;by_cases e:(ix w.AE (i:Int)).Kind=k/\(ix w.AE (i:Int)).Obj=b
  . rw[AAL e,AAL (by simp[e])]
  . rw[AAK e,AAK (by simpa using e)]
 -- contents
 have E:∀(k b:Int)(C D I:List Kj)(V:dc)(n:Nat),Cu b n=true->C.length=n->
  ((ev w i).Kind=k/\(∃x:Kj,D=C.set (ev w i).Obj.toNat x/\(x.SJ=true->x.Value=(ev w i).Value/\∀q∈QF w (ev w i).Thread (ev w i).DM,ix c.Iq q=true))\/((ev w i).Kind≠k/\D=C))->
  ((ev w i).Kind=k->Cu (ev w i).Obj n=true)->
  ((ix C b).SJ=true->(HV (fO w k b) (-1) c.Order= -1/\(ix C b).Value=ix V b)\/∃m:Nat,HV (fO w k b) (-1) c.Order=(m:Int)/\m<w.AE.length/\(ix C b).Value=(ev w m).Value/\LW w c m)->
  (ix D b).SJ=true->(HV (fO w k b) (-1) c'.Order= -1/\(ix D b).Value=ix V b)\/∃m:Nat,HV (fO w k b) (-1) c'.Order=(m:Int)/\m<w.AE.length/\(ix D b).Value=(ev w m).Value/\LW w c' m:=by
  intro k b C D I V n j hl hC L hold t;have iY:=BF.1 j;rw[lst k b];rcases hC with⟨F,x,J,Z⟩|⟨F,J⟩
  . have hO':=BF.1 (L F);by_cases eo:(ev w i).Obj=b
    . rw[AAL ⟨F,eo⟩];have hx:ix D b=x:=(by rw[J,eo];unfold ix;rw[AAF (by omega)];rfl);rw[hx]at t |-;obtain⟨d,g2⟩:=Z t;exact .inr ⟨i,rfl,hil,d,LW.mono W g2⟩
    . rw[AAK λx=>eo x.2];have hx:ix D b=ix C b:=(by rw[J];unfold ix;rw[AAI (by omega)]);rw[hx]at t |-;rcases hold t with y|⟨m,y,B,N,O⟩
      . exact .inl y
      . exact .inr ⟨m,y,B,N,O.mono W⟩
  . rw[AAK λx=>F x.1];rw[J]at t |-;rcases hold t with y|⟨m,y,B,N,O⟩
    . exact .inl y
    . exact .inr ⟨m,y,B,N,O.mono W⟩
 have hO4:(ev w i).Kind=4->Cu (ev w i).Obj w.World.Cells.length=true:=λk=>by unfold Bi at v;rw[k]at v;simpa using v
 have P:(ev w i).Kind=22->Cu (ev w i).Obj w.World.AK.length=true:=λk=>by unfold Bi at v;rw[k]at v;simpa using v
 refine⟨λq f a=> ?_,λb j t=>E 4 b c.Cells c'.Cells [] w.Init.Cells _ j g.l s.ce hO4 (h.ce b j) t,λb j t=>E 22 b c.AK c'.AK [] w.Init.AK _ j g.u s.fu P (h.fu b j) t,λq f a=> ?_⟩
 . rw[s.od];rcases G q f a with a|rfl
   . exact List.mem_append_left _ (h.o q f a)
   . exact List.mem_append_right _ ak
 . by_cases U:q=i
   . subst U;have eq:ix w.AE (q:Int)=ev w q:=rfl;have T5:Cu (q:Int) w.AE.length=true:=BF.2 ⟨ah,ah⟩;refine⟨c.Order,[],s.od,?_⟩;rcases s.fx with⟨b,e,j⟩|⟨_,_,e⟩
     . have Q:b=true:=by rw[e]at a;unfold ix at a;rw[show((q:Int)).toNat=q from by omega,AAF (by rw[g.x];exact f)]at a;exact a
       -- the last write
       have mk:∀(k kd:Int)(o:Int),(ev w q).Kind=kd->(kd=3/\k=4\/kd=23/\k=22)->(ev w q).Obj=o->
        ((HV (fO w k o) (-1) c.Order= -1/\sT w (ev w q)=true)\/∃m:Nat,HV (fO w k o) (-1) c.Order=(m:Int)/\m<w.AE.length/\(ev w q).Value=(ev w m).Value/\LW w c m)->
        HV (λx=>Mk (ix w.AE x) (ev w q)) (-1) c.Order∈rR w (q:Int)/\∀m:Nat,HV (λx=>Mk (ix w.AE x) (ev w q)) (-1) c.Order=(m:Int)->(m:Int)∈c.Order/\LW w c' m:=by
        intro k kd o R S ho hl;have hP:∀x,Mk (ix w.AE x) (ev w q)=fO w k o x:=(by intro x;unfold Mk fO;rw[R,ho];rcases S with⟨rfl,rfl⟩|⟨rfl,rfl⟩<;>cases(ix w.AE x).Obj==o<;>cases(ix w.AE x).Kind==4<;>cases(ix w.AE x).Kind==22<;>rfl);rw[kA hP];have z:(ix w.AE (q:Int)).Kind=3\/(ix w.AE (q:Int)).Kind=23:=by
         rw[eq,R];rcases S with⟨h,_⟩|⟨h,_⟩
         . exact .inl h
         . exact .inr h
        rcases hl with⟨y,B⟩|⟨m,y,B,N,O⟩
        . rw[y];refine⟨?_,λm hm=>ah⟩;unfold rR;rw[AAL ⟨T5,z⟩,eq,AAL B];exact List.mem_append_left _ (AAl.2 rfl)
        . rcases Xj (fO w k o) c.Order (-1)with⟨d,_⟩|⟨d,g2⟩
          . omega
          rw[y]at d g2 |-;refine⟨?_,λm' PL=> ?_⟩
          . unfold rR;rw[AAL ⟨T5,z⟩,eq];refine List.mem_append_right _ ?_;have em:ev w m=w.AE[m]:=K8 B;have eqq:ev w q=w.AE[q]:=K8 f
            have:=vK (w:=w) (n:=(q:Int)) (r:=ev w q) w.AE 0 m B ?_
            . simpa using this
            . unfold candB;rw[<- em];have Lx:Mk (ev w m) (ev w q)=true:=(by have:=hP (m:Int);rw[this];exact g2);rw[Lx,N];simp only[BEq.rfl,AAY,ABP,Bool.and_eq_false_iff,ABI,decide_eq_false_iff_not];by_cases ht:(ev w m).Thread=(ev w q).Thread
              . right
                intro Dz;refine s.no (g.p q m ah B ?_ d);rw[<- em,<- eqq];exact ht.symm
              . exact .inl ht
          . obtain rfl:m'=m:=ah;exact⟨d,O.mono W⟩
       rcases j with⟨k3,j⟩|⟨fL,j⟩
       . obtain⟨b1,M⟩:=j Q;have L:Cu (ev w q).Obj w.World.Cells.length=true:=(by unfold Bi at v;rw[k3]at v;simpa using v);refine mk 4 3 _ k3 (.inl ⟨rfl,rfl⟩) rfl ?_;rcases h.ce _ L b1 with⟨d,g2⟩|⟨m,d,g2,g3,g4⟩
         . exact .inl ⟨d,by unfold sT;rw[AAK ah,<- g2,M];simp⟩
         . exact .inr ⟨m,d,g2,by rw[<- M,g3],g4⟩
       . obtain⟨b1,M⟩:=j Q;have L:Cu (ev w q).Obj w.World.AK.length=true:=(by unfold Bi at v;rw[fL]at v;simpa using v);refine mk 22 23 _ fL (.inr ⟨rfl,rfl⟩) rfl ?_;rcases h.fu _ L b1 with⟨d,g2⟩|⟨m,d,g2,g3,g4⟩
         . refine .inl ⟨d,?_⟩;have hd:ix c.Sync.Bn (ev w q).Obj=true:=(by have hR:=(XD s.en).2.2.1;unfold I0 at hR;rw[fL]at hR;simp at hR;exact hR.2);have KU:∀m:Nat,(m:Int)∈c.Order->¬((ev w m).Kind=22/\(ev w m).Obj=(ev w q).Obj):=by
            rcases Xj (fO w 22 (ev w q).Obj) c.Order (-1)with⟨_,k2⟩|⟨k1,k2⟩
            . intro m hm T
              have:=k2 _ hm;unfold fO at this;have F:(ix w.AE (m:Int))=ev w m:=rfl;rw[F,T.1,T.2]at this;simp at this
            . rw[d]at k1;obtain⟨m,_,hm⟩:=yO hr _ k1;omega
           rw[qI L hr KU]at hd;unfold sT;rw[AAL fL,hd,<- g2,M];simp
         . exact .inr ⟨m,d,g2,by rw[<- M,g3],g4⟩
     . rw[e]at a;exact absurd (h.o q f a) s.no
   . have hf':ix c.Iq (q:Int)=true:=(by rw[H q f U]at a;exact a);obtain⟨pre,X,F,J,Z⟩:=h.xr q f hf';refine⟨pre,X++[(i:Int)],by rw[s.od,F];simp,J,λk t=>⟨(Z k t).1,(Z k t).2.mono W⟩⟩
instance:Inhabited FC:=⟨⟨0,0,[]⟩⟩
def accB(wv:AD)(e:AG):Bool:=(e.Kind==3||e.Kind==4)&& !(ix wv.Cells e.Obj).Gz
def uA(wv:AD)(i:Int)(e:AG)(h:FL)(s:ik):List FC×List Int:=
 if accB wv e=true then
  let r:=Nt (ix s.1 e.Obj) e.Thread (e.Kind==4) h
  (s.1.set e.Obj.toNat r.1,if r.2=true/\ix s.2 e.Obj<0 then s.2.set e.Obj.toNat i else s.2)
 else s
def CE(wv:AD)(e:AG):Prop:=e.Kind=3\/e.Kind=4->Cu e.Obj wv.Cells.length=true
structure WS (n:Nat) (s:List FC×List Int):Prop where
 a:s.1.length=n
 b:s.2.length=n
 e:∀x∈s.1,EI x
theorem ix_mem[Inhabited c]{l:List c}(h:Cu i l.length=true):ix l i∈l:=by
 have:=CL h;unfold gt at this;split at this
 . exact AAP this
 . cases this
theorem WS.step{n:Nat}{wv:AD}(hn:n=wv.Cells.length){s:ik}(c:WS n s){e:AG}(g:CE wv e){h:FL}(j:HL h)(i:Int):WS n (uA wv i e h s):=by
 unfold uA;split
 . rename_i d;have k:e.Kind=3\/e.Kind=4:=(by unfold accB at d;simp at d;exact d.1);have hi:Cu e.Obj s.1.length=true:=(by rw[c.a,hn];exact g k);refine⟨by simpa using c.a,?_,λx f=> ?_⟩
   . simp only;split<;>simpa using c.b
   . rcases AAh f with f|rfl
     . exact c.e x f
     . exact(c.e _ (ix_mem hi)).step j
 . exact c
theorem fill{L:Nat->List Int->Int->ABd c}{R:List Int->ABd c}(f:N<=1000)(b:∀(n i:Nat)(l:dc),i<N->l.length=N->L (n+1) l (i:Int)=L n (l.set i (-1)) ((i+1:Nat):Int))(a:∀n l,L (n+1) l (N:Int)=R l):∀(n i:Nat),i<=N->N<n+i->L n (List.replicate i (-1)++List.replicate (N-i) 0) (i:Int)=R (List.replicate N (-1))
 |0,i,h1,h2=>ah
 |n+1,i,h1,h2=>by
  by_cases hi:i<N
  . have d:N-i=(N-(i+1))+1:=ah;rw[b n i _ hi an,d,List.replicate_succ];have e:(List.replicate i (-1:Int)++(0:Int)::List.replicate (N-(i+1)) 0).set i (-1)=List.replicate (i+1) (-1)++List.replicate (N-(i+1)) 0:=(by have:=tU (List.replicate i (-1:Int)) 0 (-1) (List.replicate (N-(i+1)) 0);rw[ABL]at this;rw[this,ABY];simp);rw[e];exact fill f b a n (i+1) ah ah
  . obtain rfl:i=N:=ah;rw[a];simp
theorem AT.ce{t:CC}(h:AT t)(d:e∈t.AE):CE t.World e:=by intro a;obtain⟨i,hi,rfl⟩:=ABR d;have b:=h.poss hi;unfold HG Bx at b;simp only[AAD]at b;have c:=b.2.2.1.2.2.1;unfold Bi at c;rcases a with a|a<;>simpa[a]using c
theorem xL[Inhabited c]{l:List c}(h:Cu i l.length=true)(a:c):ix (l.set i.toNat a) i=a:=by have h:=BF.1 h;unfold ix;rw[AAF ah];rfl
theorem aK[Inhabited c]{l:List c}(hi:0<=i)(b:0<=t)(h:i≠t)(a:c):ix (l.set i.toNat a) t=ix l t:=by unfold ix;rw[AAI ah]
def holdB(c k:Int)(x:AG×FL):Bool:= !((x.1.Kind==3||x.1.Kind==4)&&x.1.Obj==c)||(x.2.Hb.contains k||(x.1.Kind==3&&x.2.M9.contains k))
def DI(c k:Int)(s:ik):Prop:=((ix s.1 c).State=0\/(ix s.1 c).State=1\/k∈(ix s.1 c).AF)/\ix s.2 c<0
theorem DI.step{wv:AD}{c k:Int}{s:ik}(h:DI c k s)(r:WS wv.Cells.length s)(p:Cu c wv.Cells.length=true){e:AG}{hd:FL}(q:CE wv e)(d:holdB c k (e,hd)=true)(i:Int):DI c k (uA wv i e hd s):=by
 unfold uA;split
 . rename_i l;dsimp only;have f:e.Kind=3\/e.Kind=4:=(by unfold accB at l;simp at l;exact l.1);have hi:=q f;have t:=BF.1 hi;have u:=BF.1 p;by_cases b:e.Obj=c
   . subst b;have m:k∈K9 (e.Kind==4) hd:=by
      unfold holdB at d;simp only[AA4,Bool.and_true,AAk,ABP,AAD,AAb]at d;unfold K9;rw[Kb];rcases f with f|f
      . simp[f]at d |-;exact d
      . simp[f]at d |-;exact d
     have n:(Nt (ix s.1 e.Obj) e.Thread (e.Kind==4) hd).2=false/\((Nt (ix s.1 e.Obj) e.Thread (e.Kind==4) hd).1.State=1\/k∈(Nt (ix s.1 e.Obj) e.Thread (e.Kind==4) hd).1.AF):=by
      unfold Nt;split
      . exact⟨rfl,.inl rfl⟩
      . rename_i hn;have o:k∈(if(ix s.1 e.Obj).State=1 then K9 (e.Kind==4) hd else(ix s.1 e.Obj).AF.filter (K9 (e.Kind==4) hd).contains):=by
         split
         . exact m
         . rename_i j;rcases h.1 with g|g|g
           . exact absurd (.inl g) hn
           . exact absurd g j
           . exact List.mem_filter.2 ⟨g,by simpa using m⟩
        refine⟨?_,.inr o⟩;have:((if(ix s.1 e.Obj).State=1 then K9 (e.Kind==4) hd else(ix s.1 e.Obj).AF.filter (K9 (e.Kind==4) hd).contains).length:Int)≠0:=by have:=List.length_pos_of_mem o;omega
        simp only[Bool.and_eq_false_iff,ABI];exact .inr this
     unfold DI;dsimp only;rw[xL (by rw[r.a];exact hi),AAK (by rw[n.1];simp)];exact⟨n.2.elim (λg=>.inr (.inl g)) λg=>.inr (.inr g),h.2⟩
   . unfold DI;dsimp only;rw[aK ah ah b];refine⟨h.1,?_⟩;split
     . rw[aK ah ah b];exact h.2
     . exact h.2
 . exact h
end
variable{y:World}
section
open Go.Proofs Go.RowKit
set_option maxRecDepth 100000
set_option maxHeartbeats 4000000
theorem lE{a:Type}{e:a->List AV}{ok:a->Prop}:∀(rows:dn),(∀row∈rows,∃x:a,row=e x/\ok x)->∃l:List a,rows=l.map e/\∀x∈l,ok x
 |[],_=>⟨[],rfl,λ_ h=>by simp at h⟩
 |r::rs,h=>by
  obtain⟨l,d,f⟩:=lE rs (λrow g=>h row (by simp[g]));obtain⟨x,i,b⟩:=h r ak;refine⟨x::l,by rw[i,d];rfl,λy c=> ?_⟩;rcases AAn.1 c with rfl|c
  . exact b
  . exact f y c
def N5(x:Int):Prop:=(Lit.int .u8 x).wf=true
structure Jq (x:List Int):Prop where
 len:x.length*1<=reachBytes
 all:∀y∈x,N5 y
structure dV (x:M8):Prop where
 f0:Jq x.Program
 f1:Jq x.FM
 f2:Jq x.fY
 f3:N5 x.Bq
 f4:N5 x.Zp
def op5:OL Tryz.prog 5 (λa=>∃x:Int,a=[.sc (.int .u8 x)]/\N5 x):=(yD Tryz.underlying5).mono λ_ ⟨n,h,b⟩=>⟨n,h,b⟩
theorem op22:OL Tryz.prog 22 (λb=>∃x:List Int,b=[.sl false 1 (x.map cZ)]/\Jq x):=by
 refine(kI (k:=1) Tryz.underlying22 (by kernel_rfl) ah op5).mono ?_;rintro b ⟨rows,rfl,f,c⟩;obtain⟨l,rfl,d⟩:=lE (e:=cZ) (ok:=N5) rows λrow h=>(f row h).1;have a:Tryz.prog.bytesOf 5=1:=by kernel_rfl
 rw[a,AAo]at c;exact⟨l,rfl,c,d⟩
theorem op24:OL Tryz.prog 24 (λa=>∃x:M8,a=iV x/\dV x):=by refine(dY (Xs:=[λa=>∃x:List Int,a=[.sl false 1 (x.map cZ)]/\Jq x,λa=>∃x:List Int,a=[.sl false 1 (x.map cZ)]/\Jq x,λa=>∃x:List Int,a=[.sl false 1 (x.map cZ)]/\Jq x,λa=>∃x:Int,a=[.sc (.int .u8 x)]/\N5 x,λa=>∃x:Int,a=[.sc (.int .u8 x)]/\N5 x]) Tryz.underlying24 ⟨by kernel_rfl,op22,⟨by kernel_rfl,op22,⟨by kernel_rfl,op22,⟨by kernel_rfl,op5,⟨by kernel_rfl,op5,trivial⟩⟩⟩⟩⟩ (by kernel_rfl)).mono ?_;rintro a ⟨a0,p,rfl,⟨g,rfl,b⟩,⟨l,q,rfl,⟨h,rfl,c⟩,⟨m,r,rfl,⟨i,rfl,d⟩,⟨n,s,rfl,⟨j,rfl,e⟩,⟨o,t,rfl,⟨k,rfl,f⟩,rfl⟩⟩⟩⟩⟩;exact⟨⟨g,h,i,j,k⟩,rfl,⟨b,c,d,e,f⟩⟩
theorem arg24(a:dm):gN Tryz.prog 24 a= .agg a:=by unfold gN;rw[Tryz.underlying24];rfl
theorem laid:laidOutB Tryz.prog=true:=by kernel_rfl
theorem own0:ownKnob Tryz.prog.godebug=none:=by kernel_rfl
abbrev jZ:List (String×DataW Unit):=[("interleave/token.keywords",Go.Proofs.YtdojkofgkcmagaaGreatDoor.Rows.laid_interleave_token_keywords)]
theorem gName:Tryz.prog.globalNamed "interleave/token.keywords" =some 0:=by kernel_rfl
theorem gType:(Tryz.prog.globals[0]?).map (·.type)=some 293:=by kernel_rfl
theorem xT:(Go.Proofs.YtdojkofgkcmagaaGreatDoor.Rows.laid_interleave_token_keywords:DataW Unit)= .agg (Ld.map λs=>.lit (.string s.data.toList)):=rfl
theorem oW(h:laidMetH Tryz.prog jZ y):GI y (Old y):=by
 rw[MakeChecks.laidMetH_plain _ _ _ (by kernel_rfl)]at h;obtain⟨G,⟨g0,I,c,f0,F,H,i,n,o,f,_,_⟩,_,_⟩:=h;obtain rfl:=AAG (gName.symm.trans i);obtain rfl:=AAG (gType.symm.trans n);obtain⟨w,m,rfl,p,t,hn,g⟩:=DataW.trod_array Tryz.underlying293 f;have ce:Tryz.prog.cellsOf 9=1:=by kernel_rfl
 rw[xT]at p;simp only[AAQ,DataW.agg.injEq]at p;have r:∀(j:Nat) s,Ld[j]? =some s->y.cell? ⟨0,j,none⟩=some (.string s):=by
  intro j s b;have k:j<22:=by have:=(AAE.1 b).1;exact this
  have a:(w.map (·.1))[j]? =some (.lit (.string s.data.toList)):=by rw[<- p.1,AAN,b];rfl
  rw[AAN]at a;cases hxs:w[j]? with
  |none=>rw[hxs]at a;cases a
  |some W=>have u:=g j k;rw[hxs,ce]at u;obtain⟨e,B,D,_⟩:=DataW.trod_string Tryz.underlying9 u;rw[hxs]at a;simp only[AAf,AAC]at a;rw[D]at a;simp only[DataW.lit.injEq,Lit.string.injEq]at a;have l:e=s:=ByteArray.ext (Array.toList_inj.1 a);subst l;rw[World.var?_cell gName o j];have:(c.toList.drop (j*1)).take 1=[.string e]:=B;rw[Nat.mul_one]at this;have d:c.toList[j]? =some (.string e):=(by have C:((c.toList.drop j).take 1)[0]? =some (.string e):=(by rw[this];rfl);simpa using C);simpa using d
 intro x q;have:x=(0,Ld.map Value.string):=by simpa[Gam]using q
 subst this;have d:=r 0 _ rfl;obtain⟨_,z⟩:=rS d;refine⟨z,?_⟩;unfold World.cell? at d;cases hb:y.heap[0]? with
 |none=>simp[hb]at d
 |some MD=>
  cases MD with
  |cells arr E fz=>
   refine⟨arr,E,fz,rfl,λj v b=> ?_⟩;rw[AAN]at b;cases hs:Ld[j]? with
   |none=>rw[hs]at b;cases b
   |some s=>
    rw[hs]at b;simp only[AAf,AAC]at b;subst b
    have:=r j s hs;unfold World.cell? at this;simpa[hb]using this
  |_=>simp[hb]at d
end
theorem u8_of(h:N5 t):0<=t/\t<256:=by unfold N5 Lit.wf at h;simp only[AAD,AAV]at h;have c:=h.1;have d:=h.2;have a:IntKind.u8.min=0:=rfl;have b:IntKind.u8.max=255:=rfl;omega
theorem true_of{o:ABd Bool}(h:CD o λb=>b=true):o=some true:=by obtain⟨b,h,rfl⟩:=h;exact h
def Xu(h:Jq l):RE l:=λx a=>u8_of (h.all x a)
theorem len_in(h:Jq l):l.length<=4000000000000000000:=by have:=h.len;unfold reachBytes at this;omega
def view_in(h:dV v):mX v:=⟨Xu h.f0,Xu h.f1,Xu h.f2,u8_of h.f3,u8_of h.f4⟩
def LWindow_law(h:dV v):HJ v=some true:=true_of (LWindow_tot (view_in h) (len_in h.f0))
end Go.Abs
