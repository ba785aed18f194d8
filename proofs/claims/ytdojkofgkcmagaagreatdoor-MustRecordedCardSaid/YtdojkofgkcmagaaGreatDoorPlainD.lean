/- What the typed programs give, in plain Lean. -/
import Derived.Test.YtdojkofgkcmagaaGreatDoorWalkU
import Derived.Test.YtdojkofgkcmagaaGreatDoorPlainC
import Derived.Shelf.Slices.SearchI
set_option linter.all false
namespace Go.Abs
variable{i n j:Nat}{p:AY}{t o a b k:Int}{S m:nl}{l:ma}{u:Ak}{R:mq}{wv:AG}{c f:i6}{s:AD}{v:AZ}{y:kx}{w:AE}{e:AH}
section
set_option maxHeartbeats 4000000
section
variable{T:lp}
def Qq:Nat->List AU->Nat|0,_=>0|d+1,l=>(l.map λs=>1+Qq d s.dz+Qq d s.ed).sum
theorem sum_le{l:ju}{k:Nat}(h:∀x∈l,x<=k):l.sum<=l.length*k:=by induction l with|nil=>simp|cons x r ih=>have b:=h x ABD;have c:=ih λy a=>h y (ABH _ a);rw[List.sum_cons,ABL,ABh];omega
theorem nR(d:Nat):∀l,Va T d l->Qq d l<=10*Il d:=by induction d with|zero=>exactλ_ _=>Nat.zero_le _|succ d ih=>intro l ⟨h1,h2⟩;have f:Il (d+1)=1+20*Il d:=rfl;refine ABB (sum_le (k:=Il (d+1)) ?_) (by rw[AAt];exact AA1 _ h1);intro x b;obtain⟨s,a,rfl⟩:=ABZ.1 b;have c:=ih _ (h2 s a).body;have e:=ih _ (h2 s a).els;omega
theorem dK{l:kf}(h:i<l.length)(f:AU->Nat):((l.take (i+1)).map f).sum=((l.take i).map f).sum+f l[i]:=by rw[<- AAe h,AAu,List.sum_append];simp
theorem OM(l:kf)(i:Nat)(f:AU->Nat):((l.take i).map f).sum<=(l.map f).sum:=by
 conv=>rhs;rw[<- ABE i l,AAu,List.sum_append]
 omega
theorem cst_le{d:Nat}(h:d<=4):Il d<=8421:=by have:d=0\/d=1\/d=2\/d=3\/d=4:=ah;rcases this with rfl|rfl|rfl|rfl|rfl<;>decide
theorem Count_eq(d:Nat):∀(n:Nat)(l:kf),d<=4->d+1<=n->Va T d l->Bp (HY n l) λr=>r=(Qq d l:Int):=by induction d with|zero=>intro n l _ hn ⟨_,h⟩;obtain⟨n,rfl⟩:∃k,n=k+1:=⟨n-1,ah⟩;have:l=[]:=AA0.2 λx a=>(h x a).elim;subst this;show Bp (DZ (HY n) []) _;exact tR rfl|succ d ih=>intro n l hd hn ⟨h1,h2⟩;obtain⟨n,rfl⟩:∃k,n=k+1:=⟨n-1,ah⟩;show Bp (DZ (HY n) l) _;unfold DZ;have t:=cst_le (d:=d) ah;have g:=nR (T:=T) (d+1) l ⟨h1,h2⟩;have o:=cst_le hd;let f:AU->Nat:=λs=>1+Qq d s.dz+Qq d s.ed;refine Ru l.length (λi (s:Int)=>s+i=((l.take i).map f).sum+l.length) (F:=λn s i=>DZ.AR _ l n s i) ah ak λm i s hi y k=>?_;unfold DZ.AR DZ.L1 DZ.J1;have w:=OM l i f;have C:Qq (d+1) l=(l.map f).sum:=rfl;refine tD (λj=>kV ah ?_) λ_=>tR ?_;have a:l[i]∈l:=AAS ah;have b:=(h2 _ a).body;have c:=(h2 _ a).els;have p:=nR d _ b;have q:=nR d _ c;have e:=OM l (i+1) f;have st:=dK ah f (i:=i) (l:=l);refine tB (ih n _ ah ah b) λv B=>tB (ih n _ ah ah c) λu z=>k _ ah ?_;rw[CD (n:=s+v) ah ah,CD ah ah,st];grind;grind
theorem kU{l:List DM}(h:i<l.length)(f:DM->Nat):((l.take (i+1)).map f).sum=((l.take i).map f).sum+f l[i]:=by rw[<- AAe h,AAu,List.sum_append];simp
theorem check60(h:MP p):Bp (BT p) λr=>r.1=0->(p.AA.map λt=>Qq 4 t.dz).sum<=60:=by
 have hd:=h.dl;have j:=h.t;have D:Il 4=8421:=rfl;have N:∀{a b:Int}{P:Prop},(a != 0)->Bp (some (a,b)) λr:Int×Int=>r.1=0->P:=λh=>tR λB=>am;unfold BT;refine Ji (ZS h) λ_=>tI (λ_=>N rfl) λ_=>Ji (iX h) λ_=>tI (λh=>N h) λ_=>tI (λ_=>N rfl) λ_=>Ji (X6 h) λ_=>tI (λh=>N h) λ_=>?_;let f:DM->Nat:=λt=>Qq 4 t.dz;have c:∀t∈p.AA,f t<=84210:=λt j=>by have:=nR 4 _ (h.b t j);grind
 refine Ru p.AA.length (λi (s:Int)=>s=((p.AA.take i).map f).sum/\s<=i*84210) (F:=λn s i=>BT.AR p n s i) ah ak λm i s hi g k=>?_;unfold BT.AR BT.L1 BT.J1;refine tD (λ_=>kV ah (tB (Count_eq 4 _ _ ah (Nv ah) (h.b _ (AAS ah))) λv o=>k _ ah ?_)) λE=>tD (λ_=>N rfl) λu=>?_;have st:=kU (l:=p.AA) (i:=i) ah f;have C:=c _ (AAS (show i<p.AA.length by omega));have e:f p.AA[i]=Qq 4 p.AA[i].dz:=rfl;rw[CD ah ah,st];omega;have d:i=p.AA.length:=ah;rw[d,List.take_length]at g;have q:(p.AA.map f).sum<=60:=ah;refine Ru p.AA.length (λi w=>WK p 0 (i*84210) w) (F:=λn s i=>BT.Bs p n s i) ah ⟨rfl,rfl,ak,ak⟩ λm i s hi c k=>?_;unfold BT.Bs BT.L2 BT.J2;refine tD (λz=>tG ah λx y=>?_) λ_=>tR λ_=>q;refine tB (zJ h 4 _ 0 (i*84210) _ _ (Nv ah) ah ah ⟨c.p,c.a,c.s,c.t⟩ (h.b x y)) λv o=>tI (λh=>N h) λ_=>k _ ah (o.mono ah)
def SN(t nv:Int)(l:nl):Prop:=∀(j:Nat) x,l[j]? =some x->x.db=t/\x.eA=nv+j
theorem SN.app(h:SN t o S)(g:SN t (o+S.length) m):SN t o (S++m):=by intro j x c;by_cases e:j<S.length;rw[AAq e]at c;exact h j x c;rw[AAp ah]at c;have:=g _ x c;omega
theorem SN.one:SN t a [⟨t,a,o⟩]:=by intro j x b;grind
theorem sites_ok(d:Nat):∀(n:Nat)(o:nl)(t a:Int)(l:kf),d+1<=n->o.length+Qq d l<=900000->(0<=a/\a+Qq d l<=900000)->Va T d l->Bp (HZ n o t a l) λr=>∃S,r.1=o++S/\S.length=Qq d l/\SN t a S/\r.2=a+Qq d l:=by induction d with|zero=>intro n o t a l hn _ _ ⟨_,h⟩;obtain⟨n,rfl⟩:∃k,n=k+1:=⟨n-1,ah⟩;have:l=[]:=AA0.2 λx b=>(h x b).elim;subst this;show Bp (Da (HZ n) o t a []) _;exact tR ⟨[],ak,rfl,λj x b=>by simp at b,by simp[Qq]⟩|succ d ih=>intro n o t a l hn I J ⟨h1,h2⟩;obtain⟨n,rfl⟩:∃k,n=k+1:=⟨n-1,ah⟩;show Bp (Da (HZ n) o t a l) _;unfold Da;let f:AU->Nat:=λs=>1+Qq d s.dz+Qq d s.ed;have K:Qq (d+1) l=(l.map f).sum:=rfl;refine Ru l.length (λi (s:List Eb×Int)=>∃S,s.1=o++S/\S.length=((l.take i).map f).sum/\SN t a S/\s.2=a+((l.take i).map f).sum) (F:=λm s i=>Da.AR _ l t m s.1 s.2 i) (s0:=(o,a)) ah ⟨[],ak,rfl,λj x b=>by simp at b,ak⟩ λm i s hi C k=>?_;obtain⟨S,w,c,y,p⟩:=C;unfold Da.AR Da.L1 Da.J1;refine tD (λG=>kV ah ?_) λL=>?_;have st:=dK (l:=l) (i:=i) ah f;have B:=OM l (i+1) f;have b:l[i]∈l:=AAS ah;have H:f l[i]=1+Qq d l[i].dz+Qq d l[i].ed:=rfl;have q:s.1.length=o.length+((l.take i).map f).sum:=(by rw[w,AAx,c]);refine tC (Bq ah) ?_;rw[p,CD (n:=a+((l.take i).map f).sum+1) ah ah];refine tB (ih n _ t _ _ ah an ah (h2 _ b).body) λv g=>?_;obtain⟨S2,Q,R,E,U⟩:=g;refine tB (ih n _ t _ _ ah aA ah (h2 _ b).els) λu D=>?_;obtain⟨z,M,N,O,P⟩:=D;refine k (_,_) ah ⟨S++([⟨t,a+((l.take i).map f).sum,l[i].Gd⟩]++(S2++z)),?_,?_,?_,?_⟩;simp_all;grind;refine y.app ?_;rw[c];refine SN.one.app ?_;rw[show a+((l.take i).map f).sum+(([⟨t,a+((l.take i).map f).sum,l[i].Gd⟩]:List Eb).length:Int)=a+((l.take i).map f).sum+1 from by simp];refine E.app ?_;simp_all;omega;have e:i=l.length:=ah;subst e;rw[List.take_length]at c p;exact tR ⟨S,w,c,y,p⟩
end
section
variable{T:lp}{g h r:BW}{lo hi lo' hi':Int}
def BS(T:lp)(R:mq)(l:kf)(n:Nat):Prop:=∀g,GW T g->(0<=g.next/\g.next+n<=1000000)->NZ (R g l) λr=>GV g r g.next (g.next+n)/\r.next=g.next+n
def SU{k:ma}(h:i<l.length):(l++k)[i]? =l[i]? :=AAq h
theorem Y9:(l++[u])[l.length]? =some u:=ak
theorem u7{s:AU}(o:GW T g)(j:lo<=g.dy/\g.dy<hi)(hn:0<=g.next/\g.next+n<=1000000)(c:lo<=g.next)(q:g.next+n<=hi)(m:BS T R s.dz n)(x:11<=a/\a<=25)(y:11<=b/\b<=25)(i:∀p S,p=a\/p=b->AO g.w ⟨p,t,0,0,0,S⟩=some true):NZ (Di R g s a b t) λr=>GV g r lo hi/\r.next=g.next+n:=by unfold Di;refine pB (put_par (lo:=lo) (hi:=hi) ⟨aS,i _ _ (.inl rfl),by rw[rg0 aS];simp,j,aS,aS⟩ aS) λv d=>?_;have e:=m v (o.next d.1) (by rw[d.2.2];exact hn);rw[d.2.2]at e;refine pB e λu k=>?_;have f:=d.1.trans (k.1.mono c q);have l:=f.dy g.dy u.next;refine pM (Jb (lo:=lo) (hi:=hi) ⟨aS,?_,by rw[rg0 aS];simp,j,aS,aS⟩ aS) λ_ h=>⟨l.trans h.1,h.2.2.trans k.2⟩;simp only;rw[f.w];exact i _ _ (.inr rfl)
theorem lN{s:AU}(E:GW T g)(N:lo<=g.dy/\g.dy<hi)(hn:0<=g.next/\g.next+n+i<=1000000)(hl:lo<=g.next)(hh:g.next+n+i<=hi)(M:VZ 2 s.dX)(hR:BS T R s.dz n)(hE:BS T R s.ed i)(h3:s.Op=3->i=0)(h0:s.ed=[]->i=0):NZ (DR R g s) λr=>GV g r lo hi/\r.next=g.next+n+i:=by
 have W:(g.du.length:Int)=2:=by rw[E.l];rfl
 unfold DR;rw[W];refine pB (WU M E N ah) λd hd=>?_;have dL:(d.du.length:Int)=2:=by rw[hd.1.l];exact W
 rw[dL];refine pB (put_eq _) λq hq=>?_;have LN:d.dy=g.dy:=hd.2.1;have u:d.next=g.next:=hd.2.2;subst hq;have G:=E.next hd.1;have j:=hR ⟨d.w,d.du,d.dx++[⟨10,2,0,0,0,d.dy⟩],d.dy,d.next⟩ ⟨G.w,G.l⟩ (by simp only;rw[u];omega);refine pB j λb t=>?_;obtain⟨t,D⟩:=t;simp only at D;rw[u]at D;have t:=t.mono (lo':=lo) (hi':=hi) (by simp only;rw[u];exact hl) (by simp only;rw[u];omega);have q1:=hd.1.n;have b1:d.dx.length+1<=b.dx.length:=by have:=t.n;simpa using this
 have I:∀m,m<d.dx.length+1->b.dx[m]? =(d.dx++[(⟨10,2,0,0,0,d.dy⟩:Ak)])[m]? :=λm hi=>t.p m (by simpa using hi);have S:SG d.w lo hi b.dx (d.dx.length+1) b.dx.length b.dx.length:=by have:=t.s;simpa using this
 have C:b.w=g.w:=t.w.trans hd.1.w;have H:b.du=g.du:=t.l.trans hd.1.l;have dw:=hd.1.w;rw[dw]at S;have val:∀(F:ma),b.dx.length<=F.length->(∀m,m<d.dx.length->F[m]? =b.dx[m]?)->SG g.w lo hi F g.dx.length d.dx.length F.length:=λF f1 f2=>hd.1.s.frame (λm _ hi=>by rw[f2 m hi,I m ah,SU hi]) ah ah ah ah;have pre:∀(F:ma),(∀m,m<d.dx.length->F[m]? =b.dx[m]?)->∀m,m<g.dx.length->F[m]? =g.dx[m]? :=λF f2 m hi=>by rw[f2 m ah,I m ah,SU ah,hd.1.p m hi]
 have v:∀(F:ma)(c:Nat),b.dx.length<=F.length->b.dx.length<=c->(∀m,d.dx.length<m->m<b.dx.length->F[m]? =b.dx[m]?)->SG g.w lo hi F (d.dx.length+1) b.dx.length c:=λF c f1 f3 f2=>S.frame (λm j o=>(f2 m ah o).symm) f1 ah ah f3;have J:∀(c:Nat)(B:Nat),B<=c->LV g.w lo hi c ⟨10,2,(B:Int),0,0,d.dy⟩:=λc B V=>⟨ak,xY ak,by rw[rg10 rfl];exact mR (x:=0) ak,by simp only;rw[LN];exact N,ak,λ_=>aS⟩;have Z:∀(c:Nat)(A:Nat),A<=c->LV g.w lo hi c ⟨5,(A:Int),0,0,0,g.dy⟩:=λc A U=>⟨ak,xY ak,by rw[rg0 (.inl rfl)];simp,N,λ_=>aS,ak⟩;have bd:b.dx[d.dx.length]? =some ⟨10,2,0,0,0,d.dy⟩:=by rw[I _ ah];exact Y9
 refine pI (λh=>?_) λKK=>pI (λh=>?_) λX=>?_;have hm:=h3 (eq_of_beq h);refine pB (put_eq _) λe M=>?_;subst M;refine pE (y:=⟨10,2,0,0,0,d.dy⟩) (by rw[Jv];simp only;rw[SU (by omega)];exact bd) (pR ⟨?_,aS⟩);simp only;generalize a:(b.dx++[(⟨5,(g.dx.length:Int),0,0,0,g.dy⟩:Ak)]).set d.dx.length ⟨10,2,((b.dx++[(⟨5,(g.dx.length:Int),0,0,0,g.dy⟩:Ak)]).length:Int),0,0,d.dy⟩=F;have fl:F.length=b.dx.length+1:=(by rw[<- a];simp);have f1:∀m,m≠d.dx.length->m<b.dx.length->F[m]? =b.dx[m]? :=λm j o=>(by rw[<- a,AAV (by omega),SU o]);have f2:F[d.dx.length]? =some ⟨10,2,((b.dx.length+1:Nat):Int),0,0,d.dy⟩:=(by rw[<- a,AAN (by simp;omega)];simp);have f3:F[b.dx.length]? =some ⟨5,(g.dx.length:Int),0,0,0,g.dy⟩:=(by rw[<- a,AAV (by omega)];exact Y9);refine⟨C,H,aS,pre F λm hi=>f1 m ah ah,?_⟩;simp only;have:=SG.back (val F ah λm hi=>f1 m ah ah) f2 (J _ _ ah) rfl (v F F.length ah ah λm j o=>f1 m ah o) f3 (Z _ _ ah) rfl rfl;rw[fl]at this |-;exact this;have hm:i=0:=h0 (by have:=eq_of_beq h;exact List.length_eq_zero_iff.1 (by omega));refine pE (y:=⟨10,2,0,0,0,d.dy⟩) (by rw[Jv];exact bd) (pR ⟨?_,aS⟩);simp only;generalize a:b.dx.set d.dx.length ⟨10,2,(b.dx.length:Int),0,0,d.dy⟩=F;have fl:F.length=b.dx.length:=(by rw[<- a];simp);have f1:∀m,m≠d.dx.length->F[m]? =b.dx[m]? :=λm j=>(by rw[<- a,AAV (by omega)]);have f2:F[d.dx.length]? =some ⟨10,2,(b.dx.length:Int),0,0,d.dy⟩:=(by rw[<- a,AAN (by omega)]);refine⟨C,H,aS,pre F λm hi=>f1 m ah,?_⟩;simp only;have:=((val F ah λm hi=>f1 m ah).app (SG.one f2 (J _ _ ah) ak)).app (v F F.length ah ah λm j o=>f1 m ah);rw[fl]at this |-;exact this;refine pB (put_eq _) λf hf=>?_;subst hf;refine pE (y:=⟨10,2,0,0,0,d.dy⟩) (by rw[Jv];simp only;rw[SU (by omega)];exact bd) ?_;simp only;generalize a:(b.dx++[(⟨5,0,0,0,0,g.dy⟩:Ak)]).set d.dx.length ⟨10,2,((b.dx++[(⟨5,0,0,0,0,g.dy⟩:Ak)]).length:Int),0,0,d.dy⟩=F;have fl:F.length=b.dx.length+1:=(by rw[<- a];simp);have f1:∀m,m≠d.dx.length->m<b.dx.length->F[m]? =b.dx[m]? :=λm j o=>(by rw[<- a,AAV (by omega),SU o]);have f2:F[d.dx.length]? =some ⟨10,2,((b.dx.length+1:Nat):Int),0,0,d.dy⟩:=(by rw[<- a,AAN (by simp;omega)];simp);have f3:F[b.dx.length]? =some ⟨5,0,0,0,0,g.dy⟩:=(by rw[<- a,AAV (by omega)];exact Y9);have h4:=hE ⟨b.w,b.du,F,g.dy,b.next⟩ ⟨by simp only;rw[C];exact E.w,H.trans E.l⟩ aS;refine pB h4 λm hi=>?_;obtain⟨z,Mw⟩:=hi;simp only at Mw;have z:=z.mono (lo':=lo) (hi':=hi) aS aS;have i1:b.dx.length+1<=m.dx.length:=(by have:=z.n;simp only[fl]at this;exact this);have O:∀k,k<b.dx.length+1->m.dx[k]? =F[k]? :=λk hk=>z.p k (by simp only[fl];exact hk);have is:SG g.w lo hi m.dx (b.dx.length+1) m.dx.length m.dx.length:=(by have:=z.s;simp only[fl,C]at this;exact this);refine pE (y:=⟨5,0,0,0,0,g.dy⟩) (by rw[Jv,O _ (by omega)];exact f3) (pR ⟨?_,aS⟩);simp only;generalize L:m.dx.set b.dx.length ⟨5,(m.dx.length:Int),0,0,0,g.dy⟩=K;have kl:K.length=m.dx.length:=(by rw[<- L];simp);have P:∀k,k≠b.dx.length->K[k]? =m.dx[k]? :=λk j=>(by rw[<- L,AAV (by omega)]);have Q:∀k,k≠d.dx.length->k<b.dx.length->K[k]? =b.dx[k]? :=λk j o=>(by rw[P k (by omega),O k (by omega),f1 k j o]);have k3:K[d.dx.length]? =some ⟨10,2,((b.dx.length+1:Nat):Int),0,0,d.dy⟩:=(by rw[P _ (by omega),O _ (by omega)];exact f2);have k4:K[b.dx.length]? =some ⟨5,(m.dx.length:Int),0,0,0,g.dy⟩:=(by rw[<- L,AAN (by omega)]);refine⟨z.w.trans C,z.l.trans H,aS,pre K λm hi=>Q m ah ah,?_⟩;simp only;have U:=((val K ah λm hi=>Q m ah ah).app (SG.one k3 (J _ _ ah) ak)).app (v K K.length ah ah λm j o=>Q m ah o);have V:SG g.w lo hi K (b.dx.length+1) m.dx.length K.length:=is.frame (λk j _=>(P k ah).symm) ah ah ah ah;have:=U.jump k4 (Z _ _ ah) rfl rfl V;rw[kl]at this |-;exact this
theorem szs_nil(d:Nat):Qq d []=0:=by cases d<;>rfl
end
section
variable{T:lp}{g h r:BW}{lo hi lo' hi':Int}
theorem lS(h:g.w.Al=[⟨cN,0⟩]):Cw g cN=some (0,g):=by unfold Cw;have a:=BK;obtain⟨n,hn⟩:∃n,BQ=n+1:=⟨BQ-1,ah⟩;rw[hn];unfold Cw.AR Cw.L1;rw[h];simp[gt]
theorem At_par{l:jt}{s:ABj}(e:l.length<1000000):NZ (Cv l s) λr=>s∈l->0<=r/\r<l.length:=by unfold Cv;refine pLs l.length (λi (_:Unit)=>∀j:Nat,j<i->l[j]? ≠some s) (s0:=()) (F:=λn _ i=>Cv.AR l s n i) (λ_ _=>rfl) ah (λj d=>ah) λn i _ hi f k=>?_;unfold Cv.AR Cv.L1 Cv.J1;refine pD (λb=>pE (Bm ah) (pI (λ_=>pR λ_=>ah) λc=>k () ah ?_)) λh=>pR λa=>?_;grind;obtain⟨j,j1,g⟩:=ABM a;grind
theorem stmt_par{s:AU}(m:GW T g)(u:JJ T (n+1) s)(hn:0<=g.next/\g.next+(1+i+j)<=1000000)(hB:BS T R s.dz i)(hE:BS T R s.ed j)(b0:s.dz=[]->i=0)(e0:s.ed=[]->j=0):NZ (C4 (DR R) (Di R) g s) λr=>GV g r g.next (g.next+(1+i+j))/\r.next=g.next+(1+i+j):=by
 have hw:A8 (g.next+1)=g.next+1:=CD ah ah;have bd:=u.2.2.2.2.2.2.2.2.1;have nm:=u.2.2.2.2.2.2.2.2.2;have nB:s.Op∉[(2:Int),3,4,5,6,7,8]->i=0:=λh=>b0 (bd.1 h);have K:s.Op≠2->j=0:=λh=>e0 (bd.2 h);unfold C4;rw[hw];generalize o:BW.mk g.w g.du g.dx g.next (g.next+1)=g1;have I:GW T g1:=by rw[<- o];exact⟨m.w,m.l⟩
 have gs:g1.dy=g.next:=by rw[<- o]
 have H:g1.next=g.next+1:=by rw[<- o]
 have E:g1.w=g.w:=by rw[<- o]
 have gl:(g1.du.length:Int)=2:=by rw[I.l];rfl
 have up:∀{r lo hi},GV g1 r lo hi->GV g r lo hi:=λh=>by rw[<- o]at h;exact⟨h.w,h.l,h.n,h.p,h.s⟩
 have si:g.next<=g1.dy/\g1.dy<g.next+(1+i+j):=by rw[gs];omega
 have P:∀B:Ak,s.Op∉[(2:Int),3,4,5,6,7,8]->LV g1.w g.next (g.next+(1+i+j)) (g1.dx.length+1) ⟨B.Op,B.A,B.B,B.C,B.N,g1.dy⟩->B.Op≠5->NZ ((BU g1 B).bind λv=>some v) λr=>GV g r g.next (g.next+(1+i+j))/\r.next=g.next+(1+i+j):=by intro B F J h3;have z1:=nB F;have z2:=K (by intro h;rw[h]at F;simp at F);exact pM (Jb J h3) λr h=>⟨up h.1,by rw[h.2.2,H];omega⟩
 have A:∀{a b c:Int},s.Op≠2->11<=a/\a<=25->11<=b/\b<=25->(∀p S,p=a\/p=b->AO g1.w ⟨p,c,0,0,0,S⟩=some true)->NZ ((Di R g1 s a b c).bind λv=>some v) λr=>GV g r g.next (g.next+(1+i+j))/\r.next=g.next+(1+i+j):=by intro a b c J ha O V;have z2:=K J;exact pB (u7 (lo:=g.next) (hi:=g.next+(1+i+j)) I si ah ah ah hB ha O V) λr h=>pR ⟨up h.1,by rw[h.2,H];omega⟩
 have lk:g.w.AK=aT:=m.w.l;have j1:∀b,(b=true->s.Op=2\/s.Op=3)->(b=false->s.Op≠1/\s.Op≠2/\s.Op≠3)->NZ (C4.J1 (DR R) (Di R) g s b) λr=>GV g r g.next (g.next+(1+i+j))/\r.next=g.next+(1+i+j):=by
  intro b O Q;unfold C4.J1;rw[hw,o];refine pI (λh=>?_) λh0=>?_;have V:=O h;have U:VZ 2 s.dX:=u.2.2.1.resolve_right λh=>h.1 (by rcases V with h|h<;>simp[h]);exact pB (lN (lo:=g.next) (hi:=g.next+(1+i+j)) I si ah ah ah U hB hE (λh=>K ah) e0) λr h=>pR ⟨up h.1,by rw[h.2,H];omega⟩;have n0:=Q h0;refine pI (λh=>?_) λn4=>pI (λh=>?_) λn5=>pI (λh=>?_) λn6=>pI (λh=>?_) λn7=>pI (λh=>?_) λn8=>?_;(have h:=eq_of_beq h;rw[lk];rcases nm.2.1 h with F|F<;>rw[F]);exact pE (y:=0) (by decide +kernel) (A ah ah ah λp S G=>objM aS (y:=⟨⟨#[109]⟩,false⟩) (by rw[E,lk];rfl) rfl);exact pE (y:=1) (by decide +kernel) (A ah ah ah λp S G=>objM aS (y:=⟨⟨#[110]⟩,false⟩) (by rw[E,lk];rfl) rfl);have h:=eq_of_beq h;rw[lk,nm.2.2.1 (.inl h)];exact pE (y:=2) (by decide +kernel) (A ah ah ah λp S G=>objR aS (y:=⟨⟨#[114]⟩,true⟩) (by rw[E,lk];rfl) rfl);have h:=eq_of_beq h;rw[lk,nm.2.2.1 (.inr h)];exact pE (y:=2) (by decide +kernel) (A ah ah ah λp S G=>objR aS (y:=⟨⟨#[114]⟩,true⟩) (by rw[E,lk];rfl) rfl);have h:=eq_of_beq h;exact A ah ah ah λp S G=>xY (by rcases G with h|h<;>simp[h]);have h:=eq_of_beq h;exact A ah ah ah λp S G=>xY (by rcases G with h|h<;>simp[h]);simp only[ABQ,ne_eq]at n4 n5 n6 n7 n8;have D:s.Op∉[(2:Int),3,4,5,6,7,8]:=an;have L:∀{p c e:Int},11<=p/\p<=25->AO g1.w ⟨p,c,0,0,0,g1.dy⟩=some true->LV g1.w g.next (g.next+(1+i+j)) (g1.dx.length+1) ⟨p,c,0,0,0,g1.dy⟩:=λF J=>⟨aS,J,by rw[rg0 aS];simp,si,aS,aS⟩;have M:g1.w.Al=[⟨cN,0⟩]:=by rw[E];exact m.w.d
  have Hm:(g1.w.Al.length:Int)=1:=by rw[M];rfl
  refine pI (λh=>?_) λn9=>pI (λh=>?_) λW=>pI (λh=>?_) λX=>pI (λh=>?_) λZ=>pI (λh=>?_) λn13=>pI (λh=>?_) λn14=>pI (λh=>?_) λn15=>?_;rw[u.2.2.2.1 (by simp[eq_of_beq h])];exact pE (lS M) (P ⟨21,0,0,0,0,0⟩ D (L (e:=0) ak (objC (.inl rfl) aS)) ak);rw[u.2.2.2.1 (by simp[eq_of_beq h])];exact pE (lS M) (P ⟨22,0,0,0,0,0⟩ D (L (e:=0) ak (objC (.inr (.inl rfl)) aS)) ak);rw[u.2.2.2.1 (by simp[eq_of_beq h])];exact pE (lS M) (P ⟨23,0,0,0,0,0⟩ D (L (e:=0) ak (objC (.inr (.inr rfl)) aS)) ak);refine pB (At_par (by have:=m.w.n;omega)) λv z=>?_;have:=z (m.w.t _ (nm.2.2.2.1 (.inl (eq_of_beq h))));exact P ⟨24,v,0,0,0,0⟩ D (L (e:=0) ak (objT (.inl rfl) (by simp only;rw[E];exact this))) ak;refine pB (At_par (by have:=m.w.n;omega)) λv z=>?_;have:=z (m.w.t _ (nm.2.2.2.1 (.inr (eq_of_beq h))));exact P ⟨25,v,0,0,0,0⟩ D (L (e:=0) ak (objT (.inr rfl) (by simp only;rw[E];exact this))) ak;have h:=eq_of_beq h;have U:VZ 2 s.dX:=u.2.2.1.resolve_right λq=>q.1 (by simp[h]);have z1:=nB D;have z2:=K ah;rw[show(g.du.length:Int)=2 from by rw[m.l];rfl];refine pB (WU (lo:=g.next) (hi:=g.next+(1+i+j)) U I si ah) λv z=>?_;have hf:v.w.AL=[⟨#[102]⟩]:=(by rw[z.1.w,E];exact m.w.f);rw[hf,nm.2.2.2.2.1 h];refine pE (y:=0) (by decide +kernel) (pM (Jb ⟨ak,obj26 rfl (by rw[hf];simp),by rw[rg26 rfl];exact mR (x:=0) ak,by rw[z.2.1];exact si,ak,ak⟩ ak) λr h=>⟨up (z.trans h).1,by rw[h.2.2,z.2.2,H];omega⟩);have h:=eq_of_beq h;have hn:=nm.2.2.2.2.2 h;rw[m.l,m.w.f,hn.1,hn.2];refine pE (y:=0) (by decide +kernel) (pE (y:=0) (by decide +kernel) (P ⟨27,0,0,0,0,0⟩ D ⟨ak,obj27 rfl (by rw[E,m.w.f];simp),by rw[rg27 rfl];exact mR (x:=0) ak,si,ak,ak⟩ ak));have:=u.1;simp only[ABQ,ne_eq]at n9 W X Z n13 n14 n15;omega
 refine pI (λh=>?_) λn1=>pI (λh=>j1 _ (λ_=>.inl (eq_of_beq h)) λh'=>by rw[h']at h;cases h) λn2=>j1 _ (λh=>.inr (eq_of_beq h)) λh=>⟨by simpa using n1,by simpa using n2,by simpa using h⟩;have h:=eq_of_beq h;have z1:=nB (by rw[h];decide);have z2:=K ah;exact pB (vD (lo:=g.next) (hi:=g.next+(1+i+j)) I si u h) λr h=>pR ⟨up h.1,by rw[h.2.2,H];omega⟩
theorem stmts_par(d:Nat):∀(n:Nat)(l:kf),3*d+1<=n->Va T d l->BS T (D4 n) l (Qq d l):=by induction d with|zero=>intro n l hn ⟨_,h⟩ g hg c;obtain⟨n,rfl⟩:∃k,n=k+1:=⟨n-1,ah⟩;have:l=[]:=AA0.2 λx c=>(h x c).elim;subst this;show NZ (some g) _;exact pR ⟨GV.refl,by simp[Qq]⟩|succ d ih=>intro n l hn ⟨h1,h2⟩ g hg c;obtain⟨n,rfl⟩:∃k,n=k+3:=⟨n-3,ah⟩;show NZ (Ce (C4 (DR (D4 n)) (Di (D4 n))) g l) _;unfold Ce;let f:AU->Nat:=λs=>1+Qq d s.dz+Qq d s.ed;have t:Qq (d+1) l=(l.map f).sum:=rfl;refine pLs l.length (λi s=>GV g s g.next (g.next+((l.take i).map f).sum)/\s.next=g.next+((l.take i).map f).sum) (F:=λm s i=>Ce.AR _ l m s i) (λ_ _=>rfl) ah ⟨GV.refl,ak⟩ λm i s hi p k=>?_;obtain⟨a,e⟩:=p;unfold Ce.AR Ce.L1;refine pD (λq=>pE (Bm ah) ?_) λu=>?_;have st:=dK (l:=l) (i:=i) ah f;have o:=OM l (i+1) f;have b:l[i]∈l:=AAS ah;have r:f l[i]=1+Qq d l[i].dz+Qq d l[i].ed:=rfl;refine pB (stmt_par (hg.next a) (h2 _ b) ah (ih n _ ah (h2 _ b).body) (ih n _ ah (h2 _ b).els) (λh=>by rw[h];exact szs_nil d) λh=>by rw[h];exact szs_nil d) λv j=>k _ ah ?_;rw[e]at j;refine⟨(a.mono ah ah).trans (j.1.mono ah ah),ah⟩;have:i=l.length:=ah;subst this;rw[List.take_length]at a e;exact pR ⟨a,e⟩
theorem UA{a b:Nat}(h:l.length<=8000000)(g:b<=l.length):∀(n fuel i k m:Nat),Sk l a b n k m->Ev l m->n+i<=l.length->l.length+1<fuel+i->Cf.AR l fuel k i=some true:=by
 intro n;induction n with
 |zero=>intro fuel i k m r ⟨x,x1,x2⟩ h1 h2;cases r;obtain⟨fuel,rfl⟩:∃f,fuel=f+1:=⟨fuel-1,ah⟩;have c:=(AAJ.1 x1).1;unfold Cf.AR Cf.L1 Cf.J1;rw[A6 ah,Aa ah,AAL an,Jv,x1,AAG,SJ,x2];rfl
 |succ n ih=>
  intro fuel i k m ⟨c,j,⟨x,x1,x2,x3⟩,r⟩ ev h1 h2;obtain⟨fuel,rfl⟩:∃f,fuel=f+1:=⟨fuel-1,ah⟩;unfold Cf.AR Cf.L1 Cf.J1 Cf.J2;have c:=(AAJ.1 x1).1;rw[A6 ah,Aa ah,AAL an,Jv,x1,AAG,SJ,x2,AAG,AX ah];have:=ih fuel (i+1) j m r ev ah ah;rcases x3 with⟨d,e⟩|⟨d,rfl⟩
  simp_all;rw[AAL ak,AAL am,AX ah];exact this
structure VO (w:AG) (t:Int) (c:BE):Prop where
 r:2<=c.DH/\c.DH<=32
 n:∃out lo hi,c.CO=out++[⟨28,0,0,0,0, -1⟩]/\SG w lo hi out 0 out.length out.length/\(∀k,lo<=k->k<hi->∃y,gt w.Bt k=some y/\y.db=t)
 g:∀x∈c.CO,∀y∈rg x,y<c.DH
theorem objE(h:u.Op=28):AO wv u=some true:=by simp[AO,AO.J3,AO.J5,AO.J7,AO.J8,h]
theorem XP{c:BE}(C:c.CO.length<=8000000)(S:VO wv t c):Ac wv t c=some true:=by
 obtain⟨⟨r1,r2⟩,⟨out,lo,hi,H,I,U⟩,Q⟩:=S;have Z:c.CO.length=out.length+1:=by rw[H];simp
 have L:=BK;have l:∀(i:Nat) x,c.CO[i]? =some x->(i<out.length/\out[i]? =some x)\/i=out.length/\x=⟨28,0,0,0,0, -1⟩:=by intro i x q;rw[H]at q;by_cases h:i<out.length;grind;grind
 have V:c.CO[out.length]? =some ⟨28,0,0,0,0, -1⟩:=by rw[H];exact Y9
 have v:∀i:Nat,i<c.CO.length->Cf c.CO (i:Int)=some true:=by intro i hi;have K:∀{n k m},Sk out 0 out.length n k m->Sk c.CO 0 out.length n k m:=λr=>r.frame (λj _ R=>aA) ah ah;have J:Ev c.CO out.length:=⟨_,V,rfl⟩;unfold Cf;by_cases h:i<out.length;(rcases I.f i ah h with⟨n,m,r,m1,⟨x,x1,W⟩,hn⟩|⟨n,r,hn⟩);exact UA C ah n BQ 0 i m (K r) ⟨x,aA,W⟩ ah ah;exact UA C ah n BQ 0 i _ (K r) J ah ah;obtain rfl:i=out.length:=ah;exact UA (a:=0) (b:=0) C ah 0 BQ 0 _ _ rfl J ah ah
 have key:Bp (Ac wv t c) λb=>b=true:=by
  unfold Ac;refine tD cm λ_=>tD cm λ_=>?_;rw[show((c.CO.length:Int)==0)=false from ABQ.2 ah];unfold Ac.J1;refine tI bk λ_=>Ru c.CO.length (λ_ (_:Unit)=>True) (s0:=()) (F:=λn _ i=>Ac.AR c t wv n i) ah trivial λn i _ hi _ k=>?_;unfold Ac.AR Ac.L1 Ac.J6;refine tD (λX=>kV ah ?_) λ_=>tR rfl;have q:c.CO[i]? =some c.CO[i]:=AAO ah;have u:c.CO[i]∈c.CO:=AAS ah;generalize c.CO[i]=x at q u;have M:Cf c.CO (i:Int)=some true:=v i ah;have N:A8 ((c.CO.length:Int)-1)=out.length:=by rw[CD ah ah];omega
  have z:Bp (Ac.J4 (Ac.AR c t wv n) c i x false) λb=>b=true:=by(unfold Ac.J4;refine tI bk λ_=>tE (HU x).1 (Ru (rg x).length (λ_ (_:Unit)=>True) (s0:=()) (F:=λn _ i=>Ac.Bs _ c _ (rg x) n i) (by have:=(HU x).2;omega) trivial λm j _ R _ T=>?_);unfold Ac.Bs Ac.L2 Ac.J5;refine tD (λ_=>kV ah ?_) λ_=>k () ah trivial;have E:(rg x)[j]∈rg x:=AAS ah;have O:0<=(rg x)[j]:=by(rcases l i x q with⟨h,B⟩|⟨_,rfl⟩);exact((I.i i x ah h B).g _ E).1;have:=List.length_pos_of_mem E;rw[rg0 (.inr (.inr rfl))]at this;cases this);exact tE (Jm ⟨O,Q x u _ E⟩) (tI bk λ_=>T () ah trivial)
  rcases l i x q with⟨p,B⟩|⟨D,rfl⟩
  have d:=I.i i x ah p B;have lo':=d.o;have G:x.Op≠28:=ah;refine tD cm λ_=>tD cm λ_=>?_;rw[N,show(x.Op==28)=false from by simp_all,show((i:Int)==(out.length:Int))=false from by simp;omega];refine tI bk λ_=>tE d.ob (tI bk λ_=>tE M ?_);unfold Ac.J2;obtain⟨y,y1,y2⟩:=U _ d.s.1 d.s.2;refine tI bk λ_=>tI (λh=>absurd (eq_of_beq h) G) λ_=>tI (λ_=>?_) λh=>am;refine tE (Jm (jI y1)) (tI bk λ_=>tE y1 ?_);rw[y2,show(t != t)=false from by simp];unfold Ac.J3;refine tI bk λ_=>tI (λP=>?_) λ_=>tI (λe=>?_) λ_=>z;have:=d.j (eq_of_beq P);refine tE (Jm ah) (tI bk λ_=>tI (λe=>?_) λ_=>z);simp_all;have:=d.b (eq_of_beq e);exact tE (Jm ah) z;refine tD (λh=>by simp at h) λ_=>tD (λh=>by simp at h) λ_=>?_;rw[N,D];simp only[ABF,Bool.not_true];refine tI bk λ_=>tE (objE rfl) (tI bk λ_=>tE (D▸M) ?_);rw[D]at z;unfold Ac.J2 Ac.J3;simp_all
 obtain⟨b,L,rfl⟩:=key;exact L
end
section
theorem kQ(hi:t<n):∀(S:nl)(m:Int)(R:nl),SN t m S->Hs n t m (S++R)=Hs n t (m+S.length) R:=by
 intro S;induction S with
 |nil=>simp_all
 |cons x r ih=>
  intro m R h;obtain⟨c,a⟩:=h 0 x rfl;have b:SN t (m+1) r:=λj y d=>by have:=h (j+1) y am;omega
  rw[AA3,Hs,AAL ah,AAL ah,ih _ _ b,a];grind
theorem yK{nt:Nat}{i:Int}(hi:i<nt)(h:t<i\/t=i/\o=0)(a:SN i 0 S):∃b c,(b<i+1\/b=i+1/\c=0)/\∀R,Hs nt t o (S++R)=Hs nt b c R:=by
 rcases h with h|⟨rfl,rfl⟩
 (cases S with|nil=>exact⟨t,o,.inl ah,λ_=>rfl⟩|cons x r=>obtain⟨d,e⟩:=a 0 x rfl;have f:SN i 1 r:=λj y g=>(by have:=a (j+1) y (by simp_all);omega);refine⟨i,1+r.length,.inl ah,λR=>?_⟩;rw[AA3,Hs,AAL ah,AAM ah,d,kQ hi _ _ _ f,e];simp);exact⟨t,0+S.length,.inl ah,λR=>kQ hi _ _ _ a⟩
def VY(p:AY)(i:Nat):Nat:=((p.AA.take i).map λt=>Qq 4 t.dz).sum
def jZ(h:i<p.AA.length):VY p (i+1)=VY p i+Qq 4 p.AA[i].dz:=kU h _
theorem mO(h:(p.AA.map λt=>Qq 4 t.dz).sum<=60)(i:Nat):VY p i<=60:=by
 have:((p.AA.map λt=>Qq 4 t.dz)).sum=VY p i+((p.AA.drop i).map λt=>Qq 4 t.dz).sum:=by
  conv=>lhs;rw[<- ABE i p.AA,AAu,List.sum_append]
  rfl
 omega
theorem offP_mono(h:i<=j):VY p i<=VY p j:=by
 have:VY p j=VY p i+(((p.AA.take j).drop i).map λt=>Qq 4 t.dz).sum:=by
  unfold VY
  conv=>lhs;rw[<- ABE i (p.AA.take j),List.take_take,Nat.min_eq_left h,AAu,List.sum_append]
 omega
structure WV (p:AY) (N:Nat) (w:AG):Prop where
 c:w.di=MZ
 l:w.AK=aT
 d:w.Al=[⟨cN,0⟩]
 f:w.AL=[⟨#[102]⟩]
 t:w.AA=(p.AA.take N).map (·.dv)
 n:w.Bt.length=VY p N
 o:∀j k,j<N->VY p j<=k->k<VY p (j+1)->∃y,w.Bt[k]? =some y/\y.db=(j:Int)
 s:∃t n:Int,(t<N\/t=N/\n=0)/\∀R,Hs p.AA.length 0 0 (w.Bt++R)=Hs p.AA.length t n R
theorem World_ok(h:MP p)(u:∃l,BT p=some (0,l))(C:(p.AA.map λt=>Qq 4 t.dz).sum<=60):Bp (CP p) (WV p p.AA.length):=by
 obtain⟨l,u⟩:=u;have N:=h.t;unfold CP;refine tE u (tI bk λ_=>?_);have key:∀D T,FW=some D->CP.AR ⟨D,T⟩ BQ (AG.mk [] [] [] [] [] []) 0=CP.J4 ⟨D,T⟩ ⟨MZ,aT,[⟨cN,0⟩],[⟨#[102]⟩],[],[]⟩:=by
  intro D T x;unfold FW at x;obtain rfl:=AAK x
  kernel_rfl
 rw[show CP.AR p BQ (AG.mk [] [] [] [] [] []) 0=_ from key p.ep p.AA h.d];unfold CP.J4;show Bp (CP.E3 p BQ ⟨MZ,aT,[⟨cN,0⟩],[⟨#[102]⟩],[],[]⟩ 0) _;refine Ru p.AA.length (λi w=>WV p i w) (F:=λn s i=>CP.E3 _ n s i) ah ⟨rfl,rfl,rfl,rfl,rfl,rfl,λj k h=>ah,0,0,.inr ⟨rfl,rfl⟩,λ_=>rfl⟩ λn i w hi a k=>?_;unfold CP.E3 CP.L3 CP.J5;refine tD (λg=>kV ah ?_) λO=>tR ?_;have g:i<p.AA.length:=ah;have E:=jZ g;have G:=mO C (i+1);have hn:=a.n;refine tC (Bq (by rw[a.t];simp;omega)) (tB (sites_ok 4 _ _ _ _ _ (Nv ah) ah ah (h.b _ (AAS g))) λv H=>k _ ah ?_);obtain⟨S,L,V,z,W⟩:=H;obtain⟨t,m,K,P⟩:=a.s;obtain⟨J,I,Q,U⟩:=yK (nt:=p.AA.length) (i:=i) ah K z;refine⟨a.c,a.l,a.d,a.f,?_,?_,?_,J,I,ah,λR=>?_⟩;simp only;rw[a.t,<- AAe g,AAu];rfl;simp_all;intro j q M r B;simp only;rw[L];by_cases e:j<i;have:=offP_mono (p:=p) (show j+1<=i by omega);rw[AAq ah];exact a.o j q e r B;obtain rfl:j=i:=ah;rw[AAp ah];have y:q-w.Bt.length<S.length:=ah;exact⟨S[q-w.Bt.length],AAO y,(z _ _ (AAO y)).1⟩;simp_all;grind
theorem WV.names(a:WV p p.AA.length wv):wv.AA=p.AA.map (·.dv):=by rw[a.t,List.take_length]
theorem worldS_ok(h:MP p)(o:(p.AA.map λt=>Qq 4 t.dz).sum<=60)(a:WV p p.AA.length wv):C6 wv:=by
 obtain⟨n,z,B,nm⟩:=h.nm;have e:=a.names;rw[nm]at e;obtain⟨t,m,C,y⟩:=a.s;have b:=y [];rw[ABc]at b;have x:p.AA.length=wv.AA.length:=by rw[a.names,AAt]
 rw[x]at b;have hn:=a.n;have q:=mO o p.AA.length;have g:=a.c;have i:=a.l;have j:=a.d;have k:=a.f;obtain⟨c,l,d,f,T,S⟩:=wv;simp only at g i j k e hn b;subst g i j k;have v:Ad MZ=some ([⟨#[120]⟩,⟨#[121]⟩,⟨#[118]⟩,qS],true):=by decide +kernel
 have r:Hs T.length 0 0 S:=b;have u:T=Qr.take 1\/T=Qr.take 2\/T=Qr.take 3\/T=Qr.take 4:=by have:n=1\/n=2\/n=3\/n=4:=ah;rcases this with rfl|rfl|rfl|rfl<;>simp[e]
 unfold C6;simp only[v,r];have hd:decide (S.length<=60):=decide_eq_true ah;rw[hd];rcases u with rfl|rfl|rfl|rfl<;>(show @Eq Bool _ true;kernel_rfl)
theorem wM(h:MP p)(O:∃l,BT p=some (0,l)):Bp (BB p) λr=>CK r.1/\CV r.1=some true:=by
 obtain⟨q,hq,U⟩:=check60 h;have T:(p.AA.map λt=>Qq 4 t.dz).sum<=60:=by obtain⟨l,O⟩:=O;rw[O]at hq;cases hq;exact U rfl
 have ht:=h.t;let Q:Bx->Prop:=λc=>WV p p.AA.length c.dc/\c.AA.length=p.AA.length/\∀(j:Nat) t,c.AA[j]? =some t->VO c.dc j t;have par:NZ (BB p) λr=>Q r.1:=by
  obtain⟨l,S⟩:=O;unfold BB;refine pE S (pI bk λ_=>pB (pA (pT (gY h ⟨l,S⟩)) (pT (World_ok h ⟨l,S⟩ T))) λw B=>?_);obtain⟨mw,B⟩:=B;have wf:WF (λs=>s∈p.AA.map (·.dv)) w:=⟨B.c,B.l,B.d,B.f,λs X=>by rw[B.names];exact X,by rw[B.names,AAt];exact ht⟩;refine pLs p.AA.length (λi (s:Bx×Int)=>s.1.dc=w/\s.1.AA.length=i/\s.2=VY p i/\∀(j:Nat) t,s.1.AA[j]? =some t->VO w j t) (F:=λn s i=>BB.AR p n s.1 s.2 i) (s0:=(_,_)) (λ_ _=>rfl) ah ⟨rfl,rfl,rfl,ak⟩ λn i s hi X k=>?_;obtain⟨G,s2,s3,s4⟩:=X;unfold BB.AR BB.L1 BB.J4;refine pD (λH=>pE (Bm ah) ?_) λoL=>pR ⟨by simp only;rw[G];exact B,aS,by simp only;rw[G];exact s4⟩;have H:i<p.AA.length:=ah;have L:p.AA[i]∈p.AA:=AAS H;have ho1:=jZ H;have ho2:=mO T (i+1);have hc:cg 4=336840:=rfl;have g0:GB (BW.mk s.1.dc p.AA[i].HE [] 0 s.2) 4000000:=⟨by rw[G];exact mw,h.l _ L,ak⟩;refine pB (pA (pT (Zy 4 _ _ _ (Nv ah) (g0.less ah) (h.b _ L))) (stmts_par 4 _ _ (Nv ah) (h.b _ L) ⟨s.1.dc,p.AA[i].HE,[],0,s.2⟩ ⟨by rw[G];exact wf,h.lo _ L⟩ aS)) λv hv=>pB (put_eq _) λu hu=>?_;obtain⟨v0,v1,v2⟩:=hv;have v0:=v0.b;simp only[ABS]at v0;have W:(u.du.length:Int)=2:=by rw[hu];simp only;rw[v1.l];simp only;rw[h.lo _ L];rfl
  have R:u.dx=v.dx++[⟨28,0,0,0,0, -1⟩]:=by rw[hu]
  have sg:=v1.s;simp only[ABS,G,s3]at sg;have v2':v.next=VY p (i+1):=by rw[v2];simp only;omega
  have rb:∀y∈u.dx,∀r∈rg y,0<=r/\r<32:=by(intro y x r e;rw[R]at x;rcases AAX.1 x with x|x);obtain⟨m,m1,m2⟩:=ABM x;exact(sg.i m y ah m1 (by rw[AAO m1,m2])).g r e;rw[AAc.1 x,rg0 (.inr (.inr rfl))]at e;cases e
  rw[W];have xC:u.dx.length<1000000000000:=by rw[R];simp;omega
  refine pLs u.dx.length (λk (t:BE)=>t.CO=u.dx/\(2<=t.DH/\t.DH<=32)/\∀y∈u.dx.take k,∀r∈rg y,r<t.DH) (F:=λn t k=>BB.Bs _ _ _ _ _ n t k) (λ_ _=>rfl) xC ⟨rfl,ak,ak⟩ λm q t hq2 Z k2=>?_;obtain⟨t1,t2,t3⟩:=Z;unfold BB.Bs BB.L2 BB.J2 BB.J3;refine pD (λhlt2=>pE (Bm ah) ?_) λhge2=>pC λ_=>k (_,_) ah ⟨G,an,v2',?_⟩;have x:u.dx[q]∈u.dx:=AAS ah;have ry:=rb _ x;have K:q<u.dx.length:=ah;have tk:=AAe K;generalize u.dx[q]=y at x ry tk;refine pE (HU y).1 (pLs (rg y).length (λl (t:BE)=>t.CO=u.dx/\(2<=t.DH/\t.DH<=32)/\(∀y∈u.dx.take q,∀r∈rg y,r<t.DH)/\∀r∈(rg y).take l,r<t.DH) (F:=λn t k=>BB.E3 _ _ _ n t k) (λ_ _=>rfl) (by have:=(HU y).2;omega) ⟨t1,t2,t3,ak⟩ λm3 M D hq3 ht3 k3=>?_);obtain⟨x1,x2,x3,x4⟩:=ht3;unfold BB.E3 BB.L3 BB.J1;refine pD (λhlt3=>pE (Bm ah) ?_) λhge3=>k2 _ K ⟨x1,x2,λz C r e=>?_⟩;(have e:(rg y)[M]' ah∈rg y:=AAS ah;have V:=ry _ e;have N:=AAe (show M<(rg y).length by omega);generalize (rg y)[M]' ah=r at e V N;rw[CD ah ah];have J:∀z,(if r+1>D.DH then r+1 else D.DH)=z->D.DH<=z/\r<z/\z<=32:=by intro z C;split at C<;>omega);generalize C:(if r+1>D.DH then r+1 else D.DH)=z;(obtain⟨z1,z2,z3⟩:=J z C;refine k3 _ ah ⟨x1,aS,λy x r e=>by have:=x3 y x r e;simp only;omega,?_⟩;rw[<- N];intro a I;rcases AAX.1 I with I|I);have:=x4 a I;simp only;omega;rw[AAc.1 I];exact z2;(rw[<- tk]at C;rcases AAX.1 C with C|C);exact x3 z C r e;rw[AAc.1 C]at e;rw[AAo ah]at x4;exact x4 r e;intro j D E;simp only at E;by_cases hj:j<s.1.AA.length;rw[AAq hj]at E;exact s4 j D E;have:=(AAJ.1 E).1;simp at this;obtain rfl:j=s.1.AA.length:=ah;rw[show(s.1.AA++[t])[s.1.AA.length]? =some t from by simp]at E;obtain rfl:=AAK E;rw[s2];rw[AAo ah]at t3;refine⟨t2,⟨v.dx,_,_,by rw[t1,R],sg,λk k1 k2=>?_⟩,by rw[t1];exact t3⟩;obtain⟨k,rfl⟩:∃m:Nat,k=m:=⟨k.toNat,ah⟩;rw[Jv];exact B.o i k H ah ah
 obtain⟨r,e,P⟩:=qA h;refine⟨r,e,P,?_⟩;obtain⟨q1,q2,M⟩:=par r e;have hl:r.1.AA.length=r.1.dc.AA.length:=by rw[q2,q1.names,AAt]
 have hn:=P.n;have key:Bp (CV r.1) λb=>b=true:=by unfold CV;refine tE (LA _) ?_;rw[worldS_ok h T q1];refine tI bk λ_=>?_;rw[hl,show((r.1.dc.AA.length:Int) != r.1.dc.AA.length)=false from by simp];unfold CV.J1;refine tI bk λ_=>Ru r.1.AA.length (λ_ (_:Unit)=>True) (s0:=()) (F:=λn _ i=>CV.AR r.1 n i) ah trivial λn i _ hi _ k=>?_;unfold CV.AR CV.L1 CV.J2;refine tD (λH=>kV ah ?_) λ_=>tR rfl;refine tE (XP (P.i _ (AAS ah)) (M i _ (AAO ah))) (tI bk λ_=>k () ah trivial)
 obtain⟨b,V,rfl⟩:=key;exact V
end
theorem Code_ok(d:c.length<=4000000000000000000)(e:∀x∈c,0<=x/\x<256):Bp (O8 c) λl=>CK l/\CV l=some true:=by unfold O8;exact tB (oU d e) λp a=>tB (wM a.1 a.2) λl b=>tR b
theorem Trace_wf(g:c.length<=4000000000000000000)(j:∀x∈c,0<=x/\x<256)(i:f.length<=1000):Bp (NL c f) λt=>TA f.length t/\C6 t.dc:=by unfold NL;refine tB (Code_ok g j) λp b=>tB (oM i) λl o=>tB (tP (Run_ok b.1 ah) (Q:=λr=>C6 r.1.dc=true) ?_) λr a=>tR ⟨⟨⟨by have:=a.1.m.n;omega,a.1.m.e,a.1.m.w⟩,a.1.c⟩,a.2⟩;obtain⟨v,d,s⟩:=SK b.1;rw[b.2]at d;have k:=s (AAK d).symm;unfold M6;exact pE b.2 (pI bk λ_=>pB' λ_=>pB' λ_=>pR k.w)
theorem Check_ok{t:Ck}(a:TA n t)(hn:n<=400)(b:C6 t.dc):KC t=(0,0):=by have:=a.m.n;unfold KC;rw[AAL ah,AAM b,a.c]
theorem sceneW_m:GR.Al.all (λc=>CC c.dr GR.AK.length):=by decide +kernel
structure SL (s:AD):Prop where
 l:s.df.AK.length=3
 d:s.df.Br.length=1
 t:s.df.AA.length=4
 c:s.di.length=5
 u:s.AL.length=1
 n:s.dh.length=4
 r:RB 1 s.df
theorem SL.sc(h:SL s):SC 1 s:=by refine⟨?_,h.r⟩;simp only[JS,He,AAH,AAT,cR,WD,WC,h.d,h.t,h.c,h.u,h.n,and_self,and_true];exact⟨sceneW_m,by rw[h.l,cU]⟩
theorem iJ(b:Dn v)(x:Int)(d:c.length<=900):Bp (Hh v x c) λr=>(-1<=r.1/\r.1<c.length)/\Dn r.2:=by unfold Hh Hh.J1;rw[CD (n:=(c.length:Int)+2) ah ah];refine tB (Fh b ah) ?_;rintro t ⟨e,a,_⟩;rw[CD (n:=t.1-2) ah ah];refine tI (λh=>?_) λh=>tG aA λy _=>tI (λ_=>tR ⟨ah,a.1⟩) λ_=>tR ⟨aA,a.1⟩;exact tI (λ_=>tR ⟨ah,a.1⟩) λh=>by cases h
abbrev BG(o:ABi (AD×AZ)):Prop:=Bp o λr=>SL r.1/\Dn r.2
theorem Zf(e:Dn v)(g:SL s):BG (Ao.Qu v s):=by
 have o:=BK;have key:∀(n i:Nat)(v:AZ)(f:AD),5<n+i->i<=5->Dn v->SL f->BG (Ao.E3 s n v f i):=by intro n;induction n with|zero=>omega|succ n ih=>intro i v f k m e b;unfold Ao.E3 Ao.L3 Ao.gN;refine tI (λh=>?_) λ_=>tR ⟨b,e⟩;have h:=AAQ h;have:=g.c;have:=b.c;refine tB (Fh e ah) ?_;rintro a ⟨_,j,_⟩;rw[AX ah];exact tG ah λx _=>ih (i+1) _ _ ah ah j.1 ⟨b.l,b.d,b.t,am,b.u,b.n,b.r⟩
 exact key BQ 0 v s ah ah e g
theorem XY(g:Dn v)(e:SL s):BG (Ao.OS v s):=by unfold Ao.OS;refine tB (Fh g ah) ?_;rintro a ⟨_,f,_⟩;have:=e.d;have:=e.u;refine tI (λ_=>tG ah λx _=>tB (Fh f.1 ah) ?_) λ_=>Zf f.1 e;rintro b ⟨_,bA,_⟩;exact tG ah λx _=>Zf bA.1 ⟨e.l,am,e.t,e.c,am,e.n,e.r⟩
theorem vL(g:Dn v)(e:SL s):BG (Ao.J9 v s):=by unfold Ao.J9;refine tB (Fh g ah) ?_;rintro a ⟨_,f,_⟩;refine tI (λ_=>tB (iJ f.1 _ (by have:=e.n;omega)) ?_) λ_=>XY f.1 e;rintro b ⟨_,bA⟩;exact XY bA ⟨e.l,e.d,e.t,e.c,e.u,e.n,e.r⟩
theorem SL.lock(h:SL s)(i:Nat)(x:AW)(b:x.Am.length<=1):SL (AD.mk (AQ.mk (s.df.AK.set i x) s.df.Tx s.df.Br s.df.AA) s.di s.AL s.dh):=by
 refine⟨by simpa using h.l,h.d,h.t,h.c,h.u,h.n,?_⟩;intro y a;rcases mem_set a with a|rfl
 exact h.r y a;exact b
theorem vK(g:Dn v)(q:SL s):BG (Ao.J5 v s):=by
 have D:=BK;have key:∀(n i:Nat)(v:AZ)(f:AD),3<n+i->i<=3->Dn v->SL f->BG (Ao.Bs s n v f i):=by intro n;induction n with|zero=>omega|succ n ih=>intro i v f B C g e;unfold Ao.Bs Ao.L2;refine tI (λh=>?_) λ_=>vL g e;have h:=AAQ h;have:=q.l;have:=e.l;have:=e.t;have:=e.n;have j:∀c m,Dn c->SL m->BG (Ao.J8 (Ao.Bs s n) i c m):=(by intro c m d y;unfold Ao.J8;rw[AX (by omega)];exact ih (i+1) _ _ (by omega) (by omega) d y);refine tB (iJ g _ ah) ?_;rintro a ⟨a0,k⟩;refine tI (λ_=>j _ _ k e) λp=>?_;have p:=ABK p;have o:∀c z,Dn c->BG (Ao.J7 (Ao.Bs s n) f i c a z):=(by intro c z d;unfold Ao.J7;exact tI (λ_=>j _ _ d e) λ_=>tG ah λx u=>j _ _ d (e.lock _ _ (e.r x u)));have w:∀c z,Dn c->BG (Ao.J6 (Ao.Bs s n) f i a c z):=(by intro c z d;unfold Ao.J6;exact tI (λ_=>tG ah λx u=>j _ _ d (e.lock _ _ ak)) λ_=>tI (λ_=>tG ah λx _=>tI (λ_=>o _ _ d) λ_=>o _ _ d) λ_=>o _ _ d);refine tI (λ_=>tB (Fh k ah) ?_) λ_=>w _ _ k;rintro b ⟨_,bA,_⟩;exact w _ _ bA.1
 exact key BQ 0 v s ah ah g q
def SL.thr(h:SL s)(b:y.length=4)(a:c.length=4):SL (AD.mk (AQ.mk s.df.AK s.df.Tx s.df.Br y) s.di s.AL c):=⟨h.l,h.d,b,h.c,h.u,a,h.r⟩
theorem eP(s:Dn v):BG (Ao v GR):=by
 have a:=BK;unfold Ao;rw[LG GR cV,AAG];have f:SL (IG GR):=by refine⟨?_,?_,?_,?_,?_,?_,RB.mono (RB.start GR) ah⟩<;>simp[IG,Kd,cU,cR,WD,WC]
 generalize IG GR=p at f;have key:∀(n i:Nat)(u:AZ)(b:AD),4<n+i->i<=4->Dn u->SL b->BG (Ao.AR p n u b i):=by intro n;induction n with|zero=>omega|succ n ih=>intro i u b B C k a;unfold Ao.AR Ao.L1;refine tI (λh=>?_) λ_=>vK k a;have h:=AAQ h;have:=f.n;have:=a.n;have:=a.t;have m:∀g e,Dn g->SL e->BG (Ao.J4 (Ao.AR p n) i g e):=(by intro g e q r;unfold Ao.J4;rw[AX (by omega)];exact ih (i+1) _ _ (by omega) (by omega) q r);refine tB (Fh k ah) ?_;rintro j ⟨j0,o,_⟩;refine tG ah λy _=>?_;have D:∀t,BG (Ao.J2 (Ao.AR p n) b i j t):=(by intro t;have l:∀v,BG (Ao.J3 (Ao.AR p n) b t i j v):=(by intro v;unfold Ao.J3;refine tI (λ_=>tB (Fh o.1 ah) ?_) λ_=>m _ _ o.1 (a.thr am a.n);rintro z ⟨_,c,_⟩;refine tG ah λx _=>tB (Fh c.1 ah) ?_;rintro w ⟨_,d,_⟩;exact tG an λx _=>m _ _ d.1 (a.thr am am));unfold Ao.J2;exact tG ah λx _=>tI (λ_=>l _) λ_=>l _);unfold Ao.J1;grind
 exact key BQ 0 v p ah ah s f
def Tj(l:i6):Prop:=∀x∈l,0<=x/\x<256
theorem tape_of(a:c.length<=4000000000000000000)(h:Tj c):Dn ⟨c,0⟩:=⟨a,⟨Int.le_refl _,ak⟩,h⟩
structure WG (w:AE):Prop where
 v:KP w=true
 e:∀e∈w.AB,KW e
 r:RB 1000 w.dg.df
theorem PJ(e:Tj f)(q:b<=16)(m:0<=b):Bp (EG f b) WG:=by
 have u:=BK;have j1:∀i:List Int,i.length<=400->Tj i->Bp (EG.J1 b i) WG:=by
  intro i hi hi';unfold EG.J1;rw[kN,AAG];refine tB (eP (tape_of ah hi')) ?_;rintro c ⟨cS,j⟩;have key:∀(n d:Nat)(a:Int),4<n+d->d<=4->Bp (EG.AR b c n ⟨GR,a,c.1,[]⟩ d) WG:=by intro n;induction n with|zero=>omega|succ n ih=>intro d a o p;have:=cS.n;unfold EG.AR EG.L1;refine tI (λh=>?_) λ_=>?_;have h:=AAQ h;rw[AX ah];exact tG ah λt _=>ih (d+1) _ ah ah;unfold EG.J2;refine tB (play_tot j (cS.sc.mono ah) ah true) ?_;rintro l ⟨s,g⟩;rw[rValid_eq (w:=⟨GR,a,c.1,l.1⟩) g (RB.mono cS.r ah),AAG];refine tI (λ_=>?_) λh=>tR ⟨aA,g,RB.mono cS.r ah⟩;rw[kN,AAG,AAG,LG GR cV,AAG];exact tR ⟨by decide +kernel,ak,RB.mono (RB.start GR) ah⟩
  exact key BQ 0 0 ah ah
 unfold EG;refine tI (λh=>?_) λh=>j1 _ aA e;have h:=AAQ h;exact tC ah (j1 _ an λx k=>e x (List.mem_of_mem_take k))
structure tK (v:Ke):Prop where
 p:Tj v.ez
 s:Tj v.Gf
 c:Tj v.oW
 z:0<=v.CM/\v.CM<256
 w:0<=v.gX/\v.gX<256
theorem madeAT{t:Ck}(h:TA n t)(hn:n<=400)(b:C6 t.dc):AT t:=AT.of (λe a=>(h.m.e e a).ok) (by rw[Check_ok h hn b])
theorem Wa{v:Ke}(a:tK v)(r:0<t)(F:t<=16)(u:v.ez.length<=4000000000000000000):Bp (Ef v t) WG:=by
 have C:((A8 v.CM).tmod t:Int)=v.CM.tmod t:=by rw[CD (by have:=a.z;omega) (by have:=a.z;omega)]
 have D:0<=v.CM.tmod t:=Int.tmod_nonneg _ a.z.1;have E:v.CM.tmod t<t:=Int.tmod_lt_of_pos _ r;unfold Ef;rw[C,CD (n:=1+v.CM.tmod t) ah ah];refine tI (λ_=>tC ah (tB (PJ a.c ah ah) λw b=>tR b)) λ_=>?_;have o:0<=(if 80<(v.Gf.length:Int)then 80 else(v.Gf.length:Int))/\((if 80<(v.Gf.length:Int)then 80 else(v.Gf.length:Int)).toNat)<=v.Gf.length/\((if 80<(v.Gf.length:Int)then 80 else(v.Gf.length:Int)).toNat)<=80:=by split<;>omega
 refine tC ⟨o.1,o.2.1⟩ (tB (Trace_wf u a.p (by rw[ABe];omega)) ?_);rintro m ⟨g,g2⟩;have f:AT m:=madeAT g (by rw[ABe];omega) g2;have s:=f.l;refine tC ah ?_;rw[rSplit_eq m (λe i=>(g.m.e e i).ok),AAG];have y:nN m (1+v.CM.tmod t)=(QE m (1+v.CM.tmod t).toNat m.AB.length,0):=by unfold nN;rw[AAL (by rw[f.check];simp),AAL ah]
 rw[y];have o:=winN_le (k:=(1+v.CM.tmod t).toNat) ah m.AB.length;have q:=gJ m (1+v.CM.tmod t).toNat m.AB.length;refine tI (λ_=>tB (PJ (by intro x B;cases B) ah ah) λw b=>tR b) λh=>?_;have h:¬((QE m (1+v.CM.tmod t).toNat m.AB.length).length:Int)=0:=by simpa using h
 refine tC h ?_;rw[CD (n:=v.gX) (by have:=a.w;omega) (by have:=a.w;omega)];refine tG ⟨Int.tmod_nonneg _ a.w.1,Int.tmod_lt_of_pos _ (by show(0:Int)<((QE m (1+v.CM.tmod t).toNat m.AB.length).length:Int);omega)⟩ λw b=>tR ?_;unfold QE at b;obtain⟨j,d,rfl⟩:=ABZ.1 b;have d:=ABa.1 d;have hi:j*(1+v.CM.tmod t).toNat<=m.AB.length:=by unfold oA at d;have:=(Nat.le_div_iff_mul_le ah).1 (show j+1<=_ from d);rw[ABh]at this;omega
 exact⟨yW f.w s f.c ah hi,λe i=>(g.m.e e (List.mem_of_mem_drop (List.mem_of_mem_take i))).ok,RB.mono (AT.rb _ hi) ah⟩
def Uf(wv:AG):AD->List AH->Prop|_,[]=>True|s,e::r=>FV wv s e=true/\Uf wv (Ed wv s e) r
theorem Uf.step{wv:AG}(d:Small wv){s:AD}{N:Nat}(c:RB N s.df)(a:N<=1000000){e:AH}(b:KW e)(f:FV wv s e):CN wv s e=some (Ed wv s e,true)/\CH wv s e=some (Ed wv s e,true):=by rw[Y4 wv d s (c.mono a) e b,RQ wv d s (c.mono a) e b];unfold QZ;rw[AAM f];exact⟨rfl,rfl⟩
theorem Uf.of:∀{l:js}{s:AD},(∀(i:Nat)(hi:i<l.length),FV wv ((l.take i).foldl (Ed wv) s) l[i])->Uf wv s l:=by intro l;induction l with|nil=>intro s _;trivial|cons e r ih=>intro s h;exact⟨h 0 ak,ih λi hi=>h (i+1) (by simpa using hi)⟩
theorem posW_poss:∀{l pre:js}{s:AD},XB wv c pre s l->Uf wv s l:=by intro l;induction l with|nil=>intro pre s _;trivial|cons e r ih=>intro pre s h;unfold XB at h;simp only[AAH]at h;exact⟨h.1,ih h.2.2⟩
structure WV2 (w:AE):Prop where
 s:Small w.dc
 n:w.AB.length<=16
 p:Uf w.dc w.dg w.AB
theorem Kq(h:KP w):WV2 w:=by unfold KP at h;simp only[AAH,AAa]at h;exact⟨Dw h.1,h.2.2.1,posW_poss h.2.2.2.2⟩
def Xn(wv:AG)(t kk o k:Int)(x:AW):AW:=if(kk=6\/kk=10)/\k=o\/kk=17/\k=(ix wv.Al o).dr then⟨t,x.Am⟩
 else if(kk=7\/kk=11)/\k=o\/kk=16/\k=(ix wv.Al o).dr then⟨-1,x.Am⟩
 else if kk=8/\k=o then⟨x.B6,PS (x.Am++[t])⟩
 else if kk=9/\k=o then⟨x.B6,x.Am.filter λy=>!(y==t)⟩
 else x
theorem setT_L(s:AQ)(t:Int)(g:AM->AM):(KI s t g).AK=s.AK:=rfl
def nI{s:AQ}(hi:CC t s.AK.length)(a:CC k s.AK.length)(f:AW->AW):ix (HN s t f).AK k=if k=t then f (ix s.AK t)else ix s.AK k:=NI hi a
theorem pK{s:AQ}(p:CC k s.AK.length):∀a,(a=6\/a=7\/a=8\/a=9\/a=10\/a=11->CC o s.AK.length)->(a=16\/a=17->CC (ix wv.Al o).dr s.AK.length)->ix (Cr wv s t a o b).1.AK k=Xn wv t a o k (ix s.AK k):=by
 refine kinds ?_ ?_ ?_ ?_ ?_ ?_ ?_ ?_ ?_ ?_ ?_ ?_ ?_ ?_ ?_ ?_ ?_ ?_ ?_ ?_ ?_ ?_ ?_ (λa r u v w x y z B C wake c G d e f F g i j E l m n=>?_);all_goals
  intro D q;unfold Cr Xn
 all_goals first| (simp(decide:=true)only[AAl,AAY,or_true,true_or,AA6,false_or,true_and,false_and,KI];done)| (simp(decide:=true)only[AAl,AAY,or_true,true_or,AA6,false_or,true_and,false_and];rw[nI (D ah) p];simp_all)| (simp(decide:=true)only[AAl,AAY,or_true,true_or,AA6,false_or,true_and,false_and];refine(nI (q ah) p _).trans ?_;split<;>rename_i h<;>simp only[h,AAl,AAY];done)| (simp(decide:=true)only[AAl,AAY,or_true,true_or,AA6,false_or,true_and,false_and];split<;>rfl)| (simp only[r,u,v,w,x,y,z,B,C,wake,c,G,d,e,f,F,g,i,j,E,l,m,n,AAY,or_self,false_and];done)|skip
 all_goals
  simp(decide:=true)only[AAl,AAY,or_true,true_or,AA6,false_or,true_and,false_and];rw[setT_L,nI (q ah) p];simp_all
theorem Za{s:AQ}(c:B0 wv s t b o)(e:CC k wv.AK.length):ix (Cr wv s t b o a).1.AK k=Xn wv t b o k (ix s.AK k):=by unfold B0 at c;simp only[AAH]at c;obtain⟨d,_,wake,_⟩:=c;have f:=(Dl d).1;have g:=λh=>Gr d (o:=o) h;rw[<- f]at e g;refine pK e b (λh=>?_) λh=>g ?_;(rw[f];unfold BC at wake;rcases h with h|h|h|h|h|h<;>subst h<;>simp(decide:=true)only[AAl,AAY,or_true,true_or,AA6,AAH]at wake<;>exact wake.1);unfold BC at wake;grind
def hpL(t:Int)(x:AW):Bool×Bool:=(x.B6==t,x.Am.contains t)
def ownF(wv:AG)(kk o k:Int)(p:Bool×Bool):Bool×Bool:=if(kk=6\/kk=10)/\k=o\/kk=17/\k=(ix wv.Al o).dr then(true,p.2)
 else if(kk=7\/kk=11)/\k=o\/kk=16/\k=(ix wv.Al o).dr then(false,p.2)
 else if kk=8/\k=o then(p.1,true)
 else if kk=9/\k=o then(p.1,false)
 else p
def XI(wv:AG)(s:AQ):Prop:=∀k,CC k wv.AK.length->(ix s.AK k).Am≠[]->(ix wv.AK k).RW/\(ix s.AK k).B6= -1
def MQ(wv:AG):Prop:=∀o,CC o wv.Al.length->(ix wv.AK (ix wv.Al o).dr).RW=false
theorem own_eq(c:0<=t)(x:AW):hpL t (Xn wv t a o k x)=ownF wv a o k (hpL t x):=by have b:((-1:Int)==t)=false:=an;unfold Xn ownF hpL;split;simp;split;simp[b];split;have:(PS (x.Am++[t])).contains t:=(by rw[AAm,Kp];simp);simp_all;grind
theorem bG{s:AQ}(b:B0 wv s t a o):(a=6->(ix s.AK o).B6= -1/\(ix wv.AK o).RW=false)/\(a=10->(ix s.AK o).B6= -1/\(ix s.AK o).Am=[])/\(a=8->(ix s.AK o).B6= -1/\(ix wv.AK o).RW)/\(a=7\/a=11->(ix s.AK o).B6=t)/\(a=16->(ix s.AK (ix wv.Al o).dr).B6=t/\CC o wv.Al.length)/\(a=17->(ix s.AK (ix wv.Al o).dr).B6= -1/\CC o wv.Al.length):=by unfold B0 at b;simp only[AAH]at b;obtain⟨_,_,c,d⟩:=b;unfold BC at c;unfold Eg at d;refine⟨λh=>?_,λh=>?_,λh=>?_,λh=>?_,λh=>?_,λh=>?_⟩;simp_all;simp_all;simp_all;grind;all_goals simp_all
theorem other_eq{s:AQ}(d:B0 wv s b a o)(j:0<=t)(hn:b≠t):hpL t (Xn wv b a o k (ix s.AK k))=hpL t (ix s.AK k):=by
 obtain⟨l,f,n,m,g,i⟩:=bG d;have u:((-1:Int)==t)=false:=an;have c:(b==t)=false:=by simpa using hn
 unfold Xn hpL;split;(rename_i h;have:(ix s.AK k).B6= -1:=by(rcases h with⟨h|h,rfl⟩|⟨h,rfl⟩);omega;omega;omega);simp only[this,u,c];split;grind;split;have:(PS ((ix s.AK k).Am++[b])).contains t=(ix s.AK k).Am.contains t:=(by rw[Bool.eq_iff_iff,AAm,AAm,Kp];simp only[AAX,AAc];exact⟨λh=>h.resolve_right λe=>hn e.symm,.inl⟩);simp_all;grind
theorem XI.apply{s:AQ}(g:MQ wv)(h:XI wv s){wake:Int}(d:B0 wv s t b o):XI wv (Cr wv s t b o wake).1:=by intro k e;obtain⟨m,j,p,n,l,c⟩:=bG d;rw[Za d e];have f:=h k e;unfold Xn;split;(rename_i a;intro i;have f:=f i;rcases a with⟨a|a,rfl⟩|⟨a,rfl⟩);simp_all;simp_all;rw[g _ (c a).2]at f;cases f.1;grind
def HF(wv:AG)(t k:Int)(l:js)(p:Bool×Bool):Bool×Bool:=l.foldl (λp e=>if e.db=t then ownF wv e.de e.dq k p else p) p
theorem HF_snoc(wv:AG)(t k:Int)(l:js)(e:AH)(p:Bool×Bool):HF wv t k (l++[e]) p=if e.db=t then ownF wv e.de e.dq k (HF wv t k l p)else HF wv t k l p:=by unfold HF;simp_all
theorem HF_skip(wv:AG)(t k:Int){l r:js}(h:∀e∈r,e.db≠t)(p:Bool×Bool):HF wv t k (l++r) p=HF wv t k l p:=by unfold HF;rw[List.foldl_append];generalize l.foldl _ p=q;revert q;induction r with|nil=>grind|cons e r ih=>simp_all
theorem poss_en(h:FV wv s e):B0 wv s.df e.db e.de e.dq:=by unfold FV at h;simp_all
instance:Inhabited EO:=⟨⟨0,false⟩⟩
structure WQ (w:AE):Prop where
 g:WG w
 f:WinF w
theorem WG.q(h:WG w):WQ w:=by refine⟨h,?_⟩;have a:=h.v;unfold KP at a;simp only[AAH,AAa]at a;exact⟨a.1,a.2.1,a.2.2.1⟩
structure oE (w:AE) (K:Nat) (c:Ab):Prop where
 f:He w.dc c.df=true
 r:RB (1000+K) c.df
 l:c.di.length=w.dc.di.length
 u:c.AL.length=w.dc.AL.length
 x:c.Dr.length=w.AB.length
 k:c.Nf.length=w.AB.length
 o:c.dt.length<=K
 p:∀(i j:Nat)(hi:i<j)(hj:j<w.AB.length),w.AB[i].db=w.AB[j].db->(j:Int)∈c.dt->(i:Int)∈c.dt
 h:∀t k,0<=t->CC k w.dc.AK.length=true->∀m,m<=w.AB.length->(∀(i:Nat)(hi:i<w.AB.length),w.AB[i].db=t->((i:Int)∈c.dt↔i<m))->hpL t (ix c.df.AK k)=HF w.dc t k (w.AB.take m) (hpL t (ix w.dg.df.AK k))
 X:XI w.dc c.df
theorem oE.step{w:AE}(hw:WQ w){K:Nat}{c:Ab}(d:oE w K c){i:Nat}(hi:i<w.AB.length)(J:(i:Int)∉c.dt)(Q:∀(j:Nat)(z:j<i),w.AB[j].db=w.AB[i].db->(j:Int)∈c.dt)(G:B0 w.dc c.df w.AB[i].db w.AB[i].de w.AB[i].dq)(wake:Int){C F:List EO}{X:ko}{W:i6}(R:C.length=c.di.length)(S:F.length=c.AL.length)(U:X.length=c.Dr.length)(T:W.length=c.Nf.length):oE w (K+1) ⟨(Cr w.dc c.df w.AB[i].db w.AB[i].de w.AB[i].dq wake).1,C,F,c.dt++[(i:Int)],X,W⟩:=by have hq:=Ts hw.f.v;refine⟨Zs d.f _ _ _ _,d.r.apply _ _ _ _ _,R.trans d.l,S.trans d.u,U.trans d.x,T.trans d.k,by have:=d.o;simp;omega,?_,?_,d.X.apply hq G⟩;(intro a b E V y s;rcases AAX.1 s with s|s);exact ABA _ (d.p a b E V y s);grind;intro t k y I m s D;dsimp only at D |-;rw[Za G I];by_cases q:w.AB[i].db=t;(have Z:i<m:=(D i hi q).1 ak;have O:w.AB.take m=w.AB.take (i+1)++(w.AB.take m).drop (i+1):=(by have:=ABE (i+1) (w.AB.take m);rw[List.take_take,Nat.min_eq_left (by omega)]at this;exact this.symm);have P:∀e∈(w.AB.take m).drop (i+1),e.db≠t:=by intro e H g;obtain⟨j,z,rfl⟩:=ABM H;simp only[List.length_drop,ABe]at z;rw[List.getElem_drop,List.getElem_take]at g;have B:i+1+j<w.AB.length:=ah;(have:=(D (i+1+j) B g).2 ah;rcases AAX.1 this with L|L);exact J (d.p i (i+1+j) ah B (q.trans g.symm) L);grind);rw[O,HF_skip _ _ _ P,<- AAe hi,HF_snoc,AAM q,q,own_eq y];congr 1;refine d.h t k y I i ah λj z n=>⟨λM=>?_,λN=>Q j N (n.trans q.symm)⟩;refine Decidable.byContradiction λhn=>?_;by_cases e:j=i;grind;exact J (d.p i j ah z (q.trans n.symm) M);rw[other_eq G y q];refine d.h t k y I m s λj z n=>?_;grind
instance:Inhabited AH:=⟨⟨0,0,0,0,0,[],[]⟩⟩
def Ik(s r:AH):Bool:=s.dq==r.dq&&(s.de==4&&r.de==3||s.de==22&&r.de==23)
def OP(w:AE)(n:Int)(r:AH)(i:Nat)(s:AH):Bool:=Ik s r&&(s.dn==r.dn&& !(s.db==r.db&&decide ((i:Int)>n)))
def JL(w:AE)(n:Int)(r:AH):Nat->List AH->List Int|_,[]=>[]|i,s::l=>if OP w n r i s=true then(i:Int)::JL w n r (i+1) l else JL w n r (i+1) l
def Nn(w:AE)(r:AH):Bool:=if r.de=23 then ix w.dg.df.Br r.dq&&ix w.dg.AL r.dq==r.dn else ix w.dg.di r.dq==r.dn
def Jz(w:AE)(n:Int):List Int:=if CC n w.AB.length=true/\((ix w.AB n).de=3\/(ix w.AB n).de=23)then(if Nn w (ix w.AB n)=true then[-1]else[])++JL w n (ix w.AB n) 0 w.AB else[]
theorem zA(s r:AH):GQ s r=some (Ik s r):=by unfold GQ GQ.J1 Ik;grind
theorem read_eq(r:AH):Ib r=some (r.de==3||r.de==23):=by unfold Ib Ib.J1;grind
theorem Vj(hn:w.AB.length<=16)(n:Int)(r:AH):∀(m i:Nat)(c:i6),i<=w.AB.length->w.AB.length<m+i->c.length<=i+1->CT.AR n w r m c i=some (c++JL w n r i (w.AB.drop i))|0,i,c,h1,h2,_=>ah|m+1,i,c,h1,h2,h3=>by rw[CT.AR];unfold CT.L1;by_cases hi:i<w.AB.length;(rw[A6 ah,Bm hi,AAG,zA,AAG,D1 hi,JL];have a:∀p,p=OP w n r i w.AB[i]->CT.J3 (CT.AR n w r m) c i p=some (c++if OP w n r i w.AB[i]=true then(i:Int)::JL w n r (i+1) (w.AB.drop (i+1))else JL w n r (i+1) (w.AB.drop (i+1))):=by rintro p rfl;unfold CT.J3 CT.J4;rw[AX ah];split;rw[Bb ah,Vj hn n r m (i+1) _ ah ah an];simp;rw[Vj hn n r m (i+1) c ah ah ah]);unfold OP at a |-;grind;rw[Aa ah,Et ah];simp[CT.J5,JL]
theorem uI(d:WQ w)(hi:i<w.AB.length):(w.AB[i].de=3->CC w.AB[i].dq w.dg.di.length)/\(w.AB[i].de=23->CC w.AB[i].dq w.dg.df.Br.length/\CC w.AB[i].dq w.dg.AL.length):=by
 have j:=Kq d.g.v;obtain⟨f1,f2,f3,f4⟩:=IW d.f.f;have f5:=(Dl f1).2.1;have key:∀{l:js}{s:AD},Uf w.dc s l->∀e∈l,BC w.dc e.de e.dq:=by intro l;induction l with|nil=>simp_all|cons a r ih=>(intro s c e b;rcases AAg.1 b with rfl|b);have:=poss_en c.1;unfold B0 at this;simp_all;exact ih c.2 e b
 have h:=key j.p _ (AAS hi);unfold BC at h;grind
theorem rCand_eq(d:WQ w)(n:Int):CT w n=some (Jz w n):=by have q:=BK;have hn:=d.f.e;unfold CT Jz;by_cases hi:CC n w.AB.length=true;(have j:=A0.1 hi;rw[Aa ah,Aa ah,Bz hi,AAG,read_eq,AAG];unfold CT.J1;cases a:((ix w.AB n).de==3||(ix w.AB n).de==23)with|false=>simp_all|true=>(simp only[Bool.not_true,AAR,AAY];have c:(ix w.AB n).de=3\/(ix w.AB n).de=23:=(by simpa using a);rw[AAM ⟨hi,c⟩,Bz hi,AAG];have b:n.toNat<w.AB.length:=ah;have m:ix w.AB n=w.AB[n.toNat]:=(by unfold ix;simp[b]);obtain⟨g,i⟩:=uI d b;rw[<- m]at g i;have k:HS w (ix w.AB n)=some (Nn w (ix w.AB n)):=by(unfold HS HS.J1 Nn;rcases c with a|a);rw[AAL aA,AAL ah,Bz (g a)];rfl;obtain⟨o,p⟩:=i a;rw[AAM aA,AAM a,Bz o,AAG,Bz p];grind);rw[k,AAG];unfold CT.J2;split;exact Vj hn n _ BQ 0 [-1] ah ah ak;exact Vj hn n _ BQ 0 [] ah ah ak);have j:n<0\/n>=w.AB.length:=(by simp only[CC,AAH,AAa]at hi;omega);have l:¬(CC n w.AB.length=true/\((ix w.AB n).de=3\/(ix w.AB n).de=23)):=λh=>hi h.1;rw[AAL l];unfold CT.J1;grind
end
theorem zM:Fk=some true:=by decide +kernel
variable{r:AF}{B T:je}{d:Type}
section
set_option maxHeartbeats 4000000
theorem Le(hn:w.AB.length<=16)(n f:Int)(r:AH)(b:r.de=3/\f=4\/r.de=23/\f=22)(d:∀i:Nat,(i:Int)=n->∀hi:i<w.AB.length,w.AB[i].de≠f):∀(m i:Nat)(c:i6),i<=w.AB.length->w.AB.length<m+i->c.length<=i+1->BN.AR n f w r m c i=some (c++JL w n r i (w.AB.drop i))|0,i,c,a,h2,_=>ah|m+1,i,c,a,h2,h3=>by rw[BN.AR];unfold BN.L1;by_cases hi:i<w.AB.length;(rw[A6 ah,Bm hi,AAG,D1 hi,JL];have j:=λh=>d i h hi;have g:∀p,p=OP w n r i w.AB[i]->BN.J5 (BN.AR n f w r m) c i p=some (c++if OP w n r i w.AB[i]=true then(i:Int)::JL w n r (i+1) (w.AB.drop (i+1))else JL w n r (i+1) (w.AB.drop (i+1))):=by rintro p rfl;unfold BN.J5 BN.J6;rw[AX ah];split;rw[Bb ah,Le hn n f r b d m (i+1) _ ah ah an];simp;rw[Le hn n f r b d m (i+1) c ah ah ah]);(have s:OP w n r i w.AB[i]=false->BN.J6 (BN.AR n f w r m) i c=some (c++if OP w n r i w.AB[i]=true then(i:Int)::JL w n r (i+1) (w.AB.drop (i+1))else JL w n r (i+1) (w.AB.drop (i+1))):=by intro k;rw[<- g false k.symm];unfold BN.J5;rw[AAL ak]);(generalize w.AB[i]=e at*;have q:Ik e r=(e.de==f&&e.dq==r.dq):=by(unfold Ik;rcases b with⟨a,rfl⟩|⟨a,rfl⟩);grind;grind);(have u:∀o,o= !(Ik e r&&e.dn==r.dn)->BN.J4 (BN.AR n f w r m) c n i r e o=some (c++if OP w n r i e=true then(i:Int)::JL w n r (i+1) (w.AB.drop (i+1))else JL w n r (i+1) (w.AB.drop (i+1))):=by rintro o rfl;unfold BN.J4;cases hc:(Ik e r&&e.dn==r.dn)with|false=>rw[AAM ak];apply s;unfold OP;simp_all|true=>simp only[AAH]at hc;rw[AAL ak];have l:e.de=f:=(by have:=hc.1;rw[q]at this;simp at this;exact this.1);have t:(i:Int)≠n:=λh=>j h l;cases ht:e.db==r.db with|false=>rw[AAM am];apply g;unfold OP;simp_all|true=>rw[AAL am];apply g;unfold OP;grind);grind;rw[Aa ah,Et ah];simp[BN.J7,JL]
theorem mcand_eq(m:WQ w)(n:Int):BN w n=some (Jz w n):=by have y:=BK;have hn:=m.f.e;unfold BN Jz;by_cases hi:CC n w.AB.length=true;have r:=A0.1 hi;rw[Aa ah];unfold BN.J1;rw[Aa ah,Bz hi,AAG];have k:n.toNat<w.AB.length:=ah;have u:ix w.AB n=w.AB[n.toNat]:=(by unfold ix;simp[k]);obtain⟨o,p⟩:=uI m k;rw[<- u]at o p;have d:∀f,(ix w.AB n).de≠f->∀i:Nat,(i:Int)=n->∀hi:i<w.AB.length,w.AB[i].de≠f:=(by intro f s i q hi;have:ix w.AB n=w.AB[i]:=(by rw[<- q,DC hi]);rw[<- this];exact s);by_cases g:(ix w.AB n).de=3;have j:CC n w.AB.length/\((ix w.AB n).de=3\/(ix w.AB n).de=23):=⟨hi,.inl g⟩;rw[AAM am,Bz (o g),AAG,AAM j];have l:Nn w (ix w.AB n)=(ix w.dg.di (ix w.AB n).dq==(ix w.AB n).dn):=(by unfold Nn;rw[AAL (by omega)]);rw[<- l];unfold BN.J3;by_cases b:Nn w (ix w.AB n)=true;rw[AAM b,AAM b];exact Le hn n 4 _ (.inl ⟨g,rfl⟩) (d 4 ah) BQ 0 [-1] ah ah ak;rw[AAL b,AAL b];exact Le hn n 4 _ (.inl ⟨g,rfl⟩) (d 4 ah) BQ 0 [] ah ah ak;rw[AAL am];by_cases a:(ix w.AB n).de=23;((obtain⟨v,x⟩:=p a;have c:CC n w.AB.length/\((ix w.AB n).de=3\/(ix w.AB n).de=23):=⟨hi,.inr a⟩;rw[AAM am,Bz v,AAG,AAM c];have l:Nn w (ix w.AB n)=(ix w.dg.df.Br (ix w.AB n).dq&&ix w.dg.AL (ix w.AB n).dq==(ix w.AB n).dn):=(by unfold Nn;rw[AAM a]);have B:∀z,z=Nn w (ix w.AB n)->BN.J2 n w (ix w.AB n) z=some ((if Nn w (ix w.AB n)=true then[-1]else[])++JL w n (ix w.AB n) 0 w.AB):=by rintro z rfl;unfold BN.J2 BN.J3;by_cases b:Nn w (ix w.AB n)=true;rw[AAM b,AAM b];exact Le hn n 22 _ (.inr ⟨a,rfl⟩) (d 22 ah) BQ 0 [-1] ah ah ak;rw[AAL b,AAL b];exact Le hn n 22 _ (.inr ⟨a,rfl⟩) (d 22 ah) BQ 0 [] ah ah ak);cases hd:ix w.dg.df.Br (ix w.AB n).dq with|true=>simp only[AAl];rw[Bz x,AAG];simp_all|false=>simp_all);simp_all;have r:n<0\/n>=w.AB.length:=(by simp only[CC,AAH,AAa]at hi;omega);have t:¬(CC n w.AB.length=true/\((ix w.AB n).de=3\/(ix w.AB n).de=23)):=λh=>hi h.1;rw[AAL t];unfold BN.J1;grind
def FE(t:Int):Nat->List AH->List Int|_,[]=>[]|i,e::l=>if e.db=t then(i:Int)::FE t (i+1) l else FE t (i+1) l
def jV(w:AE):List (List Int):=(List.range w.dc.AA.length).map λ(t:Nat)=>FE (t:Int) 0 w.AB
def relB(r:AF)(i j:Nat):Bool:=((((r.d9)[i]?).getD [])[j]?).getD false
structure RW (w:AE) (r:AF) (A:Nat->Nat->Prop):Prop where
 s:r.w=w
 l:r.ej=jV w
 n:r.d9.length=w.AB.length
 m:∀x∈r.d9,x.length=w.AB.length
 a:∀i j,i<w.AB.length->j<w.AB.length->(relB r i j=true↔A i j)
def RW.congr{A:je}(h:RW w r A)(c:∀i j,i<w.AB.length->j<w.AB.length->(A i j↔B i j)):RW w r B:=⟨h.s,h.l,h.n,h.m,λi j hi b=>(h.a i j hi b).trans (c i j hi b)⟩
theorem RW.row{A:je}(h:RW w r A)(b:n<w.AB.length):∃row,gt r.d9 (n:Int)=some row/\r.d9[n]? =some row/\row.length=w.AB.length:=by
 have a:n<r.d9.length:=by rw[h.n];exact b
 exact⟨r.d9[n],Bm a,AAO a,h.m _ (AAS a)⟩
theorem RW.get{A:je}(h:RW w r A)(c:n<w.AB.length)(g:i<w.AB.length){f:Bool->ABi d}{R:d->Prop}(k:∀b,(b=true↔A n i)->Bp (f b) R):Bp ((gt r.d9 (n:Int)).bind λx=>(gt x (i:Int)).bind f) R:=by obtain⟨row,e,q,j⟩:=h.row c;rw[e,AAG,Bm (show i<row.length by omega),AAG];refine k _ ?_;have:=h.a n i c g;unfold relB at this;simp_all
theorem RW.put{A:je}(h:RW w r A)(g:n<w.AB.length)(k:i<w.AB.length){row:ko}(f:r.d9[n]? =some row):RW w ⟨r.w,r.ej,r.ew,r.d9.set n (row.set i true)⟩ (λq j=>A q j\/q=n/\j=i):=by have c:row.length=w.AB.length:=h.m _ (AAW f);refine⟨h.s,h.l,by simpa using h.n,?_,?_⟩;(intro x b;rcases AAw b with b|rfl);exact h.m x b;simp_all;intro q j hi e;have d:=h.a q j hi e;unfold relB at d |-;grind
theorem RW.set{A:je}(h:RW w r A)(a:n<w.AB.length)(g:i<w.AB.length){f:List Bool->Bool->ABi d}{R:d->Prop}(k:∀row b,RW w ⟨r.w,r.ej,r.ew,r.d9.set n (row.set i true)⟩ (λq j=>A q j\/q=n/\j=i)->Bp (f row b) R):Bp ((gt r.d9 (n:Int)).bind λx=>(gt x (i:Int)).bind (f x)) R:=by obtain⟨row,c,e,l⟩:=h.row a;rw[c,AAG,Bm (show i<row.length by omega),AAG];exact k row _ (h.put a g e)
def WA(A:je)(k i j:Nat):Prop:=A i j\/A i k/\A k j
def WN(A:je):Nat->Nat->Nat->Prop|0=>A|k+1=>WA (WN A k) k
theorem ZU(A:je):∀k z,z<k->∀x y,WN A k x z->WN A k z y->WN A k x y:=by intro k;induction k with|zero=>omega|succ k ih=>intro z c x y b a;by_cases e:z=k;subst e;exact .inr ⟨b.elim id λh=>h.1,a.elim id λh=>h.2⟩;(have c:z<k:=ah;rcases b with b|b);(rcases a with a|a);exact .inl (ih z c x y b a);exact .inr ⟨ih z c x k b a.1,a.2⟩;(rcases a with a|a);exact .inr ⟨b.1,ih z c k y b.2 a⟩;exact .inr ⟨b.1,a.2⟩
def Wg(A:je):∀k {x y},A x y->WN A k x y|0,_,_,h=>h|k+1,_,_,h=>.inl (Wg A k h)
theorem Y1{A:je}(a:∀x y,x<n->y<n->A x y->T x y)(b:∀x z y,x<n->z<n->y<n->T x z->T z y->T x y):∀k,k<=n->∀x y,x<n->y<n->WN A k x y->T x y:=by
 intro k;induction k with
 |zero=>exactλ_=>a
 |succ k ih=>
  intro c x y d e h;rcases h with h|h
  all_goals grind
theorem close_tot(hn:w.AB.length<=16){A:je}(h:RW w r A):Bp (Ax r) λa=>RW w a (WN A w.AB.length):=by
 have V:=BK;have U:=h.n;have key:∀(n k:Nat)(x:AF),w.AB.length<n+k->k<=w.AB.length->RW w x (WN A k)->Bp (Ax.AR r n x k) λa=>RW w a (WN A w.AB.length):=by intro n;induction n with|zero=>omega|succ n ih=>intro k x S T G;unfold Ax.AR Ax.L1;refine tI (λt=>?_) λt=>?_;rotate_left;have:=ABK t;obtain rfl:k=w.AB.length:=ah;exact tR G;(have t:=AAQ t;have p:k<w.AB.length:=ah;generalize K:WN A k=B at G;have W:∀(m c:Nat)(y:AF),w.AB.length<m+c->c<=w.AB.length->RW w y (λi j=>B i j\/i<c/\B i k/\B k j)->Bp (Ax.Bs (Ax.AR r n) r k m y c) λa=>RW w a (WN A w.AB.length):=by intro m;induction m with|zero=>omega|succ m ih2=>intro c y R g2 C;unfold Ax.Bs Ax.L2;refine tI (λd=>?_) λd=>?_;(. have d:=AAQ d;have f:c<w.AB.length:=ah;have H:∀z,RW w z (λi j=>B i j\/i<c+1/\B i k/\B k j)->Bp (Ax.J2 (Ax.Bs (Ax.AR r n) r k m) c z) λa=>RW w a (WN A w.AB.length):=(by intro z q;unfold Ax.J2;rw[AX (by omega)];exact ih2 (c+1) z (by omega) (by omega) q);refine C.get f p λb E=>tI (λM=>?_) λO=>?_;have M:¬B c k:=λL=>am;refine H y (C.congr λi j hi s=>⟨λg=>g.imp id λg=>⟨ah,g.2⟩,λg=>g.elim .inl λg=>?_⟩);grind;(. (have P:B c k:=(by have D:b=true:=(by simpa using O);exact(E.1 D).elim id λg=>by omega);have X:∀(u e:Nat)(z:AF),w.AB.length<u+e->e<=w.AB.length->RW w z (λi j=>(B i j\/i<c/\B i k/\B k j)\/i=c/\j<e/\B k j)->Bp (Ax.E3 (Ax.Bs (Ax.AR r n) r k m) r k c u z e) λa=>RW w a (WN A w.AB.length):=by intro u;induction u with|zero=>omega|succ u ih3=>intro e z Z q2 v;unfold Ax.E3 Ax.L3;refine tI (λl=>?_) λl=>?_;(. have l:=AAQ l;have o:e<w.AB.length:=ah;have j1:∀z,RW w z (λi j=>(B i j\/i<c/\B i k/\B k j)\/i=c/\j<e+1/\B k j)->Bp (Ax.J1 (Ax.E3 (Ax.Bs (Ax.AR r n) r k m) r k c u) e z) λa=>RW w a (WN A w.AB.length):=(by intro z q;unfold Ax.J1;rw[AX (by omega)];exact ih3 (e+1) z (by omega) (by omega) q);refine v.get p o λQ J=>tI (λI=>?_) λN=>?_;(. (have F:B k e:=by(rcases J.1 I with(g|g)|g);exact g;exact g.2.2;exact g.2.2);refine v.set f o λrow _ q=>?_;rw[AAi,AAi];refine j1 _ (q.congr λi j hi s=>⟨λg=>?_,λg=>?_⟩);all_goals grind);have F:¬B k e:=λg=>am;refine j1 z (v.congr λi j hi s=>⟨λg=>g.imp id λg=>⟨g.1,ah,g.2.2⟩,λg=>g.imp id λg=>?_⟩);grind);(. have l:=ABK l;obtain rfl:e=w.AB.length:=ah;refine H z (v.congr λi j hi s=>⟨λg=>?_,λg=>?_⟩);all_goals grind));grind));have d:=ABK d;obtain rfl:c=w.AB.length:=ah;unfold Ax.J3;rw[AX ah];refine ih (k+1) y ah ah (C.congr λi j hi s=>?_);show _↔WA (WN A k) k i j;rw[K];exact⟨λg=>g.imp id λg=>g.2,λg=>g.imp id λg=>⟨hi,g⟩⟩);grind
 exact key BQ 0 r ah ah h
theorem IH(h:FV wv s e):B0 wv s.df e.db e.de e.dq/\CC e.db wv.AA.length/\BC wv e.de e.dq/\Eg wv s.df e.db e.de e.dq/\He wv s.df:=by unfold FV at h;simp only[AAH]at h;have a:=h.2.2.1;have b:=a;unfold B0 at a;simp_all
theorem Hw{s:AQ}{f:AM->AM}(hi:CC o s.AA.length)(a:CC t s.AA.length):ix (KI s o f).AA t=if t=o then f (ix s.AA o)else ix s.AA t:=by have b:=A0.1 hi;have c:=A0.1 a;unfold KI ix;grind
theorem wakeF_st(o:Int)(x:AM):(Hz o x).dm=x.dm\/(x.dm=3/\(Hz o x).dm=4):=by unfold Hz Ic Iu;grind
theorem waitL_in(o:Int):∀(l:kx)(i:Nat)(x:Int),x∈CJ o i l->∃(k:Nat)(b:k<l.length),x=((i+k:Nat):Int)/\l[k].dm=3:=by
 intro l;induction l with
 |nil=>intro i x a;simp[CJ]at a
 |cons y l ih=>
  intro i x a;have c:x∈CJ o (i+1) l->∃(k:Nat)(b:k<(y::l).length),x=((i+k:Nat):Int)/\(y::l)[k].dm=3:=λh=>by obtain⟨k,b,f,d⟩:=ih _ _ h;exact⟨k+1,am,ah,d⟩
  unfold CJ at a;split at a;(rename_i e;rcases AAg.1 a with rfl|a);refine⟨0,ak,ak,?_⟩;unfold Ic at e;simp_all;simp_all;simp_all
theorem MU(h:FV wv s e)(K:CC t wv.AA.length):(ix (Ed wv s e).df.AA t).dm=(if e.de=20/\t=e.dq then 1 else if t=e.db/\e.de=1 then 2 else if t=e.db/\e.de=2 then 5 else if t=e.db/\e.de=16 then 3 else if t=e.db/\e.de=17 then 2 else(ix s.df.AA t).dm)\/((ix s.df.AA t).dm=3/\(ix (Ed wv s e).df.AA t).dm=4):=by
 obtain⟨_,I,j,M,G⟩:=IH h;have l:=(Dl G).2.2;have c:CC t s.df.AA.length:=by rw[l];exact K
 have d:CC e.db s.df.AA.length:=by rw[l];exact I
 unfold Ed Cr;dsimp only;by_cases v:e.de=1;left;rw[if_pos v];dsimp only;rw[Hw d c];grind;rw[AAL v];by_cases w:e.de=2;left;rw[if_pos w];dsimp only;rw[Hw d c];grind;rw[AAL w];by_cases o:e.de=6\/e.de=10;(left;rw[AAM o];rcases o with k|k<;>simp[k,HN]);rw[AAL o];by_cases p:e.de=7\/e.de=11;(left;rw[AAM p];rcases p with k|k<;>simp[k,HN]);rw[AAL p];by_cases x:e.de=8;left;simp[x,HN];rw[AAL x];by_cases y:e.de=9;left;simp[y,HN];rw[AAL y];by_cases L:e.de=12;simp_all;rw[AAL L];by_cases n:e.de=13;simp_all;rw[AAL n];by_cases f:e.de=14;left;rw[if_pos f];dsimp only;rw[Hw d c];grind;rw[AAL f];by_cases g:e.de=15;left;rw[if_pos g];dsimp only;rw[Hw d c];grind;rw[AAL g];by_cases r:e.de=16;left;rw[if_pos r];dsimp only;rw[Hw (by simpa[HN]using d) (by simpa[HN]using c)];split<;>simp[*,HN];rw[AAL r];by_cases q:e.de=17;left;rw[if_pos q];dsimp only;rw[Hw (by simpa[HN]using d) (by simpa[HN]using c)];split<;>simp[*,HN];rw[AAL q];by_cases i:e.de=18;rw[AAM i,AAM i];dsimp only;split;omega;(rename_i C;have m:EU e.dn (CJ e.dq 0 s.df.AA)∈CJ e.dq 0 s.df.AA:=by unfold EU;rw[AAL C];split;simp_all;cases hw:CJ e.dq 0 s.df.AA with|nil=>simp_all|cons a b=>simp);obtain⟨k,J,u,F⟩:=waitL_in _ _ _ _ m;have D:CC (EU e.dn (CJ e.dq 0 s.df.AA)) s.df.AA.length:=(by rw[u];unfold CC;simp;omega);rw[Hw D c];split;rename_i E;right;refine⟨?_,rfl⟩;rw[E,u,AA7,DC J];exact F;omega;rw[AAL i];by_cases z:e.de=19
 . (rw[AAM z];have m:ix (s.df.AA.map (Hz e.dq)) t=Hz e.dq (ix s.df.AA t):=(by have:=A0.1 c;unfold ix;rw[AAU,AAO (by omega)];rfl);dsimp only;rw[m];rcases wakeF_st e.dq (ix s.df.AA t)with h|h);all_goals omega
 rw[AAL z];by_cases B:e.de=20;left;have H:CC e.dq s.df.AA.length:=(by rw[l];unfold BC at j;rw[B]at j;simpa(decide:=true)only[AAl,AAY,or_true,true_or,AA6]using j);rw[if_pos B];dsimp only;rw[Hw H c];grind;grind
theorem set_mid(a:List d)(x y:d)(b:List d):(a++x::b).set a.length y=a++y::b:=ak
theorem ZL(l:i6)(v:Int)(b:l.length<=1000000):∀(n i:Nat),i<=l.length->l.length<n+i->Iq.AR l v n (i:Int)=some ((l.drop i).contains v)|0,i,h1,h2=>ah|n+1,i,h1,h2=>by rw[Iq.AR];unfold Iq.L1;by_cases hi:i<l.length;rw[A6 ah,Bm hi,AAG,D1 hi,List.contains_cons,AX ah,ZL l v b n (i+1) ah ah];by_cases h:l[i]=v;simp[h];have a:¬v=l[i]:=λe=>h e.symm;simp[h,a];rw[Aa ah,Et ah];rfl
theorem Has27_eq(l:i6)(v:Int)(a:l.length<=1000000):Iq l v=some (l.contains v):=ZL l v a BQ 0 ah bh
def Mc(w:Bool)(h:Ul):List Int:=PS (if w=true then h.SH else h.SH++h.uV)
def Pj(a:Ks)(t:Int)(w:Bool)(h:Ul):Ks×Bool:=if a.ef=0\/a.ef=1/\t=a.B6 then(⟨1,t,[]⟩,false)
 else(⟨if w=true then 3 else if a.ef=1 then 2 else a.ef,0,if a.ef=1 then Mc w h else a.AK.filter (Mc w h).contains⟩,(if w=true then 3 else if a.ef=1 then 2 else a.ef)==3&&((if a.ef=1 then Mc w h else a.AK.filter (Mc w h).contains).length:Int)==0)
structure EI (a:Ks):Prop where
 s:a.ef=0\/a.ef=1\/a.ef=2\/a.ef=3
 o:a.AK.Pairwise (· < ·)
 l:a.AK.length<=1000
def HL(h:Ul):Prop:=h.SH.length<=100/\h.uV.length<=100
theorem xS{w:Bool}{h:Ul}(a:HL h):(Mc w h).length<=200:=by have b:=a.1;have c:=a.2;unfold Mc;refine ABB (WE _) ?_;split;omega;simp only[AAx];omega
theorem EI.step{a:Ks}(b:EI a){t:Int}{w:Bool}{h:Ul}(c:HL h):EI (Pj a t w h).1:=by have e:=xS (w:=w) c;have f:=b.s;unfold Pj;split;exact⟨.inr (.inl rfl),.nil,ak⟩;rename_i d;refine⟨?_,?_,?_⟩;simp only;split;omega;split<;>omega;simp only;split;exact Mt _;exact b.o.filter _;simp only;split;omega;exact ABB (List.length_filter_le _ _) b.l
def QG(l:i6)(x:Int):List Int:=if 0<=x/\x<(l.length:Int)then[ix l x]else[]
theorem hitL_cons(e:Int)(l:i6)(x:Int):QG (e::l) x=if x=0 then[e]else QG l (x-1):=by unfold QG;by_cases h:x=0;subst h;rw[AAM rfl,AAM ak];rfl;rw[AAL h];by_cases a:0<=x/\x<((e::l).length:Int);have b:0<=x-1/\x-1<(l.length:Int):=(by simp at a;omega);rw[AAM a,AAM b];unfold ix;obtain⟨n,hn⟩:∃n:Nat,x=n+1:=⟨(x-1).toNat,ah⟩;simp_all;grind
theorem uE(l:i6)(x:Int):(QG l x).length<=1:=by unfold QG;grind
def Dm(w:AE)(t:Int)(ks:i6):List Int:=ks.flatMap λk=>QG (FE t 0 w.AB) (k-ix w.dg.dh t)
theorem Tg(w:AE)(t k:Int)(a:i6):Dm w t (k::a)=QG (FE t 0 w.AB) (k-ix w.dg.dh t)++Dm w t a:=by simp[Dm]
theorem Uh(t:Int):∀(l:js)(i:Nat)(x:Int),x∈FE t i l->∃(k:Nat)(b:k<l.length),x=((i+k:Nat):Int)/\l[k].db=t:=by
 intro l;induction l with
 |nil=>intro i x a;simp[FE]at a
 |cons y l ih=>
  intro i x a;have c:x∈FE t (i+1) l->∃(k:Nat)(b:k<(y::l).length),x=((i+k:Nat):Int)/\(y::l)[k].db=t:=λh=>by obtain⟨k,b,f,d⟩:=ih _ _ h;exact⟨k+1,am,ah,d⟩
  unfold FE at a;split at a;(rename_i e;rcases AAg.1 a with rfl|a);exact⟨0,ak,ak,e⟩;simp_all;simp_all
theorem RA(t:Int):∀(l:js)(i:Nat),(FE t i l).length<=l.length:=by intro l;induction l with|nil=>intro i;simp[FE]|cons y l ih=>intro i;have:=ih (i+1);unfold FE;grind
def InW(w:AE)(c:i6):Prop:=∀q∈c,∃m:Nat,m<w.AB.length/\q=(m:Int)
theorem Wv:∀q∈Dm w t c,∃m:Nat,∃b:m<w.AB.length,q=(m:Int)/\w.AB[m].db=t:=by intro q d;obtain⟨k,_,a⟩:=List.mem_flatMap.1 d;generalize k-ix w.dg.dh t=y at a;unfold QG at a;split at a;rename_i h;have b:ix (FE t 0 w.AB) y∈FE t 0 w.AB:=(by unfold ix;rw[AAO (by omega)];exact AAS _);simp only[AAc]at a;obtain⟨i,e,f,g⟩:=Uh _ _ _ _ b;grind;grind
theorem aC(w:AE)(t:Int):∀a:List Int,(Dm w t a).length<=a.length:=by intro a;unfold Dm;induction a with|nil=>simp|cons k a ih=>have:=uE (FE t 0 w.AB) (k-ix w.dg.dh t);grind
def ZH(ks:i6):Prop:=ks.length<=1000/\∀k∈ks,0<=k/\k<=1000
theorem eJ(hn:w.AB.length<=16)(L1:List Int->Int->ABi (List Int))(c b j:Int):∀(n e:Nat)(i:i6)(f:Int),e<=w.AB.length->w.AB.length<n+e->i.length<=1000000+e->0<=f->f<=1000+e->DO.Bs L1 c b w j n i f (e:Int)=DO.J3 L1 c (i++QG (FE b e (w.AB.drop e)) (j-f))|0,e,i,f,h1,h2,_,_,_=>ah|n+1,e,i,f,h1,h2,h3,h4,h5=>by rw[DO.Bs];unfold DO.L2;by_cases hi:e<w.AB.length;rw[A6 ah,Bm hi,AAG,D1 hi];unfold DO.J2 DO.J1 DO.J2;by_cases a:w.AB[e].db=b;rw[FE,AAM a,hitL_cons,AAL (by simp[a])];by_cases d:f=j;rw[AAM (by simp[d]),Bb ah,AAM ah,CD ah ah,AX ah,eJ hn L1 c b j n (e+1) _ (f+1) ah ah an ah ah];have:QG (FE b (e+1) (w.AB.drop (e+1))) (j-(f+1))=[]:=(by unfold QG;rw[AAL (by omega)]);simp_all;rw[AAL am,AAL ah,CD ah ah,AX ah,eJ hn L1 c b j n (e+1) i (f+1) ah ah ah ah ah];grind;rw[FE,AAL a,AAM am,AX ah,eJ hn L1 c b j n (e+1) i f ah ah ah h4 ah];have:QG [] (j-f)=[]:=(by unfold QG;rw[AAL (by simp)]);rw[Aa ah,Et ah,FE,this,ABc]
theorem cntQ(b:WQ w):∀u,CC u w.dc.AA.length->0<=ix w.dg.dh u/\ix w.dg.dh u<=400:=by have a:=b.g.v;unfold KP Tc at a;simp only[AAH]at a;exact wJ b.f.l a.2.2.2.1.1
theorem rO(d:WQ w)(g:CC b w.dc.AA.length)(h:ZH c):DO w b c=some (Dm w b c):=by
 have r:=BK;have hn:=d.f.e;have j:CC b w.dg.dh.length:=by rw[d.f.l.c];exact g
 have m:=cntQ d b g;have key:∀(n i:Nat)(l:i6),i<=c.length->c.length<n+i->l.length<=i->DO.AR c b w n l (i:Int)=some (l++Dm w b (c.drop i)):=by intro n;induction n with|zero=>omega|succ n ih=>intro i l o p q;rw[DO.AR];unfold DO.L1;have k:=h.1;by_cases hi:i<c.length;rw[A6 ah,Bm hi,AAG,Bz j,AAG];have:=eJ hn (DO.AR c b w n) i b c[i] BQ 0 l (ix w.dg.dh b) ah ah ah ah ah;rw[AAn]at this;rw[show((0:Nat):Int)=0 from rfl]at this;rw[this];unfold DO.J3;rw[AX ah,ih (i+1) _ ah ah (by have:=uE (FE b 0 w.AB) (c[i]-ix w.dg.dh b);simp;omega),show Dm w b (c.drop i)=QG (FE b 0 w.AB) (c[i]-ix w.dg.dh b)++Dm w b (c.drop (i+1))from by rw[D1 hi,Tg],ABO];rw[Aa ah,Et ah];simp[DO.J4,Dm]
 have:=key BQ 0 [] ah (by have:=h.1;omega) ak;simpa[DO]using this
theorem O7(a:CC b w.dc.AA.length):gt (jV w) b=some (FE b 0 w.AB):=by have h:=A0.1 a;obtain⟨n,rfl⟩:∃n:Nat,b=n:=⟨b.toNat,ah⟩;rw[Jv];unfold jV;simp_all
theorem jX(k:WQ w)(p:r.w=w)(m:r.ej=jV w)(d:CC b w.dc.AA.length)(j:ZH c):B9 r b c=some (Dm w b c,r):=by
 have B:=BK;have hn:=k.f.e;have q:CC b r.w.dg.dh.length:=by rw[p,k.f.l.c];exact d
 have u:=cntQ k b d;have o:=RA b w.AB 0;have key:∀(n i:Nat)(l:i6),i<=c.length->c.length<n+i->l.length<=i->B9.AR c r b n l (i:Int)=some (l++Dm w b (c.drop i),r):=by intro n;induction n with|zero=>omega|succ n ih=>intro i l x y z;rw[B9.AR];unfold B9.L1;have s:=j.1;by_cases hi:i<c.length;have v:=j.2 _ (AAS hi);rw[A6 ah,Bm hi,AAG,Bz q,AAG,m,O7 d,p,CD ah ah,D1 hi];have t:Dm w b (c[i]::c.drop (i+1))=QG (FE b 0 w.AB) (c[i]-ix w.dg.dh b)++Dm w b (c.drop (i+1)):=Tg ..;rw[t];unfold B9.J1 B9.J2;by_cases g:c[i]-ix w.dg.dh b>=0;rw[A6 g,AAG];by_cases h:c[i]-ix w.dg.dh b<((FE b 0 w.AB).length:Int);rw[A6 h,m,O7 d,AAG,CD ah ah,Bz (A0.2 ⟨g,h⟩),AAG,Bb ah,AX ah,ih (i+1) _ ah ah an];unfold QG;simp_all;rw[Aa h,AX ah,ih (i+1) _ ah ah ah];unfold QG;simp_all;rw[Aa g,AAL ak,AX ah,ih (i+1) _ ah ah ah];unfold QG;grind;rw[Aa ah,Et ah];simp[B9.J3,Dm]
 have:=key BQ 0 [] ah (by have:=j.1;omega) ak;simpa[B9]using this
theorem filt_lt{p q:d->Bool}(b:∀y,q y->p y):∀{l:List d}{x:d},x∈l->p x->q x=false->(l.filter q).length+1<=(l.filter p).length:=by
 have mono:∀l:List d,(l.filter q).length<=(l.filter p).length:=by intro l;induction l with|nil=>simp|cons y l ih=>grind
 intro l;induction l with|nil=>simp_all|cons y l ih=>grind
def muS(n:Nat)(c:i6):Nat:=((List.range n).filter λi:Nat=>!c.contains (i:Int)).length
theorem mu_add(a:i<n)(b:c.contains (i:Int)=false):muS n (c++[(i:Int)])+1<=muS n c:=by unfold muS;refine filt_lt (λy h=>?_) (ABa.2 a) ?_ ?_;all_goals simp_all
def Nt(c:i6):List Int->List Int|[]=>c|q::r=>Nt (if c.contains q=true then c else c++[q]) r
theorem Wh:∀(a c:i6),∃t,Nt c a=c++t:=by intro a;induction a with|nil=>exactλc=>⟨[],by simp[Nt]⟩|cons q a ih=>intro c;unfold Nt;split;exact ih c;obtain⟨t,b⟩:=ih (c++[q]);simp_all
theorem XT:∀(a c:i6),InW w a->InW w c->(Nt c a).length+muS w.AB.length (Nt c a)<=c.length+muS w.AB.length c/\InW w (Nt c a):=by intro a;induction a with|nil=>exactλc _ d=>⟨AAj _,d⟩|cons q a ih=>intro c e d;have f:InW w a:=λy b=>e y (ABH _ b);unfold Nt;split;simp_all;rename_i h;obtain⟨m,g,rfl⟩:=e q ABD;have i:=mu_add g (by simpa using h);have j:=ih (c++[(m:Int)]) f (λy b=>by(rcases AAX.1 b with b|b);exact d y b;grind);grind
def PR(w:AE)(q:Int):ABi Nat:=match Jz w q with|[x]=>if 0<=x then some x.toNat else none|_=>none
def KR(w:AE):Nat->List Int->Nat->List Int|0,c,_=>c|n+1,c,a=>match c[a]? with|some q=>(match PR w q with|some m=>KR w n (Nt c (Dm w (ix w.AB m).db (ix w.AB m).DS)) (a+1)|none=>KR w n c (a+1))|none=>c
theorem candL_in:∀(l:js)(i:Nat)(x:Int),x∈JL w t e i l->∃k,k<l.length/\x=((i+k:Nat):Int):=by
 intro l;induction l with
 |nil=>intro i x h;simp[JL]at h
 |cons y l ih=>
  intro i x h;have a:x∈JL w t e (i+1) l->∃k,k<(y::l).length/\x=((i+k:Nat):Int):=λh=>by obtain⟨k,b,c⟩:=ih _ _ h;exact⟨k+1,an,ah⟩
  unfold JL at h;split at h;(rcases AAg.1 h with rfl|h);exact⟨0,ak,ak⟩;simp_all;simp_all
theorem oC{n x:Int}(h:x∈Jz w n):x= -1\/∃k,k<w.AB.length/\x=(k:Int):=by unfold Jz at h;split at h;(rcases AAX.1 h with h|h);simp_all;obtain⟨k,a,b⟩:=candL_in _ _ _ h;grind;grind
theorem Nq:PR w t=some i↔i<w.AB.length/\Jz w t=[(i:Int)]:=by
 unfold PR;constructor
 . intro h;split at h;(. rename_i x b;split at h;(. (rename_i a;rcases oC (w:=w) (n:=t) (x:=x) aA with h1|⟨k,h1,h2⟩);all_goals simp_all);grind);grind
 simp_all
theorem uH{f:Bool->ABi d}{R:d->Prop}(a:PR w t=none->Bp (f true) R)(c:∀m,PR w t=some m->Bp (f false) R):Bp (if((Jz w t).length:Int) != 1 then f true else(gt (Jz w t) 0).bind λy=>f (decide (y<0))) R:=by cases hc:Jz w t with|nil=>rw[AAM ak];exact a (by unfold PR;rw[hc])|cons x l=>cases l with|cons y l=>rw[AAM an];exact a (by unfold PR;rw[hc])|nil=>(rw[AAL ak,show gt [x] 0=some x from rfl,AAG];rcases oC (w:=w) (n:=t) (x:=x) aA with rfl|⟨k,hk,rfl⟩);exact a (by unfold PR;grind);have:=c k (Nq.2 ⟨hk,hc⟩);rw[show decide ((k:Int)<0)=false from by simp];exact this
theorem nums_ok:∀(l:js)(s:AD)(K:Int),Uf wv s l->(∀u,CC u wv.AA.length->0<=ix s.dh u/\ix s.dh u<=K)->K+l.length<=1000->∀e∈l,CC e.db wv.AA.length/\ZH e.Dy/\ZH e.DS:=by
 intro l;induction l with
 |nil=>simp_all
 |cons x l ih=>
  intro s K a f o e b;have c:=(IH a.1).2.1;have p:K+(l.length:Int)+1<=1000:=by simp at o;omega
  have i:=f _ c;rcases AAg.1 b with rfl|b
  (obtain⟨w,y⟩:=Ug a.1;have hd:=a.1;unfold FV Ei at hd;simp only[AAH]at hd;obtain⟨_,_,_,_,⟨⟨_,d1⟩,_,t⟩,_⟩:=hd;have len:∀D:List Int,Gk (ix s.dh e.db) 0 D->(∀k∈D,1<=k/\k<ix s.dh e.db)->ZH D:=λD m n=>by refine⟨?_,λk v=>aA⟩;cases D with|nil=>simp|cons d D=>have:=n d ABD;have:=rI (d::D) 0 ah m;omega);simp_all;refine ih _ (K+1) a.2 (λu g=>?_) ah e b;have j:=f u g;have r:=(IW (wv:=wv) (s:=s) (by have h:=a.1;unfold FV at h;simp_all)).2.2.2;have q:=A0.1 g;have z:=A0.1 c;show 0<=ix (s.dh.set x.db.toNat (A8 (ix s.dh x.db+1))) u/\ix (s.dh.set x.db.toNat (A8 (ix s.dh x.db+1))) u<=K+1;rw[CD ah ah];unfold ix at j i |-;grind
theorem evQ(a:WQ w)(hi:i<w.AB.length):CC w.AB[i].db w.dc.AA.length/\ZH w.AB[i].Dy/\ZH w.AB[i].DS:=nums_ok w.AB w.dg 400 (Kq a.g.v).p (cntQ a) (by have:=a.f.e;omega) _ (AAS hi)
theorem kD(L1:List Int->Int->ABi (List Int))(a:Int)(e:i6)(b:e.length<=100000):∀(n d:Nat)(f:i6),d<=e.length->e.length<n+d->f.length<=100000+d->DG.Bs L1 a e n f (d:Int)=DG.J3 L1 a (Nt f (e.drop d))|0,d,f,h1,h2,_=>ah|n+1,d,f,h1,h2,h3=>by rw[DG.Bs];unfold DG.L2;by_cases hi:d<e.length;(rw[A6 ah,Bm hi,AAG,Has27_eq _ _ ah,AAG,D1 hi,Nt];unfold DG.J2;cases hc:f.contains e[d]with|true=>rw[AAL ak,AAM rfl,AX ah,kD L1 a e b n (d+1) f ah ah ah]|false=>rw[AAM ak,Bb ah,AAL ak,AX ah,kD L1 a e b n (d+1) _ ah ah an]);rw[Aa ah,Et ah,Nt]
theorem W3(L1:AF->List Int->Int->ABi AF)(a:Int)(e:List Int×AF)(b:e.1.length<=100000):∀(n d:Nat)(f:i6),d<=e.1.length->e.1.length<n+d->f.length<=100000+d->BF.Bs L1 a e n f (d:Int)=BF.J3 L1 a e.2 (Nt f (e.1.drop d))|0,d,f,h1,h2,_=>ah|n+1,d,f,h1,h2,h3=>by rw[BF.Bs];unfold BF.L2;by_cases hi:d<e.1.length;(rw[A6 ah,Bm hi,AAG,XU _ _ ah,AAG,D1 hi,Nt];unfold BF.J2;cases hc:f.contains e.1[d]with|true=>rw[AAL ak,AAM rfl,AX ah,W3 L1 a e b n (d+1) f ah ah ah]|false=>rw[AAM ak,Bb ah,AAL ak,AX ah,W3 L1 a e b n (d+1) _ ah ah an]);rw[Aa ah,Et ah,Nt]
def RR(w:AE)(c:i6)(a:Nat):Nat:=(c.length-a)+muS w.AB.length c
def Nk(w:AE)(m:Nat):List Int:=Dm w (ix w.AB m).db (ix w.AB m).DS
theorem eF(d:WQ w)(b:n<w.AB.length):InW w (Nk w n)/\(Nk w n).length<=1000:=by refine⟨λq c=>?_,?_⟩;obtain⟨k,e,h,_⟩:=Wv q c;grind;have:=aC w (ix w.AB n).db (ix w.AB n).DS;have a:=(evQ d b).2.2.1;rw[<- DC b]at a;exact ABB this a
theorem Nr(b:i<c.length):KR w (n+1) c i=match PR w c[i]with
 |some m=>KR w n (Nt c (Nk w m)) (i+1)
 |none=>KR w n c (i+1):=by
 rw[KR,AAO b];rfl
theorem Tf(b:¬i<c.length):KR w n c i=c:=by cases n with|zero=>rfl|succ n=>rw[KR,List.getElem?_eq_none ah]
theorem work_pre:∀(n:Nat)(c:i6)(a:Nat),∃t,KR w n c a=c++t:=by intro n;induction n with|zero=>exactλc a=>⟨[],by simp[KR]⟩|succ n ih=>intro c a;by_cases b:a<c.length;rw[Nr b];split;rename_i m _;obtain⟨t,d⟩:=ih (Nt c (Nk w m)) (a+1);obtain⟨u,e⟩:=Wh (Nk w m) c;simp_all;simp_all;exact⟨[],by rw[Tf b];simp⟩
theorem RR_next(b:n<c.length)(d:InW w c):RR w c (n+1)+1<=RR w c n:=by unfold RR;omega
theorem RR_add(i:n<c.length)(b:InW w f)(d:InW w c):RR w (Nt c f) (n+1)+1<=RR w c n:=by
 have g:=(XT f c b d).1;obtain⟨t,e⟩:=Wh f c;have h:c.length<=(Nt c f).length:=by rw[e];simp
 unfold RR;omega
theorem work_in(e:WQ w):∀(n:Nat)(c:i6)(a:Nat),InW w c->InW w (KR w n c a):=by intro n;induction n with|zero=>exactλc a h=>h|succ n ih=>intro c a h;by_cases b:a<c.length;rw[Nr b];split;rename_i m d;exact ih _ _ (XT _ _ (eF e (Nq.1 d).1).1 h).2;simp_all;rw[Tf b];exact h
theorem rwork(g:WQ w):∀(n:Nat)(c:i6)(a:Nat),a<=c.length->RR w c a<n->InW w c->c.length+muS w.AB.length c<=5000->Bp (DG.AR w n c (a:Int)) λr=>r=KR w n c a:=by have x:=BK;intro n;induction n with|zero=>omega|succ n ih=>intro c a s v e o;rw[DG.AR];unfold DG.L1;by_cases b:a<c.length;rw[A6 ah,Bm b,AAG,rCand_eq g,AAG,Nr b];refine uH (f:=λu=>DG.J1 (DG.AR w n) a c (Jz w c[a]) w u) (λl=>?_) λm k=>?_;rw[l];unfold DG.J1 DG.J3;rw[AAM rfl,AX ah];exact ih c (a+1) ah (by have:=RR_next b e;omega) e o;rw[k];obtain⟨d,g2⟩:=Nq.1 k;obtain⟨i,q⟩:=eF g d;have j:=evQ g d;have h:=XT _ _ i e;unfold DG.J1;rw[AAL ak,g2,show gt [(m:Int)] 0=some (m:Int)from rfl,AAG,Bm d,AAG,rO g j.1 j.2.2,AAG];have p:Dm w w.AB[m].db w.AB[m].DS=Nk w m:=(by unfold Nk;rw[DC d]);rw[p];have:=kD (DG.AR w n) a (Nk w m) ah BQ 0 c ah ah ah;rw[show((0:Nat):Int)=0 from rfl,AAn]at this;rw[this];unfold DG.J3;rw[AX ah];obtain⟨t,y⟩:=Wh (Nk w m) c;exact ih (Nt c (Nk w m)) (a+1) aA (by have:=RR_add b i e;omega) h.2 ah;rw[Aa ah,Tf b];exact tR rfl
theorem mwork(v:WQ w)(H:n<w.AB.length):∀(b:Nat)(c:i6)(a:Nat)(r:AF)(A:je),a<=c.length->RR w c a<b->InW w c->c.length+muS w.AB.length c<=5000->RW w r A->Bp (BF.AR (n:Int) b r c (a:Int)) λd=>RW w d (λi k=>A i k\/k=n/\∃q∈(KR w b c a).drop a,PR w q=some i):=by have P:=BK;intro b;induction b with|zero=>omega|succ b ih=>intro c a r A N O p F j;rw[BF.AR];unfold BF.L1;by_cases e:a<c.length;rw[A6 ah,Bm e,AAG,j.s,mcand_eq v,AAG];(have next:∀(c':i6)(y:je)(d:AF),(∃t,c'=c++t)->KR w (b+1) c a=KR w b c' (a+1)->(∀i k,y i k↔A i k\/k=n/\PR w c[a]=some i)->RW w d (λi k=>y i k\/k=n/\∃q∈(KR w b c' (a+1)).drop (a+1),PR w q=some i)->RW w d (λi k=>A i k\/k=n/\∃q∈(KR w (b+1) c a).drop a,PR w q=some i):=by rintro c' y d ⟨t,rfl⟩ I G h;refine h.congr λi k _ _=>?_;obtain⟨u,L⟩:=work_pre (w:=w) b (c++t) (a+1);have hd:(KR w (b+1) c a).drop a=c[a]::(KR w b (c++t) (a+1)).drop (a+1):=(by rw[I,L,D1 (by simp;omega)];congr 1;rw[List.getElem_append_left (by simp;omega),List.getElem_append_left e]);rw[hd,G];constructor;grind;grind);refine uH (f:=λu=>BF.J1 (BF.AR (n:Int) b) n a c r (Jz w c[a]) u) (λE=>?_) λm D=>?_;(unfold BF.J1 BF.J3;rw[AAM rfl,AX ah];refine tM (ih c (a+1) r A ah (by have:=RR_next e p;omega) p F j) λd h=>next c A d ⟨[],ak⟩ (by rw[Nr e,E]) (λi k=>aA) h);obtain⟨o,g2⟩:=Nq.1 D;obtain⟨B,M⟩:=eF v o;have C:=evQ v o;have z:=XT _ _ B p;unfold BF.J1;rw[AAL ak,g2,show gt [(m:Int)] 0=some (m:Int)from rfl,AAG];refine j.set o H λrow _ x=>?_;rw[j.s,Bm o,AAG,AAi,AAi];rw[j.s]at x;rw[jX v x.s x.l C.1 C.2.2,AAG];have J:Dm w w.AB[m].db w.AB[m].DS=Nk w m:=(by unfold Nk;rw[DC o]);rw[J];(have:=W3 (BF.AR (n:Int) b) a (Nk w m,⟨w,r.ej,r.ew,r.d9.set m (row.set n true)⟩) aA BQ 0 c ah aA ah;rw[show((0:Nat):Int)=0 from rfl,AAn]at this;rw[this];unfold BF.J3;rw[AX ah];obtain⟨t,K⟩:=Wh (Nk w m) c;refine tM (ih (Nt c (Nk w m)) (a+1) _ _ aA (by have:=RR_add e B p;omega) z.2 ah x) λd h=>next _ _ d ⟨t,K⟩ (by rw[Nr e,D]) (λi k=>?_) h);grind;rw[Aa ah];refine tR (j.congr λi k _ _=>⟨.inl,?_⟩);rintro(g|⟨_,q,g,_⟩);exact g;rw[Tf e,List.drop_eq_nil_of_le ah]at g;cases g
def RK(w:AE)(j:Nat):List Int:=KR w BQ (Dm w (ix w.AB j).db (ix w.AB j).Dy) 0
theorem X9(a:WQ w)(b:j<w.AB.length):InW w (Dm w w.AB[j].db w.AB[j].Dy)/\(Dm w w.AB[j].db w.AB[j].Dy).length+muS w.AB.length (Dm w w.AB[j].db w.AB[j].Dy)<=5000:=by refine⟨λq c=>?_,?_⟩;obtain⟨k,l,h,_⟩:=Wv q c;grind;(have d:=aC w w.AB[j].db w.AB[j].Dy;have g:=(evQ a b).2.1.1;have i:muS w.AB.length (Dm w w.AB[j].db w.AB[j].Dy)<=w.AB.length:=by unfold muS;exact ABB (List.length_filter_le _ _) ak);have:=a.f.e;omega
theorem rNeeded_eq(b:WQ w)(a:j<w.AB.length):DG w (j:Int)=some (RK w j):=by have i:=BK;obtain⟨c,d,h⟩:=evQ b a;obtain⟨e,f⟩:=X9 b a;unfold DG RK;rw[Bm a,AAG,rO b c d,AAG,DC a];obtain⟨r,g,rfl⟩:=rwork b BQ _ 0 ah (by unfold RR;omega) e f;exact g
theorem needs_tot(b:WQ w)(a:j<w.AB.length){A:je}(c:RW w r A):Bp (BF r (j:Int) w.AB[j]) λd=>RW w d (λi k=>A i k\/k=j/\∃q∈RK w j,PR w q=some i):=by have o:=BK;obtain⟨e,f,n⟩:=evQ b a;obtain⟨g,m⟩:=X9 b a;unfold BF;rw[jX b c.s c.l e f,AAG];refine tM (mwork b a BQ (Dm w w.AB[j].db w.AB[j].Dy) 0 r A ah (by unfold RR;omega) g m c) λd h=>?_;unfold RK;rw[DC a];grind
abbrev ev(w:AE)(i:Nat):AH:=ix w.AB (i:Int)
def gF(x e:AH):Bool:=e.de==1&&(x.de==20&&x.dq==e.db)||(e.de==21&&(x.de==2&&x.db==e.dq)||e.de==23&&(x.de==22&&x.dq==e.dq))
theorem src_j3(L1:jr)(d:AH)(b:Int)(c:AF)(a:Int)(e:AH)(o:Bool):Au.J3 L1 d b c a e o=Au.J4 L1 b c a (o||(d.de==23&&(e.de==22&&e.dq==d.dq))):=by unfold Au.J3;grind
theorem src_j2(L1:jr)(d:AH)(b:Int)(c:AF)(a:Int)(e:AH)(o:Bool):Au.J2 L1 d b c a e o=Au.J4 L1 b c a (o||(d.de==21&&(e.de==2&&e.db==d.dq)||(d.de==23&&(e.de==22&&e.dq==d.dq)))):=by unfold Au.J2;simp only[src_j3];grind
theorem src_j1(L1:jr)(d:AH)(b:Int)(c:AF)(a:Int)(e:AH)(o:Bool):Au.J1 L1 d b c a e o=Au.J4 L1 b c a (o||gF e d):=by unfold Au.J1 gF;simp only[src_j2];grind
def sT(w:AE)(j i:Nat):Prop:=((ev w i).db=(ev w j).db/\i<j)\/gF (ev w i) (ev w j)=true
theorem sS(hn:w.AB.length<=16)(e:j<w.AB.length){A:je}(f:RW w r A):Bp (Au r (j:Int) w.AB[j]) λc=>RW w c (λi k=>A i k\/k=j/\sT w j i):=by
 have t:=BK;have key:∀(n a:Nat)(x:AF),a<=w.AB.length->w.AB.length<n+a->RW w x (λi k=>A i k\/k=j/\i<a/\sT w j i)->Bp (Au.AR w.AB[j] (j:Int) r n x (a:Int)) λc=>RW w c (λi k=>A i k\/k=j/\sT w j i):=by intro n;induction n with|zero=>omega|succ n ih=>intro a x o p d;rw[Au.AR];unfold Au.L1;rw[f.s];by_cases b:a<w.AB.length;(rw[A6 ah,Bm b,AAG];have l:∀q,(if(w.AB[a].db==w.AB[j].db)=true then Au.J1 (Au.AR w.AB[j] (j:Int) r n) w.AB[j] (j:Int) x (a:Int) w.AB[a] q else Au.J1 (Au.AR w.AB[j] (j:Int) r n) w.AB[j] (j:Int) x (a:Int) w.AB[a] false)=Au.J4 (Au.AR w.AB[j] (j:Int) r n) (j:Int) x (a:Int) (w.AB[a].db==w.AB[j].db&&q||gF w.AB[a] w.AB[j]):=by intro q;simp only[src_j1];cases w.AB[a].db==w.AB[j].db<;>simp);rw[l];have u:(w.AB[a].db==w.AB[j].db&&decide ((a:Int)<(j:Int))||gF w.AB[a] w.AB[j])=true↔sT w j a:=(by unfold sT ev;rw[DC b,DC e];simp);unfold Au.J4 Au.J5;refine tI (λh=>?_) λh=>?_;refine d.set b e λrow _ m=>?_;rw[AAi,AAi,AX ah];refine ih (a+1) _ ah ah (m.congr λi k _ _=>?_);grind;rw[AX ah];grind;rw[Aa ah];exact tR (d.congr λi k hi _=>⟨λg=>g.imp id λg=>⟨g.1,g.2.2⟩,λg=>g.imp id λg=>⟨g.1,ah,g.2⟩⟩)
 unfold Au;exact key BQ 0 r ah ah (f.congr λi k _ _=>⟨.inl,λg=>g.elim id λg=>ah⟩)
theorem Z9(t:Int):∀(l:js)(i k:Nat)(a:k<l.length),l[k].db=t->((i+k:Nat):Int)∈FE t i l:=by intro l;induction l with|nil=>simp_all|cons y l ih=>intro i k a h;unfold FE;cases k with|zero=>simp_all|succ k=>have:=ih (i+1) k aA aA;grind
def nfB(e x:AH):Bool:=(x.de==18||x.de==19)&&(x.dq==e.dq&&x.db != e.db)
def tH(e:AH):Nat->List AH->List Int|_,[]=>[]|i,x::l=>if nfB e x=true then(i:Int)::tH e (i+1) l else tH e (i+1) l
theorem nfL_in(e:AH):∀(l:js)(i:Nat)(x:Int),x∈tH e i l->∃k,k<l.length/\x=((i+k:Nat):Int):=by
 intro l;induction l with
 |nil=>intro i x h;simp[tH]at h
 |cons y l ih=>
  intro i x h;have a:x∈tH e (i+1) l->∃k,k<(y::l).length/\x=((i+k:Nat):Int):=λh=>by obtain⟨k,b,c⟩:=ih _ _ h;exact⟨k+1,an,ah⟩
  unfold tH at h;split at h;(rcases AAg.1 h with rfl|h);exact⟨0,ak,ak⟩;simp_all;simp_all
def Uj(w:AE)(j:Nat):Prop:=(ix w.dg.df.AA (ev w j).db).dm=3\/∃k,k<j/\(ev w k).db=(ev w j).db/\(ev w k).de=16
def NF(w:AE)(j i:Nat):Prop:=(ev w j).de=17/\Uj w j/\tH (ev w j) 0 w.AB=[(i:Int)]
theorem aV(hn:w.AB.length<=16)(f:r.w=w)(b:AH)(c:Int):∀(n d:Nat)(e:i6),d<=w.AB.length->w.AB.length<n+d->e.length<=1000+d->Ai.Bs b c r n e (d:Int)=Ai.J7 c r (e++tH b d (w.AB.drop d))|0,d,e,h1,h2,_=>ah|n+1,d,e,h1,h2,h3=>by rw[Ai.Bs];unfold Ai.L2;rw[f];by_cases hi:d<w.AB.length;((rw[A6 ah,Bm hi,AAG,D1 hi,tH];have a:(if(w.AB[d].de==18)=true then Ai.J4 (Ai.Bs b c r n) b e d w.AB[d] true else Ai.J4 (Ai.Bs b c r n) b e d w.AB[d] (w.AB[d].de==19))=Ai.J5 (Ai.Bs b c r n) e d (nfB b w.AB[d]):=by unfold Ai.J4 nfB;cases w.AB[d].de==18<;>cases w.AB[d].de==19<;>cases w.AB[d].dq==b.dq<;>simp);rw[a];unfold Ai.J5 Ai.J6;cases hb:nfB b w.AB[d]with|true=>rw[AAM rfl,AAM rfl,Bb ah,AX ah,aV hn f b c n (d+1) _ ah ah an];simp|false=>rw[AAL ak,AAL ak,AX ah,aV hn f b c n (d+1) e ah ah ah]);rw[Aa ah,Et ah,tH,ABc]
theorem mL(D:WQ w)(C:j<w.AB.length){A:je}(d:RW w r A):Bp (Ai r (j:Int) w.AB[j]) λm=>RW w m (λi k=>A i k\/k=j/\NF w j i):=by
 have T:=BK;have hn:=D.f.e;have z:=(evQ D C).1;have F:ev w j=w.AB[j]:=DC C;have b:¬((ev w j).de=17/\Uj w j/\∃i:Nat,tH (ev w j) 0 w.AB=[(i:Int)])->RW w r (λi k=>A i k\/k=j/\NF w j i):=λh=>d.congr λi k _ _=>⟨.inl,λg=>g.elim id λg=>absurd ⟨g.2.1,g.2.2.1,i,g.2.2.2⟩ h⟩;unfold Ai;by_cases H:w.AB[j].de=17;rotate_left;rw[AAM am];exact tR (b λh=>H (F▸h.1));rw[AAL (by simp[H]),d.s,Bz (by rw[D.f.l.t];exact z),AAG,d.l,O7 z,AAG];have K:Bp (Ai.J7 (j:Int) r (tH w.AB[j] 0 w.AB)) λm=>Uj w j->RW w m (λi k=>A i k\/k=j/\NF w j i):=by unfold Ai.J7;refine tI (λh=>?_) λh=>tR λE=>b ?_;(have U:(tH w.AB[j] 0 w.AB).length=1:=(by simp at h;omega);cases hc:tH w.AB[j] 0 w.AB with|nil=>simp_all|cons x l=>cases l with|cons y l=>simp_all|nil=>rw[show gt [x] 0=some x from rfl,AAG];obtain⟨k,a,o⟩:=nfL_in w.AB[j] w.AB 0 x aA;rw[AA7]at o;subst o;refine d.set a C λrow _ O=>?_;rw[AAi,AAi];refine tR λE=>O.congr λi V _ _=>⟨λg=>g.imp id λg=>⟨g.2,am,E,am⟩,λg=>g.imp id λg=>⟨?_,g.1⟩⟩;have:=g.2.2.2;grind);grind
 have key:∀(n f:Nat)(i:Bool),f<=(FE w.AB[j].db 0 w.AB).length->(FE w.AB[j].db 0 w.AB).length<n+f->(i=true↔(ix w.dg.df.AA w.AB[j].db).dm=3\/∃x∈(FE w.AB[j].db 0 w.AB).take f,x<(j:Int)/\(ix w.AB x).de=16)->Bp (Ai.AR w.AB[j] (j:Int) r (FE w.AB[j].db 0 w.AB) n i (f:Int)) λm=>RW w m (λi k=>A i k\/k=j/\NF w j i):=by have I:=RA w.AB[j].db w.AB 0;intro n;induction n with|zero=>omega|succ n ih=>intro f i R S G;rw[Ai.AR];unfold Ai.L1;by_cases B:f<(FE w.AB[j].db 0 w.AB).length;(rw[A6 ah,d.l,O7 z,AAG,Bm B,AAG];obtain⟨k,a,o,L⟩:=Uh _ _ _ _ (AAS B);rw[AA7]at o;have M:(FE w.AB[j].db 0 w.AB).take (f+1)=(FE w.AB[j].db 0 w.AB).take f++[(k:Int)]:=(by rw[AAy B,o]);rw[o,d.s,Bm a];unfold Ai.J1 Ai.J2;rw[AAG,AX ah];have step:∀v:Bool,(v=true↔(k:Int)<(j:Int)/\w.AB[k].de=16)->Bp (if v=true then Ai.AR w.AB[j] (j:Int) r (FE w.AB[j].db 0 w.AB) n true ((f+1:Nat):Int)else Ai.AR w.AB[j] (j:Int) r (FE w.AB[j].db 0 w.AB) n i ((f+1:Nat):Int)) λm=>RW w m (λi k=>A i k\/k=j/\NF w j i):=by intro v N;refine tI (λh=>ih (f+1) true ah ah ?_) λh=>ih (f+1) i ah ah ?_;obtain⟨c,g2⟩:=N.1 h;exact⟨λ_=>.inr ⟨k,aA,c,by rw[DC a];exact g2⟩,λ_=>rfl⟩;rw[G,M];constructor;grind;(refineλg=>g.imp id λ⟨x,c,g2⟩=>?_;rcases AAX.1 c with c|c);grind;simp at c;subst c;rw[DC a]at g2;simp_all);by_cases p:(k:Int)<(j:Int);rw[A6 p];exact step _ an;rw[Aa p];simp_all;(rw[Aa ah];have E:i=true↔Uj w j:=by rw[G,AAo ah];unfold Uj;rw[F];refine or_congr ABb ⟨λ⟨x,c,g2,u⟩=>?_,λ⟨k,c,g2,u⟩=>?_⟩;obtain⟨k,P,J,Q⟩:=Uh _ _ _ _ c;rw[AA7]at J;subst J;exact⟨k,ah,by unfold ev;rw[DC P];exact Q,u⟩;have q:k<w.AB.length:=ah;unfold ev at g2 u;rw[DC q]at g2;have:=Z9 w.AB[j].db w.AB 0 k q g2;grind);unfold Ai.J3;refine tI (λh=>tR (b λg=>?_)) λh=>?_;simp_all;have:=aV hn d.s w.AB[j] (j:Int) BQ 0 [] ah ah ak;simp_all
 exact key BQ 0 _ ah (by have:=RA w.AB[j].db w.AB 0;omega) ak
instance:Inhabited Ae:=⟨⟨0,0,0,false⟩⟩
def fZ(wv:AG)(e:AH):Int:=if e.de=7\/e.de=9\/e.de=11 then e.dq else if e.de=16 then(ix wv.Al e.dq).dr else if e.de=13 then(wv.AK.length:Int)else -1
def oB(wv:AG)(e:AH):Int:=if e.de=6\/e.de=8\/e.de=10 then e.dq else if e.de=17 then(ix wv.Al e.dq).dr else if e.de=12 then(wv.AK.length:Int)else -1
structure zH (wv:AG) (e:AH):Prop where
 l:e.de=6\/e.de=7\/e.de=8\/e.de=9\/e.de=10\/e.de=11->CC e.dq wv.AK.length=true
 c:e.de=16\/e.de=17->CC e.dq wv.Al.length=true/\CC (ix wv.Al e.dq).dr wv.AK.length=true
theorem obj_ok(j:WQ w)(hi:i<w.AB.length):zH w.dc w.AB[i]:=by
 have key:∀{l:js}{s:AD},Uf w.dc s l->∀e∈l,BC w.dc e.de e.dq:=by intro l;induction l with|nil=>simp_all|cons a r ih=>(intro s d e c;rcases AAg.1 c with rfl|c);exact(IH d.1).2.2.1;exact ih d.2 e c
 have b:=key (Kq j.g.v).p _ (AAS hi);generalize w.AB[i]=e at b;refine⟨λh=>?_,λh=>?_⟩;(unfold BC at b;rcases h with h|h|h|h|h|h<;>rw[h]at b<;>simp at b<;>exact b.1);have:CC e.dq w.dc.Al.length:=(by unfold BC at b;rcases h with h|h<;>rw[h]at b<;>simpa using b);exact⟨this,j.f.l.m _ this⟩
theorem rV(h:zH wv e):Gt wv e=some (fZ wv e):=by unfold Gt Gt.J1 fZ;by_cases d:e.de=7;simp[d];by_cases f:e.de=9;simp[f];by_cases a:e.de=11;simp[a];by_cases b:e.de=16;rw[Bz (h.c (.inl b)).1];simp[b];grind
theorem o5(h:zH wv e):Gs wv e=some (oB wv e):=by unfold Gs Gs.J1 oB;by_cases d:e.de=6;simp[d];by_cases f:e.de=8;simp[f];by_cases a:e.de=10;simp[a];by_cases b:e.de=17;rw[Bz (h.c (.inr b)).1];simp[b];grind
def XR(w:AE)(k u:Int)(sh:Bool):Prop:=CC u w.dc.AA.length=true/\if k=(w.dc.AK.length:Int)then w.dg.df.Tx=u/\sh=false else sh=false/\(ix w.dg.df.AK k).B6=u\/sh=true/\u∈(ix w.dg.df.AK k).Am
def qF(w:AE)(u k:Int)(i:Nat):Prop:=i<w.AB.length/\(ev w i).db=u/\fZ w.dc (ev w i)=k/\∀i',i'<i->(ev w i').db=u->fZ w.dc (ev w i')≠k
def HP(w:AE)(u k:Int)(sh:Bool)(i j:Nat):Prop:=qF w u k i/\j<w.AB.length/\(ev w j).db≠u/\oB w.dc (ev w j)=k/\(sh=true->(ev w j).de≠8)
def HB(w:AE)(k:Int)(i j:Nat):Prop:=∃u sh,XR w k u sh/\HP w u k sh i j
end
end Go.Abs
