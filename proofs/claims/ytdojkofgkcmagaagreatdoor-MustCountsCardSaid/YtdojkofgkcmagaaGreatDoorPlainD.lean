/- What the typed programs give, in plain Lean. -/
import Derived.Test.YtdojkofgkcmagaaGreatDoorWalkT
import Derived.Test.YtdojkofgkcmagaaGreatDoorPlainC
import Derived.Shelf.Slices.SearchI
set_option linter.all false
namespace Go.Abs
variable{i n j:Nat}{p:Aa}{t o a b k:Int}{S m:ns}{l:l0}{u:An}{R:ni}{wv:AG}{c f:iT}{s:AD}{v:AZ}{y:kr}{w:AF}{e:AH}
section
set_option maxHeartbeats 4000000
section
variable{T:lr}
def XV:Nat->List AX->Nat|0,_=>0|d+1,l=>(l.map λs=>1+XV d s.dz+XV d s.ea).sum
theorem sum_le{l:js}{k:Nat}(h:∀x∈l,x<=k):l.sum<=l.length*k:=by induction l with|nil=>simp|cons x r ih=>have b:=h x ABE;have c:=ih λy a=>h y (ABP _ a);rw[List.sum_cons,ABJ,Nat.succ_mul];omega
theorem szs_le(d:Nat):∀l,eJ T d l->XV d l<=10*K5 d:=by induction d with|zero=>exactλ_ _=>Nat.zero_le _|succ d ih=>intro l ⟨h1,h2⟩;have f:K5 (d+1)=1+20*K5 d:=rfl;refine ABF (sum_le (k:=K5 (d+1)) ?_) (by rw[AAt];exact ABC _ h1);intro x b;obtain⟨s,a,rfl⟩:=ABW.1 b;have c:=ih _ (h2 s a).body;have e:=ih _ (h2 s a).els;omega
theorem vL{l:kh}(h:i<l.length)(f:AX->Nat):((l.take (i+1)).map f).sum=((l.take i).map f).sum+f l[i]:=by rw[<- AAn h,AA0,List.sum_append];simp
theorem Vn(l:kh)(i:Nat)(f:AX->Nat):((l.take i).map f).sum<=(l.map f).sum:=by
 conv=>rhs;rw[<- ABY i l,AA0,List.sum_append]
 omega
theorem cst_le{d:Nat}(h:d<=4):K5 d<=8421:=by have:d=0\/d=1\/d=2\/d=3\/d=4:=ah;rcases this with rfl|rfl|rfl|rfl|rfl<;>decide
theorem Count_eq(d:Nat):∀(n:Nat)(l:kh),d<=4->d+1<=n->eJ T d l->CX (Ie n l) λr=>r=(XV d l:Int):=by induction d with|zero=>intro n l _ hn ⟨_,h⟩;obtain⟨n,rfl⟩:∃k,n=k+1:=⟨n-1,ah⟩;have:l=[]:=ABV.2 λx a=>(h x a).elim;subst this;show CX (EG (Ie n) []) _;exact tR rfl|succ d ih=>intro n l hd hn ⟨h1,h2⟩;obtain⟨n,rfl⟩:∃k,n=k+1:=⟨n-1,ah⟩;show CX (EG (Ie n) l) _;unfold EG;have t:=cst_le (d:=d) ah;have g:=szs_le (T:=T) (d+1) l ⟨h1,h2⟩;have o:=cst_le hd;let f:AX->Nat:=λs=>1+XV d s.dz+XV d s.ea;refine aX l.length (λi (s:Int)=>s+i=((l.take i).map f).sum+l.length) (F:=λn s i=>EG.AU _ l n s i) ah ak λm i s hi y k=>?_;unfold EG.AU EG.L1 EG.J1;have w:=Vn l i f;have C:XV (d+1) l=(l.map f).sum:=rfl;refine tD (λj=>tAt ah ?_) λ_=>tR ?_;have a:l[i]∈l:=AAW ah;have b:=(h2 _ a).body;have c:=(h2 _ a).els;have p:=szs_le d _ b;have q:=szs_le d _ c;have e:=Vn l (i+1) f;have st:=vL ah f (i:=i) (l:=l);refine tB (ih n _ ah ah b) λv B=>tB (ih n _ ah ah c) λu z=>k _ ah ?_;rw[CY (n:=s+v) ah ah,CY ah ah,st];grind;grind
theorem sum_takeT{l:List DB}(h:i<l.length)(f:DB->Nat):((l.take (i+1)).map f).sum=((l.take i).map f).sum+f l[i]:=by rw[<- AAn h,AA0,List.sum_append];simp
theorem check60(h:MP p):CX (Bz p) λr=>r.1=0->(p.AB.map λt=>XV 4 t.dz).sum<=60:=by
 have hd:=h.dl;have j:=h.t;have D:K5 4=8421:=rfl;have N:∀{a b:Int}{P:Prop},(a != 0)->CX (some (a,b)) λr:Int×Int=>r.1=0->P:=λh=>tR λB=>am;unfold Bz;refine NI (rG h) λ_=>tI (λ_=>N rfl) λ_=>NI (AAG h) λ_=>tI (λh=>N h) λ_=>tI (λ_=>N rfl) λ_=>NI (pV h) λ_=>tI (λh=>N h) λ_=>?_;let f:DB->Nat:=λt=>XV 4 t.dz;have c:∀t∈p.AB,f t<=84210:=λt j=>by have:=szs_le 4 _ (h.b t j);grind
 refine aX p.AB.length (λi (s:Int)=>s=((p.AB.take i).map f).sum/\s<=i*84210) (F:=λn s i=>Bz.AU p n s i) ah ak λm i s hi g k=>?_;unfold Bz.AU Bz.L1 Bz.J1;refine tD (λ_=>tAt ah (tB (Count_eq 4 _ _ ah (UR ah) (h.b _ (AAW ah))) λv o=>k _ ah ?_)) λE=>tD (λ_=>N rfl) λu=>?_;have st:=sum_takeT (l:=p.AB) (i:=i) ah f;have C:=c _ (AAW (show i<p.AB.length by omega));have e:f p.AB[i]=XV 4 p.AB[i].dz:=rfl;rw[CY ah ah,st];omega;have d:i=p.AB.length:=ah;rw[d,List.take_length]at g;have q:(p.AB.map f).sum<=60:=ah;refine aX p.AB.length (λi w=>WK p 0 (i*84210) w) (F:=λn s i=>Bz.B9 p n s i) ah ⟨rfl,rfl,ak,ak⟩ λm i s hi c k=>?_;unfold Bz.B9 Bz.L2 Bz.J2;refine tD (λz=>tG ah λx y=>?_) λ_=>tR λ_=>q;refine tB (all_tot h 4 _ 0 (i*84210) _ _ (UR ah) ah ah ⟨c.p,c.a,c.s,c.t⟩ (h.b x y)) λv o=>tI (λh=>N h) λ_=>k _ ah (o.mono ah)
def SN(t nv:Int)(l:ns):Prop:=∀(j:Nat) x,l[j]? =some x->x.cT=t/\x.ew=nv+j
theorem SN.app(h:SN t o S)(g:SN t (o+S.length) m):SN t o (S++m):=by intro j x c;by_cases e:j<S.length;rw[AAs e]at c;exact h j x c;rw[AAu ah]at c;have:=g _ x c;omega
theorem SN.one:SN t a [⟨t,a,o⟩]:=by intro j x b;grind
theorem sites_ok(d:Nat):∀(n:Nat)(o:ns)(t a:Int)(l:kh),d+1<=n->o.length+XV d l<=900000->(0<=a/\a+XV d l<=900000)->eJ T d l->CX (Ig n o t a l) λr=>∃S,r.1=o++S/\S.length=XV d l/\SN t a S/\r.2=a+XV d l:=by induction d with|zero=>intro n o t a l hn _ _ ⟨_,h⟩;obtain⟨n,rfl⟩:∃k,n=k+1:=⟨n-1,ah⟩;have:l=[]:=ABV.2 λx b=>(h x b).elim;subst this;show CX (EH (Ig n) o t a []) _;exact tR ⟨[],ak,rfl,λj x b=>by simp at b,by simp[XV]⟩|succ d ih=>intro n o t a l hn I J ⟨h1,h2⟩;obtain⟨n,rfl⟩:∃k,n=k+1:=⟨n-1,ah⟩;show CX (EH (Ig n) o t a l) _;unfold EH;let f:AX->Nat:=λs=>1+XV d s.dz+XV d s.ea;have K:XV (d+1) l=(l.map f).sum:=rfl;refine aX l.length (λi (s:List EF×Int)=>∃S,s.1=o++S/\S.length=((l.take i).map f).sum/\SN t a S/\s.2=a+((l.take i).map f).sum) (F:=λm s i=>EH.AU _ l t m s.1 s.2 i) (s0:=(o,a)) ah ⟨[],ak,rfl,λj x b=>by simp at b,ak⟩ λm i s hi C k=>?_;obtain⟨S,w,c,y,p⟩:=C;unfold EH.AU EH.L1 EH.J1;refine tD (λG=>tAt ah ?_) λU=>?_;have st:=vL (l:=l) (i:=i) ah f;have B:=Vn l (i+1) f;have b:l[i]∈l:=AAW ah;have H:f l[i]=1+XV d l[i].dz+XV d l[i].ea:=rfl;have q:s.1.length=o.length+((l.take i).map f).sum:=(by rw[w,AA1,c]);refine tC (Cd ah) ?_;rw[p,CY (n:=a+((l.take i).map f).sum+1) ah ah];refine tB (ih n _ t _ _ ah an ah (h2 _ b).body) λv g=>?_;obtain⟨S2,P,Q,E,R⟩:=g;refine tB (ih n _ t _ _ ah aA ah (h2 _ b).els) λu D=>?_;obtain⟨z,L,M,N,O⟩:=D;refine k (_,_) ah ⟨S++([⟨t,a+((l.take i).map f).sum,l[i].Fq⟩]++(S2++z)),?_,?_,?_,?_⟩;simp_all;grind;refine y.app ?_;rw[c];refine SN.one.app ?_;rw[show a+((l.take i).map f).sum+(([⟨t,a+((l.take i).map f).sum,l[i].Fq⟩]:List EF).length:Int)=a+((l.take i).map f).sum+1 from by simp];refine E.app ?_;simp_all;omega;have e:i=l.length:=ah;subst e;rw[List.take_length]at c p;exact tR ⟨S,w,c,y,p⟩
end
section
variable{T:lr}{g h r:BX}{lo hi lo' hi':Int}
def BS(T:lr)(R:ni)(l:kh)(n:Nat):Prop:=∀g,GW T g->(0<=g.next/\g.next+n<=1000000)->UD (R g l) λr=>GV g r g.next (g.next+n)/\r.next=g.next+n
def bJ{k:l0}(h:i<l.length):(l++k)[i]? =l[i]? :=AAs h
theorem qQ:(l++[u])[l.length]? =some u:=ak
theorem around_par{s:AX}(o:GW T g)(j:lo<=g.dx/\g.dx<hi)(hn:0<=g.next/\g.next+n<=1000000)(c:lo<=g.next)(q:g.next+n<=hi)(m:BS T R s.dz n)(x:11<=a/\a<=25)(y:11<=b/\b<=25)(i:∀p S,p=a\/p=b->Ab g.w ⟨p,t,0,0,0,S⟩=some true):UD (Ea R g s a b t) λr=>GV g r lo hi/\r.next=g.next+n:=by unfold Ea;refine pB (put_par (lo:=lo) (hi:=hi) ⟨bh,i _ _ (.inl rfl),by rw[rg0 bh];simp,j,bh,bh⟩ bh) λv d=>?_;have e:=m v (o.next d.1) (by rw[d.2.2];exact hn);rw[d.2.2]at e;refine pB e λu k=>?_;have f:=d.1.trans (k.1.mono c q);have l:=f.dx g.dx u.next;refine pM (M8 (lo:=lo) (hi:=hi) ⟨bh,?_,by rw[rg0 bh];simp,j,bh,bh⟩ bh) λ_ h=>⟨l.trans h.1,h.2.2.trans k.2⟩;simp only;rw[f.w];exact i _ _ (.inr rfl)
theorem branches_par{s:AX}(E:GW T g)(N:lo<=g.dx/\g.dx<hi)(hn:0<=g.next/\g.next+n+i<=1000000)(hl:lo<=g.next)(hh:g.next+n+i<=hi)(M:bY 2 s.du)(hR:BS T R s.dz n)(hE:BS T R s.ea i)(h3:s.Op=3->i=0)(h0:s.ea=[]->i=0):UD (EE R g s) λr=>GV g r lo hi/\r.next=g.next+n+i:=by
 have W:(g.dr.length:Int)=2:=by rw[E.l];rfl
 unfold EE;rw[W];refine pB (kV M E N ah) λd hd=>?_;have dL:(d.dr.length:Int)=2:=by rw[hd.1.l];exact W
 rw[dL];refine pB (put_eq _) λq hq=>?_;have Ko:d.dx=g.dx:=hd.2.1;have u:d.next=g.next:=hd.2.2;subst hq;have G:=E.next hd.1;have j:=hR ⟨d.w,d.dr,d.dt++[⟨10,2,0,0,0,d.dx⟩],d.dx,d.next⟩ ⟨G.w,G.l⟩ (by simp only;rw[u];omega);refine pB j λb t=>?_;obtain⟨t,D⟩:=t;simp only at D;rw[u]at D;have t:=t.mono (lo':=lo) (hi':=hi) (by simp only;rw[u];exact hl) (by simp only;rw[u];omega);have q1:=hd.1.n;have b1:d.dt.length+1<=b.dt.length:=by have:=t.n;simpa using this
 have I:∀m,m<d.dt.length+1->b.dt[m]? =(d.dt++[(⟨10,2,0,0,0,d.dx⟩:An)])[m]? :=λm hi=>t.p m (by simpa using hi);have S:SG d.w lo hi b.dt (d.dt.length+1) b.dt.length b.dt.length:=by have:=t.s;simpa using this
 have C:b.w=g.w:=t.w.trans hd.1.w;have H:b.dr=g.dr:=t.l.trans hd.1.l;have dw:=hd.1.w;rw[dw]at S;have val:∀(F:l0),b.dt.length<=F.length->(∀m,m<d.dt.length->F[m]? =b.dt[m]?)->SG g.w lo hi F g.dt.length d.dt.length F.length:=λF f1 f2=>hd.1.s.frame (λm _ hi=>by rw[f2 m hi,I m ah,bJ hi]) ah ah ah ah;have pre:∀(F:l0),(∀m,m<d.dt.length->F[m]? =b.dt[m]?)->∀m,m<g.dt.length->F[m]? =g.dt[m]? :=λF f2 m hi=>by rw[f2 m ah,I m ah,bJ ah,hd.1.p m hi]
 have v:∀(F:l0)(c:Nat),b.dt.length<=F.length->b.dt.length<=c->(∀m,d.dt.length<m->m<b.dt.length->F[m]? =b.dt[m]?)->SG g.w lo hi F (d.dt.length+1) b.dt.length c:=λF c f1 f3 f2=>S.frame (λm j o=>(f2 m ah o).symm) f1 ah ah f3;have J:∀(c:Nat)(B:Nat),B<=c->LV g.w lo hi c ⟨10,2,(B:Int),0,0,d.dx⟩:=λc B V=>⟨ak,obj0 ak,by rw[rg10 rfl];exact one_reg (x:=0) ak,by simp only;rw[Ko];exact N,ak,λ_=>bh⟩;have Z:∀(c:Nat)(A:Nat),A<=c->LV g.w lo hi c ⟨5,(A:Int),0,0,0,g.dx⟩:=λc A U=>⟨ak,obj0 ak,by rw[rg0 (.inl rfl)];simp,N,λ_=>bh,ak⟩;have bd:b.dt[d.dt.length]? =some ⟨10,2,0,0,0,d.dx⟩:=by rw[I _ ah];exact qQ
 refine pI (λh=>?_) λKm=>pI (λh=>?_) λX=>?_;have hm:=h3 (eq_of_beq h);refine pB (put_eq _) λe M=>?_;subst M;refine pE (y:=⟨10,2,0,0,0,d.dx⟩) (by rw[Kw];simp only;rw[bJ (by omega)];exact bd) (pR ⟨?_,bh⟩);simp only;generalize a:(b.dt++[(⟨5,(g.dt.length:Int),0,0,0,g.dx⟩:An)]).set d.dt.length ⟨10,2,((b.dt++[(⟨5,(g.dt.length:Int),0,0,0,g.dx⟩:An)]).length:Int),0,0,d.dx⟩=F;have fl:F.length=b.dt.length+1:=(by rw[<- a];simp);have f1:∀m,m≠d.dt.length->m<b.dt.length->F[m]? =b.dt[m]? :=λm j o=>(by rw[<- a,AAY (by omega),bJ o]);have f2:F[d.dt.length]? =some ⟨10,2,((b.dt.length+1:Nat):Int),0,0,d.dx⟩:=(by rw[<- a,AAR (by simp;omega)];simp);have f3:F[b.dt.length]? =some ⟨5,(g.dt.length:Int),0,0,0,g.dx⟩:=(by rw[<- a,AAY (by omega)];exact qQ);refine⟨C,H,bh,pre F λm hi=>f1 m ah ah,?_⟩;simp only;have:=SG.back (val F ah λm hi=>f1 m ah ah) f2 (J _ _ ah) rfl (v F F.length ah ah λm j o=>f1 m ah o) f3 (Z _ _ ah) rfl rfl;rw[fl]at this |-;exact this;have hm:i=0:=h0 (by have:=eq_of_beq h;exact List.length_eq_zero_iff.1 (by omega));refine pE (y:=⟨10,2,0,0,0,d.dx⟩) (by rw[Kw];exact bd) (pR ⟨?_,bh⟩);simp only;generalize a:b.dt.set d.dt.length ⟨10,2,(b.dt.length:Int),0,0,d.dx⟩=F;have fl:F.length=b.dt.length:=(by rw[<- a];simp);have f1:∀m,m≠d.dt.length->F[m]? =b.dt[m]? :=λm j=>(by rw[<- a,AAY (by omega)]);have f2:F[d.dt.length]? =some ⟨10,2,(b.dt.length:Int),0,0,d.dx⟩:=(by rw[<- a,AAR (by omega)]);refine⟨C,H,bh,pre F λm hi=>f1 m ah,?_⟩;simp only;have:=((val F ah λm hi=>f1 m ah).app (SG.one f2 (J _ _ ah) ak)).app (v F F.length ah ah λm j o=>f1 m ah);rw[fl]at this |-;exact this;refine pB (put_eq _) λf hf=>?_;subst hf;refine pE (y:=⟨10,2,0,0,0,d.dx⟩) (by rw[Kw];simp only;rw[bJ (by omega)];exact bd) ?_;simp only;generalize a:(b.dt++[(⟨5,0,0,0,0,g.dx⟩:An)]).set d.dt.length ⟨10,2,((b.dt++[(⟨5,0,0,0,0,g.dx⟩:An)]).length:Int),0,0,d.dx⟩=F;have fl:F.length=b.dt.length+1:=(by rw[<- a];simp);have f1:∀m,m≠d.dt.length->m<b.dt.length->F[m]? =b.dt[m]? :=λm j o=>(by rw[<- a,AAY (by omega),bJ o]);have f2:F[d.dt.length]? =some ⟨10,2,((b.dt.length+1:Nat):Int),0,0,d.dx⟩:=(by rw[<- a,AAR (by simp;omega)];simp);have f3:F[b.dt.length]? =some ⟨5,0,0,0,0,g.dx⟩:=(by rw[<- a,AAY (by omega)];exact qQ);have h4:=hE ⟨b.w,b.dr,F,g.dx,b.next⟩ ⟨by simp only;rw[C];exact E.w,H.trans E.l⟩ bh;refine pB h4 λm hi=>?_;obtain⟨z,Lt⟩:=hi;simp only at Lt;have z:=z.mono (lo':=lo) (hi':=hi) bh bh;have i1:b.dt.length+1<=m.dt.length:=(by have:=z.n;simp only[fl]at this;exact this);have O:∀k,k<b.dt.length+1->m.dt[k]? =F[k]? :=λk hk=>z.p k (by simp only[fl];exact hk);have is:SG g.w lo hi m.dt (b.dt.length+1) m.dt.length m.dt.length:=(by have:=z.s;simp only[fl,C]at this;exact this);refine pE (y:=⟨5,0,0,0,0,g.dx⟩) (by rw[Kw,O _ (by omega)];exact f3) (pR ⟨?_,bh⟩);simp only;generalize L:m.dt.set b.dt.length ⟨5,(m.dt.length:Int),0,0,0,g.dx⟩=K;have kl:K.length=m.dt.length:=(by rw[<- L];simp);have P:∀k,k≠b.dt.length->K[k]? =m.dt[k]? :=λk j=>(by rw[<- L,AAY (by omega)]);have Q:∀k,k≠d.dt.length->k<b.dt.length->K[k]? =b.dt[k]? :=λk j o=>(by rw[P k (by omega),O k (by omega),f1 k j o]);have k3:K[d.dt.length]? =some ⟨10,2,((b.dt.length+1:Nat):Int),0,0,d.dx⟩:=(by rw[P _ (by omega),O _ (by omega)];exact f2);have k4:K[b.dt.length]? =some ⟨5,(m.dt.length:Int),0,0,0,g.dx⟩:=(by rw[<- L,AAR (by omega)]);refine⟨z.w.trans C,z.l.trans H,bh,pre K λm hi=>Q m ah ah,?_⟩;simp only;have U:=((val K ah λm hi=>Q m ah ah).app (SG.one k3 (J _ _ ah) ak)).app (v K K.length ah ah λm j o=>Q m ah o);have V:SG g.w lo hi K (b.dt.length+1) m.dt.length K.length:=is.frame (λk j _=>(P k ah).symm) ah ah ah ah;have:=U.jump k4 (Z _ _ ah) rfl rfl V;rw[kl]at this |-;exact this
theorem szs_nil(d:Nat):XV d []=0:=by cases d<;>rfl
end
section
variable{T:lr}{g h r:BX}{lo hi lo' hi':Int}
theorem cond_eq(h:g.w.Aj=[⟨cN,0⟩]):DE g cN=some (0,g):=by unfold DE;have a:=BN;obtain⟨n,hn⟩:∃n,BQ=n+1:=⟨BQ-1,ah⟩;rw[hn];unfold DE.AU DE.L1;rw[h];simp[gt]
theorem At_par{l:jq}{s:ABn}(e:l.length<1000000):UD (Cz l s) λr=>s∈l->0<=r/\r<l.length:=by unfold Cz;refine pLs l.length (λi (_:Unit)=>∀j:Nat,j<i->l[j]? ≠some s) (s0:=()) (F:=λn _ i=>Cz.AU l s n i) (λ_ _=>rfl) ah (λj d=>ah) λn i _ hi f k=>?_;unfold Cz.AU Cz.L1 Cz.J1;refine pD (λb=>pE (Be ah) (pI (λ_=>pR λ_=>ah) λc=>k () ah ?_)) λh=>pR λa=>?_;grind;obtain⟨j,j1,g⟩:=ABR a;grind
theorem stmt_par{s:AX}(m:GW T g)(u:Kx T (n+1) s)(hn:0<=g.next/\g.next+(1+i+j)<=1000000)(hB:BS T R s.dz i)(hE:BS T R s.ea j)(b0:s.dz=[]->i=0)(e0:s.ea=[]->j=0):UD (Dh (EE R) (Ea R) g s) λr=>GV g r g.next (g.next+(1+i+j))/\r.next=g.next+(1+i+j):=by
 have hw:A9 (g.next+1)=g.next+1:=CY ah ah;have bd:=u.2.2.2.2.2.2.2.2.1;have nm:=u.2.2.2.2.2.2.2.2.2;have nB:s.Op∉[(2:Int),3,4,5,6,7,8]->i=0:=λh=>b0 (bd.1 h);have K:s.Op≠2->j=0:=λh=>e0 (bd.2 h);unfold Dh;rw[hw];generalize o:BX.mk g.w g.dr g.dt g.next (g.next+1)=g1;have I:GW T g1:=by rw[<- o];exact⟨m.w,m.l⟩
 have gs:g1.dx=g.next:=by rw[<- o]
 have H:g1.next=g.next+1:=by rw[<- o]
 have E:g1.w=g.w:=by rw[<- o]
 have gl:(g1.dr.length:Int)=2:=by rw[I.l];rfl
 have up:∀{r lo hi},GV g1 r lo hi->GV g r lo hi:=λh=>by rw[<- o]at h;exact⟨h.w,h.l,h.n,h.p,h.s⟩
 have si:g.next<=g1.dx/\g1.dx<g.next+(1+i+j):=by rw[gs];omega
 have P:∀B:An,s.Op∉[(2:Int),3,4,5,6,7,8]->LV g1.w g.next (g.next+(1+i+j)) (g1.dt.length+1) ⟨B.Op,B.A,B.B,B.C,B.N,g1.dx⟩->B.Op≠5->UD ((BV g1 B).bind λv=>some v) λr=>GV g r g.next (g.next+(1+i+j))/\r.next=g.next+(1+i+j):=by intro B F J h3;have z1:=nB F;have z2:=K (by intro h;rw[h]at F;simp at F);exact pM (M8 J h3) λr h=>⟨up h.1,by rw[h.2.2,H];omega⟩
 have A:∀{a b c:Int},s.Op≠2->11<=a/\a<=25->11<=b/\b<=25->(∀p S,p=a\/p=b->Ab g1.w ⟨p,c,0,0,0,S⟩=some true)->UD ((Ea R g1 s a b c).bind λv=>some v) λr=>GV g r g.next (g.next+(1+i+j))/\r.next=g.next+(1+i+j):=by intro a b c J ha O V;have z2:=K J;exact pB (around_par (lo:=g.next) (hi:=g.next+(1+i+j)) I si ah ah ah hB ha O V) λr h=>pR ⟨up h.1,by rw[h.2,H];omega⟩
 have lk:g.w.AK=iY:=m.w.l;have j1:∀b,(b=true->s.Op=2\/s.Op=3)->(b=false->s.Op≠1/\s.Op≠2/\s.Op≠3)->UD (Dh.J1 (EE R) (Ea R) g s b) λr=>GV g r g.next (g.next+(1+i+j))/\r.next=g.next+(1+i+j):=by
  intro b O Q;unfold Dh.J1;rw[hw,o];refine pI (λh=>?_) λh0=>?_;have V:=O h;have U:bY 2 s.du:=u.2.2.1.resolve_right λh=>h.1 (by rcases V with h|h<;>simp[h]);exact pB (branches_par (lo:=g.next) (hi:=g.next+(1+i+j)) I si ah ah ah U hB hE (λh=>K ah) e0) λr h=>pR ⟨up h.1,by rw[h.2,H];omega⟩;have n0:=Q h0;refine pI (λh=>?_) λn4=>pI (λh=>?_) λn5=>pI (λh=>?_) λn6=>pI (λh=>?_) λn7=>pI (λh=>?_) λn8=>?_;(have h:=eq_of_beq h;rw[lk];rcases nm.2.1 h with F|F<;>rw[F]);exact pE (y:=0) (by decide +kernel) (A ah ah ah λp S G=>objM bh (y:=⟨⟨#[109]⟩,false⟩) (by rw[E,lk];rfl) rfl);exact pE (y:=1) (by decide +kernel) (A ah ah ah λp S G=>objM bh (y:=⟨⟨#[110]⟩,false⟩) (by rw[E,lk];rfl) rfl);have h:=eq_of_beq h;rw[lk,nm.2.2.1 (.inl h)];exact pE (y:=2) (by decide +kernel) (A ah ah ah λp S G=>objR bh (y:=⟨⟨#[114]⟩,true⟩) (by rw[E,lk];rfl) rfl);have h:=eq_of_beq h;rw[lk,nm.2.2.1 (.inr h)];exact pE (y:=2) (by decide +kernel) (A ah ah ah λp S G=>objR bh (y:=⟨⟨#[114]⟩,true⟩) (by rw[E,lk];rfl) rfl);have h:=eq_of_beq h;exact A ah ah ah λp S G=>obj0 (by rcases G with h|h<;>simp[h]);have h:=eq_of_beq h;exact A ah ah ah λp S G=>obj0 (by rcases G with h|h<;>simp[h]);simp only[ABf,ne_eq]at n4 n5 n6 n7 n8;have D:s.Op∉[(2:Int),3,4,5,6,7,8]:=an;have L:∀{p c e:Int},11<=p/\p<=25->Ab g1.w ⟨p,c,0,0,0,g1.dx⟩=some true->LV g1.w g.next (g.next+(1+i+j)) (g1.dt.length+1) ⟨p,c,0,0,0,g1.dx⟩:=λF J=>⟨bh,J,by rw[rg0 bh];simp,si,bh,bh⟩;have M:g1.w.Aj=[⟨cN,0⟩]:=by rw[E];exact m.w.d
  have HS:(g1.w.Aj.length:Int)=1:=by rw[M];rfl
  refine pI (λh=>?_) λn9=>pI (λh=>?_) λW=>pI (λh=>?_) λX=>pI (λh=>?_) λZ=>pI (λh=>?_) λn13=>pI (λh=>?_) λn14=>pI (λh=>?_) λn15=>?_;rw[u.2.2.2.1 (by simp[eq_of_beq h])];exact pE (cond_eq M) (P ⟨21,0,0,0,0,0⟩ D (L (e:=0) ak (objC (.inl rfl) bh)) ak);rw[u.2.2.2.1 (by simp[eq_of_beq h])];exact pE (cond_eq M) (P ⟨22,0,0,0,0,0⟩ D (L (e:=0) ak (objC (.inr (.inl rfl)) bh)) ak);rw[u.2.2.2.1 (by simp[eq_of_beq h])];exact pE (cond_eq M) (P ⟨23,0,0,0,0,0⟩ D (L (e:=0) ak (objC (.inr (.inr rfl)) bh)) ak);refine pB (At_par (by have:=m.w.n;omega)) λv z=>?_;have:=z (m.w.t _ (nm.2.2.2.1 (.inl (eq_of_beq h))));exact P ⟨24,v,0,0,0,0⟩ D (L (e:=0) ak (objT (.inl rfl) (by simp only;rw[E];exact this))) ak;refine pB (At_par (by have:=m.w.n;omega)) λv z=>?_;have:=z (m.w.t _ (nm.2.2.2.1 (.inr (eq_of_beq h))));exact P ⟨25,v,0,0,0,0⟩ D (L (e:=0) ak (objT (.inr rfl) (by simp only;rw[E];exact this))) ak;have h:=eq_of_beq h;have U:bY 2 s.du:=u.2.2.1.resolve_right λq=>q.1 (by simp[h]);have z1:=nB D;have z2:=K ah;rw[show(g.dr.length:Int)=2 from by rw[m.l];rfl];refine pB (kV (lo:=g.next) (hi:=g.next+(1+i+j)) U I si ah) λv z=>?_;have hf:v.w.AM=[⟨#[102]⟩]:=(by rw[z.1.w,E];exact m.w.f);rw[hf,nm.2.2.2.2.1 h];refine pE (y:=0) (by decide +kernel) (pM (M8 ⟨ak,obj26 rfl (by rw[hf];simp),by rw[rg26 rfl];exact one_reg (x:=0) ak,by rw[z.2.1];exact si,ak,ak⟩ ak) λr h=>⟨up (z.trans h).1,by rw[h.2.2,z.2.2,H];omega⟩);have h:=eq_of_beq h;have hn:=nm.2.2.2.2.2 h;rw[m.l,m.w.f,hn.1,hn.2];refine pE (y:=0) (by decide +kernel) (pE (y:=0) (by decide +kernel) (P ⟨27,0,0,0,0,0⟩ D ⟨ak,obj27 rfl (by rw[E,m.w.f];simp),by rw[rg27 rfl];exact one_reg (x:=0) ak,si,ak,ak⟩ ak));have:=u.1;simp only[ABf,ne_eq]at n9 W X Z n13 n14 n15;omega
 refine pI (λh=>?_) λn1=>pI (λh=>j1 _ (λ_=>.inl (eq_of_beq h)) λh'=>by rw[h']at h;cases h) λn2=>j1 _ (λh=>.inr (eq_of_beq h)) λh=>⟨by simpa using n1,by simpa using n2,by simpa using h⟩;have h:=eq_of_beq h;have z1:=nB (by rw[h];decide);have z2:=K ah;exact pB (assign_par (lo:=g.next) (hi:=g.next+(1+i+j)) I si u h) λr h=>pR ⟨up h.1,by rw[h.2.2,H];omega⟩
theorem stmts_par(d:Nat):∀(n:Nat)(l:kh),3*d+1<=n->eJ T d l->BS T (Ez n) l (XV d l):=by induction d with|zero=>intro n l hn ⟨_,h⟩ g hg c;obtain⟨n,rfl⟩:∃k,n=k+1:=⟨n-1,ah⟩;have:l=[]:=ABV.2 λx c=>(h x c).elim;subst this;show UD (some g) _;exact pR ⟨GV.refl,by simp[XV]⟩|succ d ih=>intro n l hn ⟨h1,h2⟩ g hg c;obtain⟨n,rfl⟩:∃k,n=k+3:=⟨n-3,ah⟩;show UD (C7 (Dh (EE (Ez n)) (Ea (Ez n))) g l) _;unfold C7;let f:AX->Nat:=λs=>1+XV d s.dz+XV d s.ea;have t:XV (d+1) l=(l.map f).sum:=rfl;refine pLs l.length (λi s=>GV g s g.next (g.next+((l.take i).map f).sum)/\s.next=g.next+((l.take i).map f).sum) (F:=λm s i=>C7.AU _ l m s i) (λ_ _=>rfl) ah ⟨GV.refl,ak⟩ λm i s hi p k=>?_;obtain⟨a,e⟩:=p;unfold C7.AU C7.L1;refine pD (λq=>pE (Be ah) ?_) λu=>?_;have st:=vL (l:=l) (i:=i) ah f;have o:=Vn l (i+1) f;have b:l[i]∈l:=AAW ah;have r:f l[i]=1+XV d l[i].dz+XV d l[i].ea:=rfl;refine pB (stmt_par (hg.next a) (h2 _ b) ah (ih n _ ah (h2 _ b).body) (ih n _ ah (h2 _ b).els) (λh=>by rw[h];exact szs_nil d) λh=>by rw[h];exact szs_nil d) λv j=>k _ ah ?_;rw[e]at j;refine⟨(a.mono ah ah).trans (j.1.mono ah ah),ah⟩;have:i=l.length:=ah;subst this;rw[List.take_length]at a e;exact pR ⟨a,e⟩
theorem eH{a b:Nat}(h:l.length<=8000000)(g:b<=l.length):∀(n fuel i k m:Nat),V2 l a b n k m->Ev l m->n+i<=l.length->l.length+1<fuel+i->DH.AU l fuel k i=some true:=by
 intro n;induction n with
 |zero=>intro fuel i k m r ⟨x,x1,x2⟩ h1 h2;cases r;obtain⟨fuel,rfl⟩:∃f,fuel=f+1:=⟨fuel-1,ah⟩;have c:=(AAN.1 x1).1;unfold DH.AU DH.L1 DH.J1;rw[Ay ah,AR ah,AAP an,Kw,x1,AAK,bG,x2];rfl
 |succ n ih=>
  intro fuel i k m ⟨c,j,⟨x,x1,x2,x3⟩,r⟩ ev h1 h2;obtain⟨fuel,rfl⟩:∃f,fuel=f+1:=⟨fuel-1,ah⟩;unfold DH.AU DH.L1 DH.J1 DH.J2;have c:=(AAN.1 x1).1;rw[Ay ah,AR ah,AAP an,Kw,x1,AAK,bG,x2,AAK,AW ah];have:=ih fuel (i+1) j m r ev ah ah;rcases x3 with⟨d,e⟩|⟨d,rfl⟩
  simp_all;rw[AAP ak,AAP am,AW ah];exact this
structure VO (w:AG) (t:Int) (c:BI):Prop where
 r:2<=c.Dk/\c.Dk<=32
 n:∃out lo hi,c.Cq=out++[⟨28,0,0,0,0, -1⟩]/\SG w lo hi out 0 out.length out.length/\(∀k,lo<=k->k<hi->∃y,gt w.Bu k=some y/\y.cT=t)
 g:∀x∈c.Cq,∀y∈rg x,y<c.Dk
theorem objE(h:u.Op=28):Ab wv u=some true:=by simp[Ab,Ab.J3,Ab.J5,Ab.J7,Ab.J8,h]
theorem lP{c:BI}(C:c.Cq.length<=8000000)(S:VO wv t c):Ap wv t c=some true:=by
 obtain⟨⟨r1,r2⟩,⟨out,lo,hi,H,I,U⟩,Q⟩:=S;have Z:c.Cq.length=out.length+1:=by rw[H];simp
 have L:=BN;have l:∀(i:Nat) x,c.Cq[i]? =some x->(i<out.length/\out[i]? =some x)\/i=out.length/\x=⟨28,0,0,0,0, -1⟩:=by intro i x q;rw[H]at q;by_cases h:i<out.length;grind;grind
 have V:c.Cq[out.length]? =some ⟨28,0,0,0,0, -1⟩:=by rw[H];exact qQ
 have v:∀i:Nat,i<c.Cq.length->DH c.Cq (i:Int)=some true:=by intro i hi;have K:∀{n k m},V2 out 0 out.length n k m->V2 c.Cq 0 out.length n k m:=λr=>r.frame (λj _ R=>aA) ah ah;have J:Ev c.Cq out.length:=⟨_,V,rfl⟩;unfold DH;by_cases h:i<out.length;(rcases I.f i ah h with⟨n,m,r,m1,⟨x,x1,W⟩,hn⟩|⟨n,r,hn⟩);exact eH C ah n BQ 0 i m (K r) ⟨x,aA,W⟩ ah ah;exact eH C ah n BQ 0 i _ (K r) J ah ah;obtain rfl:i=out.length:=ah;exact eH (a:=0) (b:=0) C ah 0 BQ 0 _ _ rfl J ah ah
 have key:CX (Ap wv t c) λb=>b=true:=by
  unfold Ap;refine tD cm λ_=>tD cm λ_=>?_;rw[show((c.Cq.length:Int)==0)=false from ABf.2 ah];unfold Ap.J1;refine tI bn λ_=>aX c.Cq.length (λ_ (_:Unit)=>True) (s0:=()) (F:=λn _ i=>Ap.AU c t wv n i) ah trivial λn i _ hi _ k=>?_;unfold Ap.AU Ap.L1 Ap.J6;refine tD (λX=>tAt ah ?_) λ_=>tR rfl;have q:c.Cq[i]? =some c.Cq[i]:=AAT ah;have u:c.Cq[i]∈c.Cq:=AAW ah;generalize c.Cq[i]=x at q u;have M:DH c.Cq (i:Int)=some true:=v i ah;have N:A9 ((c.Cq.length:Int)-1)=out.length:=by rw[CY ah ah];omega
  have z:CX (Ap.J4 (Ap.AU c t wv n) c i x false) λb=>b=true:=by(unfold Ap.J4;refine tI bn λ_=>tE (Ji x).1 (aX (rg x).length (λ_ (_:Unit)=>True) (s0:=()) (F:=λn _ i=>Ap.B9 _ c _ (rg x) n i) (by have:=(Ji x).2;omega) trivial λm j _ R _ T=>?_);unfold Ap.B9 Ap.L2 Ap.J5;refine tD (λ_=>tAt ah ?_) λ_=>k () ah trivial;have E:(rg x)[j]∈rg x:=AAW ah;have O:0<=(rg x)[j]:=by(rcases l i x q with⟨h,B⟩|⟨_,rfl⟩);exact((I.i i x ah h B).g _ E).1;have:=List.length_pos_of_mem E;rw[rg0 (.inr (.inr rfl))]at this;cases this);exact tE (NL ⟨O,Q x u _ E⟩) (tI bn λ_=>T () ah trivial)
  rcases l i x q with⟨p,B⟩|⟨D,rfl⟩
  have d:=I.i i x ah p B;have lo':=d.o;have G:x.Op≠28:=ah;refine tD cm λ_=>tD cm λ_=>?_;rw[N,show(x.Op==28)=false from by simp_all,show((i:Int)==(out.length:Int))=false from by simp;omega];refine tI bn λ_=>tE d.ob (tI bn λ_=>tE M ?_);unfold Ap.J2;obtain⟨y,y1,y2⟩:=U _ d.s.1 d.s.2;refine tI bn λ_=>tI (λh=>absurd (eq_of_beq h) G) λ_=>tI (λ_=>?_) λh=>am;refine tE (NL (gt_in y1)) (tI bn λ_=>tE y1 ?_);rw[y2,show(t != t)=false from by simp];unfold Ap.J3;refine tI bn λ_=>tI (λP=>?_) λ_=>tI (λe=>?_) λ_=>z;have:=d.j (eq_of_beq P);refine tE (NL ah) (tI bn λ_=>tI (λe=>?_) λ_=>z);simp_all;have:=d.b (eq_of_beq e);exact tE (NL ah) z;refine tD (λh=>by simp at h) λ_=>tD (λh=>by simp at h) λ_=>?_;rw[N,D];simp only[ABK,Bool.not_true];refine tI bn λ_=>tE (objE rfl) (tI bn λ_=>tE (D▸M) ?_);rw[D]at z;unfold Ap.J2 Ap.J3;simp_all
 obtain⟨b,L,rfl⟩:=key;exact L
end
section
theorem sitesS_in(hi:t<n):∀(S:ns)(m:Int)(R:ns),SN t m S->Hz n t m (S++R)=Hz n t (m+S.length) R:=by
 intro S;induction S with
 |nil=>simp_all
 |cons x r ih=>
  intro m R h;obtain⟨c,a⟩:=h 0 x rfl;have b:SN t (m+1) r:=λj y d=>by have:=h (j+1) y am;omega
  rw[AA3,Hz,AAP ah,AAP ah,ih _ _ b,a];grind
theorem sitesS_blk{nt:Nat}{i:Int}(hi:i<nt)(h:t<i\/t=i/\o=0)(a:SN i 0 S):∃b c,(b<i+1\/b=i+1/\c=0)/\∀R,Hz nt t o (S++R)=Hz nt b c R:=by
 rcases h with h|⟨rfl,rfl⟩
 (cases S with|nil=>exact⟨t,o,.inl ah,λ_=>rfl⟩|cons x r=>obtain⟨d,e⟩:=a 0 x rfl;have f:SN i 1 r:=λj y g=>(by have:=a (j+1) y (by simp_all);omega);refine⟨i,1+r.length,.inl ah,λR=>?_⟩;rw[AA3,Hz,AAP ah,AAQ ah,d,sitesS_in hi _ _ _ f,e];simp);exact⟨t,0+S.length,.inl ah,λR=>sitesS_in hi _ _ _ a⟩
def bX(p:Aa)(i:Nat):Nat:=((p.AB.take i).map λt=>XV 4 t.dz).sum
def offP_succ(h:i<p.AB.length):bX p (i+1)=bX p i+XV 4 p.AB[i].dz:=sum_takeT h _
theorem offP_le(h:(p.AB.map λt=>XV 4 t.dz).sum<=60)(i:Nat):bX p i<=60:=by
 have:((p.AB.map λt=>XV 4 t.dz)).sum=bX p i+((p.AB.drop i).map λt=>XV 4 t.dz).sum:=by
  conv=>lhs;rw[<- ABY i p.AB,AA0,List.sum_append]
  rfl
 omega
theorem offP_mono(h:i<=j):bX p i<=bX p j:=by
 have:bX p j=bX p i+(((p.AB.take j).drop i).map λt=>XV 4 t.dz).sum:=by
  unfold bX
  conv=>lhs;rw[<- ABY i (p.AB.take j),List.take_take,Nat.min_eq_left h,AA0,List.sum_append]
 omega
structure WV (p:Aa) (N:Nat) (w:AG):Prop where
 c:w.dg=P7
 l:w.AK=iY
 d:w.Aj=[⟨cN,0⟩]
 f:w.AM=[⟨#[102]⟩]
 t:w.AB=(p.AB.take N).map (·.dq)
 n:w.Bu.length=bX p N
 o:∀j k,j<N->bX p j<=k->k<bX p (j+1)->∃y,w.Bu[k]? =some y/\y.cT=(j:Int)
 s:∃t n:Int,(t<N\/t=N/\n=0)/\∀R,Hz p.AB.length 0 0 (w.Bu++R)=Hz p.AB.length t n R
theorem World_ok(h:MP p)(u:∃l,Bz p=some (0,l))(C:(p.AB.map λt=>XV 4 t.dz).sum<=60):CX (C2 p) (WV p p.AB.length):=by
 obtain⟨l,u⟩:=u;have N:=h.t;unfold C2;refine tE u (tI bn λ_=>?_);have key:∀D T,HG=some D->C2.AU ⟨D,T⟩ BQ (AG.mk [] [] [] [] [] []) 0=C2.J4 ⟨D,T⟩ ⟨P7,iY,[⟨cN,0⟩],[⟨#[102]⟩],[],[]⟩:=by
  intro D T x;unfold HG at x;obtain rfl:=AAO x
  kernel_rfl
 rw[show C2.AU p BQ (AG.mk [] [] [] [] [] []) 0=_ from key p.ek p.AB h.d];unfold C2.J4;show CX (C2.Fw p BQ ⟨P7,iY,[⟨cN,0⟩],[⟨#[102]⟩],[],[]⟩ 0) _;refine aX p.AB.length (λi w=>WV p i w) (F:=λn s i=>C2.Fw _ n s i) ah ⟨rfl,rfl,rfl,rfl,rfl,rfl,λj k h=>ah,0,0,.inr ⟨rfl,rfl⟩,λ_=>rfl⟩ λn i w hi a k=>?_;unfold C2.Fw C2.L3 C2.J5;refine tD (λg=>tAt ah ?_) λW=>tR ?_;have g:i<p.AB.length:=ah;have E:=offP_succ g;have G:=offP_le C (i+1);have hn:=a.n;refine tC (Cd (by rw[a.t];simp;omega)) (tB (sites_ok 4 _ _ _ _ _ (UR ah) ah ah (h.b _ (AAW g))) λv H=>k _ ah ?_);obtain⟨S,L,U,z,V⟩:=H;obtain⟨t,m,K,O⟩:=a.s;obtain⟨J,I,P,Q⟩:=sitesS_blk (nt:=p.AB.length) (i:=i) ah K z;refine⟨a.c,a.l,a.d,a.f,?_,?_,?_,J,I,ah,λR=>?_⟩;simp only;rw[a.t,<- AAn g,AA0];rfl;simp_all;intro j q M r B;simp only;rw[L];by_cases e:j<i;have:=offP_mono (p:=p) (show j+1<=i by omega);rw[AAs ah];exact a.o j q e r B;obtain rfl:j=i:=ah;rw[AAu ah];have y:q-w.Bu.length<S.length:=ah;exact⟨S[q-w.Bu.length],AAT y,(z _ _ (AAT y)).1⟩;simp_all;grind
theorem WV.names(a:WV p p.AB.length wv):wv.AB=p.AB.map (·.dq):=by rw[a.t,List.take_length]
theorem worldS_ok(h:MP p)(o:(p.AB.map λt=>XV 4 t.dz).sum<=60)(a:WV p p.AB.length wv):DA wv:=by
 obtain⟨n,z,B,nm⟩:=h.nm;have e:=a.names;rw[nm]at e;obtain⟨t,m,C,y⟩:=a.s;have b:=y [];rw[ABU]at b;have x:p.AB.length=wv.AB.length:=by rw[a.names,AAt]
 rw[x]at b;have hn:=a.n;have q:=offP_le o p.AB.length;have g:=a.c;have i:=a.l;have j:=a.d;have k:=a.f;obtain⟨c,l,d,f,T,S⟩:=wv;simp only at g i j k e hn b;subst g i j k;have v:Ah P7=some ([⟨#[120]⟩,⟨#[121]⟩,⟨#[118]⟩,qS],true):=by decide +kernel
 have r:Hz T.length 0 0 S:=b;have u:T=YL.take 1\/T=YL.take 2\/T=YL.take 3\/T=YL.take 4:=by have:n=1\/n=2\/n=3\/n=4:=ah;rcases this with rfl|rfl|rfl|rfl<;>simp[e]
 unfold DA;simp only[v,r];have hd:decide (S.length<=60):=decide_eq_true ah;rw[hd];rcases u with rfl|rfl|rfl|rfl<;>(show @Eq Bool _ true;kernel_rfl)
theorem compile_ok(h:MP p)(P:∃l,Bz p=some (0,l)):CX (Bo p) λr=>CK r.1/\C1 r.1=some true:=by
 obtain⟨q,hq,V⟩:=check60 h;have U:(p.AB.map λt=>XV 4 t.dz).sum<=60:=by obtain⟨l,P⟩:=P;rw[P]at hq;cases hq;exact V rfl
 have ht:=h.t;let Q:B5->Prop:=λc=>WV p p.AB.length c.db/\c.AB.length=p.AB.length/\∀(j:Nat) t,c.AB[j]? =some t->VO c.db j t;have par:UD (Bo p) λr=>Q r.1:=by
  obtain⟨l,T⟩:=P;unfold Bo;refine pE T (pI bn λ_=>pB (pA (pT (yT h ⟨l,T⟩)) (pT (World_ok h ⟨l,T⟩ U))) λw B=>?_);obtain⟨mw,B⟩:=B;have wf:WF (λs=>s∈p.AB.map (·.dq)) w:=⟨B.c,B.l,B.d,B.f,λs Z=>by rw[B.names];exact Z,by rw[B.names,AAt];exact ht⟩;refine pLs p.AB.length (λi (s:B5×Int)=>s.1.db=w/\s.1.AB.length=i/\s.2=bX p i/\∀(j:Nat) t,s.1.AB[j]? =some t->VO w j t) (F:=λn s i=>Bo.AU p n s.1 s.2 i) (s0:=(_,_)) (λ_ _=>rfl) ah ⟨rfl,rfl,rfl,ak⟩ λn i s hi Z k=>?_;obtain⟨G,s2,s3,s4⟩:=Z;unfold Bo.AU Bo.L1 Bo.J4;refine pD (λH=>pE (Be ah) ?_) λyI=>pR ⟨by simp only;rw[G];exact B,bh,by simp only;rw[G];exact s4⟩;have H:i<p.AB.length:=ah;have M:p.AB[i]∈p.AB:=AAW H;have ho1:=offP_succ H;have ho2:=offP_le U (i+1);have hc:cg 4=336840:=rfl;have g0:GB (BX.mk s.1.db p.AB[i].Hp [] 0 s.2) 4000000:=⟨by rw[G];exact mw,h.l _ M,ak⟩;refine pB (pA (pT (s7 4 _ _ _ (UR ah) (g0.less ah) (h.b _ M))) (stmts_par 4 _ _ (UR ah) (h.b _ M) ⟨s.1.db,p.AB[i].Hp,[],0,s.2⟩ ⟨by rw[G];exact wf,h.lo _ M⟩ bh)) λv hv=>pB (put_eq _) λu hu=>?_;obtain⟨v0,v1,v2⟩:=hv;have v0:=v0.b;simp only[List.length_nil]at v0;have X:(u.dr.length:Int)=2:=by rw[hu];simp only;rw[v1.l];simp only;rw[h.lo _ M];rfl
  have S:u.dt=v.dt++[⟨28,0,0,0,0, -1⟩]:=by rw[hu]
  have sg:=v1.s;simp only[List.length_nil,G,s3]at sg;have v2':v.next=bX p (i+1):=by rw[v2];simp only;omega
  have rb:∀y∈u.dt,∀r∈rg y,0<=r/\r<32:=by(intro y x r e;rw[S]at x;rcases AAc.1 x with x|x);obtain⟨m,m1,m2⟩:=ABR x;exact(sg.i m y ah m1 (by rw[AAT m1,m2])).g r e;rw[AAg.1 x,rg0 (.inr (.inr rfl))]at e;cases e
  rw[X];have J:u.dt.length<1000000000000:=by rw[S];simp;omega
  refine pLs u.dt.length (λk (t:BI)=>t.Cq=u.dt/\(2<=t.Dk/\t.Dk<=32)/\∀y∈u.dt.take k,∀r∈rg y,r<t.Dk) (F:=λn t k=>Bo.B9 _ _ _ _ _ n t k) (λ_ _=>rfl) J ⟨rfl,ak,ak⟩ λm q t hq2 ht2 k2=>?_;obtain⟨t1,t2,t3⟩:=ht2;unfold Bo.B9 Bo.L2 Bo.J2 Bo.J3;refine pD (λhlt2=>pE (Be ah) ?_) λhge2=>pC λ_=>k (_,_) ah ⟨G,an,v2',?_⟩;have x:u.dt[q]∈u.dt:=AAW ah;have ry:=rb _ x;have L:q<u.dt.length:=ah;have tk:=AAn L;generalize u.dt[q]=y at x ry tk;refine pE (Ji y).1 (pLs (rg y).length (λl (t:BI)=>t.Cq=u.dt/\(2<=t.Dk/\t.Dk<=32)/\(∀y∈u.dt.take q,∀r∈rg y,r<t.Dk)/\∀r∈(rg y).take l,r<t.Dk) (F:=λn t k=>Bo.Fw _ _ _ n t k) (λ_ _=>rfl) (by have:=(Ji y).2;omega) ⟨t1,t2,t3,ak⟩ λm3 N D hq3 ht3 k3=>?_);obtain⟨x1,x2,x3,x4⟩:=ht3;unfold Bo.Fw Bo.L3 Bo.J1;refine pD (λhlt3=>pE (Be ah) ?_) λhge3=>k2 _ L ⟨x1,x2,λz C r e=>?_⟩;(have e:(rg y)[N]' ah∈rg y:=AAW ah;have W:=ry _ e;have O:=AAn (show N<(rg y).length by omega);generalize (rg y)[N]' ah=r at e W O;rw[CY ah ah];have K:∀z,(if r+1>D.Dk then r+1 else D.Dk)=z->D.Dk<=z/\r<z/\z<=32:=by intro z C;split at C<;>omega);generalize C:(if r+1>D.Dk then r+1 else D.Dk)=z;(obtain⟨z1,z2,z3⟩:=K z C;refine k3 _ ah ⟨x1,bh,λy x r e=>by have:=x3 y x r e;simp only;omega,?_⟩;rw[<- O];intro a I;rcases AAc.1 I with I|I);have:=x4 a I;simp only;omega;rw[AAg.1 I];exact z2;(rw[<- tk]at C;rcases AAc.1 C with C|C);exact x3 z C r e;rw[AAg.1 C]at e;rw[AAw ah]at x4;exact x4 r e;intro j D E;simp only at E;by_cases hj:j<s.1.AB.length;rw[AAs hj]at E;exact s4 j D E;have:=(AAN.1 E).1;simp at this;obtain rfl:j=s.1.AB.length:=ah;rw[show(s.1.AB++[t])[s.1.AB.length]? =some t from by simp]at E;obtain rfl:=AAO E;rw[s2];rw[AAw ah]at t3;refine⟨t2,⟨v.dt,_,_,by rw[t1,S],sg,λk k1 k2=>?_⟩,by rw[t1];exact t3⟩;obtain⟨k,rfl⟩:∃m:Nat,k=m:=⟨k.toNat,ah⟩;rw[Kw];exact B.o i k H ah ah
 obtain⟨r,e,R⟩:=compile_tot h;refine⟨r,e,R,?_⟩;obtain⟨q1,q2,N⟩:=par r e;have hl:r.1.AB.length=r.1.db.AB.length:=by rw[q2,q1.names,AAt]
 have hn:=R.n;have key:CX (C1 r.1) λb=>b=true:=by unfold C1;refine tE (NA _) ?_;rw[worldS_ok h U q1];refine tI bn λ_=>?_;rw[hl,show((r.1.db.AB.length:Int) != r.1.db.AB.length)=false from by simp];unfold C1.J1;refine tI bn λ_=>aX r.1.AB.length (λ_ (_:Unit)=>True) (s0:=()) (F:=λn _ i=>C1.AU r.1 n i) ah trivial λn i _ hi _ k=>?_;unfold C1.AU C1.L1 C1.J2;refine tD (λH=>tAt ah ?_) λ_=>tR rfl;refine tE (lP (R.i _ (AAW ah)) (N i _ (AAT ah))) (tI bn λ_=>k () ah trivial)
 obtain⟨b,W,rfl⟩:=key;exact W
end
theorem Code_ok(d:c.length<=4000000000000000000)(e:∀x∈c,0<=x/\x<256):CX (QT c) λl=>CK l/\C1 l=some true:=by unfold QT;exact tB (Program_tot d e) λp a=>tB (compile_ok a.1 a.2) λl b=>tR b
theorem Trace_wf(g:c.length<=4000000000000000000)(j:∀x∈c,0<=x/\x<256)(i:f.length<=1000):CX (OG c f) λt=>TA f.length t/\DA t.db:=by unfold OG;refine tB (Code_ok g j) λp b=>tB (Choices_tot i) λl o=>tB (tP (Run_ok b.1 ah) (Q:=λr=>DA r.1.db=true) ?_) λr a=>tR ⟨⟨⟨by have:=a.1.m.n;omega,a.1.m.e,a.1.m.w⟩,a.1.c⟩,a.2⟩;obtain⟨v,d,s⟩:=bH b.1;rw[b.2]at d;have k:=s (AAO d).symm;unfold Oh;exact pE b.2 (pI bn λ_=>pB' λ_=>pB' λ_=>pR k.w)
theorem Check_ok{t:Cu}(a:TA n t)(hn:n<=400)(b:DA t.db):Ma t=(0,0):=by have:=a.m.n;unfold Ma;rw[AAP ah,AAQ b,a.c]
theorem sceneW_m:HV.Aj.all (λc=>B4 c.dn HV.AK.length):=by decide +kernel
structure SL (s:AD):Prop where
 l:s.dc.AK.length=3
 d:s.dc.Bs.length=1
 t:s.dc.AB.length=4
 c:s.dg.length=5
 u:s.AM.length=1
 n:s.df.length=4
 r:RB 1 s.dc
theorem SL.sc(h:SL s):SC 1 s:=by refine⟨?_,h.r⟩;simp only[I4,HR,AAL,AAb,dR,X9,X8,h.d,h.t,h.c,h.u,h.n,and_self,and_true];exact⟨sceneW_m,by rw[h.l,dS]⟩
theorem zP(b:FG v)(x:Int)(d:c.length<=900):CX (Hm v x c) λr=>(-1<=r.1/\r.1<c.length)/\FG r.2:=by unfold Hm Hm.J1;rw[CY (n:=(c.length:Int)+2) ah ah];refine tB (IH b ah) ?_;rintro t ⟨e,a,_⟩;rw[CY (n:=t.1-2) ah ah];refine tI (λh=>?_) λh=>tG aA λy _=>tI (λ_=>tR ⟨ah,a.1⟩) λ_=>tR ⟨aA,a.1⟩;exact tI (λ_=>tR ⟨ah,a.1⟩) λh=>by cases h
abbrev BG(o:ABm (AD×AZ)):Prop:=CX o λr=>SL r.1/\FG r.2
theorem rS(e:FG v)(g:SL s):BG (BA.P9 v s):=by
 have o:=BN;have key:∀(n i:Nat)(v:AZ)(f:AD),5<n+i->i<=5->FG v->SL f->BG (BA.Fw s n v f i):=by intro n;induction n with|zero=>omega|succ n ih=>intro i v f k m e b;unfold BA.Fw BA.L3 BA.gN;refine tI (λh=>?_) λ_=>tR ⟨b,e⟩;have h:=AAV h;have:=g.c;have:=b.c;refine tB (IH e ah) ?_;rintro a ⟨_,j,_⟩;rw[AW ah];exact tG ah λx _=>ih (i+1) _ _ ah ah j.1 ⟨b.l,b.d,b.t,am,b.u,b.n,b.r⟩
 exact key BQ 0 v s ah ah e g
theorem mG(g:FG v)(e:SL s):BG (BA.OE v s):=by unfold BA.OE;refine tB (IH g ah) ?_;rintro a ⟨_,f,_⟩;have:=e.d;have:=e.u;refine tI (λ_=>tG ah λx _=>tB (IH f.1 ah) ?_) λ_=>rS f.1 e;rintro b ⟨_,bA,_⟩;exact tG ah λx _=>rS bA.1 ⟨e.l,am,e.t,e.c,am,e.n,e.r⟩
theorem begin9_tot(g:FG v)(e:SL s):BG (BA.J9 v s):=by unfold BA.J9;refine tB (IH g ah) ?_;rintro a ⟨_,f,_⟩;refine tI (λ_=>tB (zP f.1 _ (by have:=e.n;omega)) ?_) λ_=>mG f.1 e;rintro b ⟨_,bA⟩;exact mG bA ⟨e.l,e.d,e.t,e.c,e.u,e.n,e.r⟩
theorem SL.lock(h:SL s)(i:Nat)(x:AQ)(b:x.Ae.length<=1):SL (AD.mk (AP.mk (s.dc.AK.set i x) s.dc.Tx s.dc.Bs s.dc.AB) s.dg s.AM s.df):=by
 refine⟨by simpa using h.l,h.d,h.t,h.c,h.u,h.n,?_⟩;intro y a;rcases mem_set a with a|rfl
 exact h.r y a;exact b
theorem begin5_tot(g:FG v)(q:SL s):BG (BA.J5 v s):=by
 have D:=BN;have key:∀(n i:Nat)(v:AZ)(f:AD),3<n+i->i<=3->FG v->SL f->BG (BA.B9 s n v f i):=by intro n;induction n with|zero=>omega|succ n ih=>intro i v f B C g e;unfold BA.B9 BA.L2;refine tI (λh=>?_) λ_=>begin9_tot g e;have h:=AAV h;have:=q.l;have:=e.l;have:=e.t;have:=e.n;have j:∀c m,FG c->SL m->BG (BA.J8 (BA.B9 s n) i c m):=(by intro c m d y;unfold BA.J8;rw[AW (by omega)];exact ih (i+1) _ _ (by omega) (by omega) d y);refine tB (zP g _ ah) ?_;rintro a ⟨a0,k⟩;refine tI (λ_=>j _ _ k e) λp=>?_;have p:=ABO p;have o:∀c z,FG c->BG (BA.J7 (BA.B9 s n) f i c a z):=(by intro c z d;unfold BA.J7;exact tI (λ_=>j _ _ d e) λ_=>tG ah λx u=>j _ _ d (e.lock _ _ (e.r x u)));have w:∀c z,FG c->BG (BA.J6 (BA.B9 s n) f i a c z):=(by intro c z d;unfold BA.J6;exact tI (λ_=>tG ah λx u=>j _ _ d (e.lock _ _ ak)) λ_=>tI (λ_=>tG ah λx _=>tI (λ_=>o _ _ d) λ_=>o _ _ d) λ_=>o _ _ d);refine tI (λ_=>tB (IH k ah) ?_) λ_=>w _ _ k;rintro b ⟨_,bA,_⟩;exact w _ _ bA.1
 exact key BQ 0 v s ah ah g q
def SL.thr(h:SL s)(b:y.length=4)(a:c.length=4):SL (AD.mk (AP.mk s.dc.AK s.dc.Tx s.dc.Bs y) s.dg s.AM c):=⟨h.l,h.d,b,h.c,h.u,a,h.r⟩
theorem yD(s:FG v):BG (BA v HV):=by
 have a:=BN;unfold BA;rw[PZ HV kB,AAK];have f:SL (Iu HV):=by refine⟨?_,?_,?_,?_,?_,?_,RB.mono (RB.start HV) ah⟩<;>simp[Iu,NH,dS,dR,X9,X8]
 generalize Iu HV=p at f;have key:∀(n i:Nat)(u:AZ)(b:AD),4<n+i->i<=4->FG u->SL b->BG (BA.AU p n u b i):=by intro n;induction n with|zero=>omega|succ n ih=>intro i u b B C k a;unfold BA.AU BA.L1;refine tI (λh=>?_) λ_=>begin5_tot k a;have h:=AAV h;have:=f.n;have:=a.n;have:=a.t;have m:∀g e,FG g->SL e->BG (BA.J4 (BA.AU p n) i g e):=(by intro g e q r;unfold BA.J4;rw[AW (by omega)];exact ih (i+1) _ _ (by omega) (by omega) q r);refine tB (IH k ah) ?_;rintro j ⟨j0,o,_⟩;refine tG ah λy _=>?_;have D:∀t,BG (BA.J2 (BA.AU p n) b i j t):=(by intro t;have l:∀v,BG (BA.J3 (BA.AU p n) b t i j v):=(by intro v;unfold BA.J3;refine tI (λ_=>tB (IH o.1 ah) ?_) λ_=>m _ _ o.1 (a.thr am a.n);rintro z ⟨_,c,_⟩;refine tG ah λx _=>tB (IH c.1 ah) ?_;rintro w ⟨_,d,_⟩;exact tG an λx _=>m _ _ d.1 (a.thr am am));unfold BA.J2;exact tG ah λx _=>tI (λ_=>l _) λ_=>l _);unfold BA.J1;grind
 exact key BQ 0 v p ah ah s f
def eC(l:iT):Prop:=∀x∈l,0<=x/\x<256
theorem tape_of(a:c.length<=4000000000000000000)(h:eC c):FG ⟨c,0⟩:=⟨a,⟨Int.le_refl _,ak⟩,h⟩
structure WG (w:AF):Prop where
 v:KG w=true
 e:∀e∈w.AA,K3 e
 r:RB 1000 w.de.dc
theorem Wo(g:eC f)(s:b<=16)(o:0<=b):CX (Es f b) WG:=by
 have e:=BN;have j1:∀i:List Int,i.length<=400->eC i->CX (Es.J1 b i) WG:=by
  intro i hi hi';unfold Es.J1;rw[sceneW_eq,AAK];refine tB (yD (tape_of ah hi')) ?_;rintro c ⟨cS,k⟩;have key:∀(n d:Nat)(a:Int),4<n+d->d<=4->CX (Es.AU b c n ⟨HV,a,c.1,[]⟩ d) WG:=by intro n;induction n with|zero=>omega|succ n ih=>intro d a p q;have:=cS.n;unfold Es.AU Es.L1;refine tI (λh=>?_) λ_=>?_;have h:=AAV h;rw[AW ah];exact tG ah λt _=>ih (d+1) _ ah ah;unfold Es.J2;refine tB (play_tot k (cS.sc.mono ah) ah true) ?_;rintro l ⟨u,j⟩;rw[rValid_eq (w:=⟨HV,a,c.1,l.1⟩) j (RB.mono cS.r ah),AAK];refine tI (λ_=>?_) λh=>tR ⟨aA,j,RB.mono cS.r ah⟩;rw[sceneW_eq,AAK,AAK,PZ HV kB,AAK];exact tR ⟨by decide +kernel,ak,RB.mono (RB.start HV) ah⟩
  exact key BQ 0 0 ah ah
 unfold Es;refine tI (λh=>?_) λh=>j1 _ aA g;have h:=AAV h;exact tC ah (j1 _ an λx m=>g x (List.mem_of_mem_take m))
structure ViewOK (v:O1):Prop where
 p:eC v.ez
 s:eC v.HU
 c:eC v.rC
 z:0<=v.Ca/\v.Ca<256
 w:0<=v.qH/\v.qH<256
theorem madeAT{t:Cu}(h:TA n t)(hn:n<=400)(b:DA t.db):AT t:=AT.of (λe a=>(h.m.e e a).ok) (by rw[Check_ok h hn b])
theorem qD{v:O1}(a:ViewOK v)(r:0<t)(F:t<=16)(u:v.ez.length<=4000000000000000000):CX (HZ v t) WG:=by
 have C:((A9 v.Ca).tmod t:Int)=v.Ca.tmod t:=by rw[CY (by have:=a.z;omega) (by have:=a.z;omega)]
 have D:0<=v.Ca.tmod t:=Int.tmod_nonneg _ a.z.1;have E:v.Ca.tmod t<t:=Int.tmod_lt_of_pos _ r;unfold HZ;rw[C,CY (n:=1+v.Ca.tmod t) ah ah];refine tI (λ_=>tC ah (tB (Wo a.c ah ah) λw b=>tR b)) λ_=>?_;have o:0<=(if 80<(v.HU.length:Int)then 80 else(v.HU.length:Int))/\((if 80<(v.HU.length:Int)then 80 else(v.HU.length:Int)).toNat)<=v.HU.length/\((if 80<(v.HU.length:Int)then 80 else(v.HU.length:Int)).toNat)<=80:=by split<;>omega
 refine tC ⟨o.1,o.2.1⟩ (tB (Trace_wf u a.p (by rw[ABg];omega)) ?_);rintro m ⟨g,g2⟩;have f:AT m:=madeAT g (by rw[ABg];omega) g2;have s:=f.l;refine tC ah ?_;rw[rSplit_eq m (λe i=>(g.m.e e i).ok),AAK];have y:splitS m (1+v.Ca.tmod t)=(XW m (1+v.Ca.tmod t).toNat m.AA.length,0):=by unfold splitS;rw[AAP (by rw[f.check];simp),AAP ah]
 rw[y];have o:=winN_le (k:=(1+v.Ca.tmod t).toNat) ah m.AA.length;have q:=yH m (1+v.Ca.tmod t).toNat m.AA.length;refine tI (λ_=>tB (Wo (by intro x B;cases B) ah ah) λw b=>tR b) λh=>?_;have h:¬((XW m (1+v.Ca.tmod t).toNat m.AA.length).length:Int)=0:=by simpa using h
 refine tC h ?_;rw[CY (n:=v.qH) (by have:=a.w;omega) (by have:=a.w;omega)];refine tG ⟨Int.tmod_nonneg _ a.w.1,Int.tmod_lt_of_pos _ (by show(0:Int)<((XW m (1+v.Ca.tmod t).toNat m.AA.length).length:Int);omega)⟩ λw b=>tR ?_;unfold XW at b;obtain⟨j,d,rfl⟩:=ABW.1 b;have d:=ABc.1 d;have hi:j*(1+v.Ca.tmod t).toNat<=m.AA.length:=by unfold winN at d;have:=(Nat.le_div_iff_mul_le ah).1 (show j+1<=_ from d);rw[Nat.succ_mul]at this;omega
 exact⟨winS_valid f.w s f.c ah hi,λe i=>(g.m.e e (List.mem_of_mem_drop (List.mem_of_mem_take i))).ok,RB.mono (AT.rb _ hi) ah⟩
def UE(wv:AG):AD->List AH->Prop|_,[]=>True|s,e::r=>ET wv s e=true/\UE wv (Dd wv s e) r
theorem UE.step{wv:AG}(d:Small wv){s:AD}{N:Nat}(c:RB N s.dc)(a:N<=1000000){e:AH}(b:K3 e)(f:ET wv s e):CF wv s e=some (Dd wv s e,true)/\CC wv s e=some (Dd wv s e,true):=by rw[dY wv d s (c.mono a) e b,Tp wv d s (c.mono a) e b];unfold QV;rw[AAQ f];exact⟨rfl,rfl⟩
theorem UE.of:∀{l:jo}{s:AD},(∀(i:Nat)(hi:i<l.length),ET wv ((l.take i).foldl (Dd wv) s) l[i])->UE wv s l:=by intro l;induction l with|nil=>intro s _;trivial|cons e r ih=>intro s h;exact⟨h 0 ak,ih λi hi=>h (i+1) (by simpa using hi)⟩
theorem posW_poss:∀{l pre:jo}{s:AD},XU wv c pre s l->UE wv s l:=by intro l;induction l with|nil=>intro pre s _;trivial|cons e r ih=>intro pre s h;unfold XU at h;simp only[AAL]at h;exact⟨h.1,ih h.2.2⟩
structure WV2 (w:AF):Prop where
 s:Small w.db
 n:w.AA.length<=16
 p:UE w.db w.de w.AA
theorem JZ(h:KG w):WV2 w:=by unfold KG at h;simp only[AAL,AAe]at h;exact⟨Eh h.1,h.2.2.1,posW_poss h.2.2.2.2⟩
def XA(wv:AG)(t kk o k:Int)(x:AQ):AQ:=if(kk=6\/kk=10)/\k=o\/kk=17/\k=(ix wv.Aj o).dn then⟨t,x.Ae⟩
 else if(kk=7\/kk=11)/\k=o\/kk=16/\k=(ix wv.Aj o).dn then⟨-1,x.Ae⟩
 else if kk=8/\k=o then⟨x.Bw,Ol (x.Ae++[t])⟩
 else if kk=9/\k=o then⟨x.Bw,x.Ae.filter λy=>!(y==t)⟩
 else x
theorem setT_L(s:AP)(t:Int)(g:AL->AL):(Jz s t g).AK=s.AK:=rfl
def kD{s:AP}(hi:B4 t s.AK.length)(a:B4 k s.AK.length)(f:AQ->AQ):ix (HW s t f).AK k=if k=t then f (ix s.AK t)else ix s.AK k:=Ms hi a
theorem l8{s:AP}(p:B4 k s.AK.length):∀a,(a=6\/a=7\/a=8\/a=9\/a=10\/a=11->B4 o s.AK.length)->(a=16\/a=17->B4 (ix wv.Aj o).dn s.AK.length)->ix (DP wv s t a o b).1.AK k=XA wv t a o k (ix s.AK k):=by
 refine kinds ?_ ?_ ?_ ?_ ?_ ?_ ?_ ?_ ?_ ?_ ?_ ?_ ?_ ?_ ?_ ?_ ?_ ?_ ?_ ?_ ?_ ?_ ?_ (λa r u v w x y z B C wake c F d e f G g i j E l m n=>?_);all_goals
  intro D q;unfold DP XA
 all_goals first| (simp(decide:=true)only[AAq,AAd,or_true,true_or,ABB,false_or,true_and,false_and,Jz];done)| (simp(decide:=true)only[AAq,AAd,or_true,true_or,ABB,false_or,true_and,false_and];rw[kD (D ah) p];simp_all)| (simp(decide:=true)only[AAq,AAd,or_true,true_or,ABB,false_or,true_and,false_and];refine(kD (q ah) p _).trans ?_;split<;>rename_i h<;>simp only[h,AAq,AAd];done)| (simp(decide:=true)only[AAq,AAd,or_true,true_or,ABB,false_or,true_and,false_and];split<;>rfl)| (simp only[r,u,v,w,x,y,z,B,C,wake,c,F,d,e,f,G,g,i,j,E,l,m,n,AAd,or_self,false_and];done)|skip
 all_goals
  simp(decide:=true)only[AAq,AAd,or_true,true_or,ABB,false_or,true_and,false_and];rw[setT_L,kD (q ah) p];simp_all
theorem Yr{s:AP}(c:CN wv s t b o)(e:B4 k wv.AK.length):ix (DP wv s t b o a).1.AK k=XA wv t b o k (ix s.AK k):=by unfold CN at c;simp only[AAL]at c;obtain⟨d,_,wake,_⟩:=c;have f:=(Dn d).1;have g:=λh=>Fg d (o:=o) h;rw[<- f]at e g;refine l8 e b (λh=>?_) λh=>g ?_;(rw[f];unfold A8 at wake;rcases h with h|h|h|h|h|h<;>subst h<;>simp(decide:=true)only[AAq,AAd,or_true,true_or,ABB,AAL]at wake<;>exact wake.1);unfold A8 at wake;grind
def hpL(t:Int)(x:AQ):Bool×Bool:=(x.Bw==t,x.Ae.contains t)
def ownF(wv:AG)(kk o k:Int)(p:Bool×Bool):Bool×Bool:=if(kk=6\/kk=10)/\k=o\/kk=17/\k=(ix wv.Aj o).dn then(true,p.2)
 else if(kk=7\/kk=11)/\k=o\/kk=16/\k=(ix wv.Aj o).dn then(false,p.2)
 else if kk=8/\k=o then(p.1,true)
 else if kk=9/\k=o then(p.1,false)
 else p
def XI(wv:AG)(s:AP):Prop:=∀k,B4 k wv.AK.length->(ix s.AK k).Ae≠[]->(ix wv.AK k).RW/\(ix s.AK k).Bw= -1
def MQ(wv:AG):Prop:=∀o,B4 o wv.Aj.length->(ix wv.AK (ix wv.Aj o).dn).RW=false
theorem own_eq(c:0<=t)(x:AQ):hpL t (XA wv t a o k x)=ownF wv a o k (hpL t x):=by have b:((-1:Int)==t)=false:=an;unfold XA ownF hpL;split;simp;split;simp[b];split;have:(Ol (x.Ae++[t])).contains t:=(by rw[AAp,Kp];simp);simp_all;grind
theorem Zm{s:AP}(b:CN wv s t a o):(a=6->(ix s.AK o).Bw= -1/\(ix wv.AK o).RW=false)/\(a=10->(ix s.AK o).Bw= -1/\(ix s.AK o).Ae=[])/\(a=8->(ix s.AK o).Bw= -1/\(ix wv.AK o).RW)/\(a=7\/a=11->(ix s.AK o).Bw=t)/\(a=16->(ix s.AK (ix wv.Aj o).dn).Bw=t/\B4 o wv.Aj.length)/\(a=17->(ix s.AK (ix wv.Aj o).dn).Bw= -1/\B4 o wv.Aj.length):=by unfold CN at b;simp only[AAL]at b;obtain⟨_,_,c,d⟩:=b;unfold A8 at c;unfold Du at d;refine⟨λh=>?_,λh=>?_,λh=>?_,λh=>?_,λh=>?_,λh=>?_⟩;simp_all;simp_all;simp_all;grind;all_goals simp_all
theorem other_eq{s:AP}(d:CN wv s b a o)(j:0<=t)(hn:b≠t):hpL t (XA wv b a o k (ix s.AK k))=hpL t (ix s.AK k):=by
 obtain⟨l,f,n,m,g,i⟩:=Zm d;have u:((-1:Int)==t)=false:=an;have c:(b==t)=false:=by simpa using hn
 unfold XA hpL;split;(rename_i h;have:(ix s.AK k).Bw= -1:=by(rcases h with⟨h|h,rfl⟩|⟨h,rfl⟩);omega;omega;omega);simp only[this,u,c];split;grind;split;have:(Ol ((ix s.AK k).Ae++[b])).contains t=(ix s.AK k).Ae.contains t:=(by rw[Bool.eq_iff_iff,AAp,AAp,Kp];simp only[AAc,AAg];exact⟨λh=>h.resolve_right λe=>hn e.symm,.inl⟩);simp_all;grind
theorem XI.apply{s:AP}(g:MQ wv)(h:XI wv s){f wake:Int}(d:CN wv s t f o):XI wv (DP wv s t f o wake).1:=by intro k e;obtain⟨m,j,p,n,l,c⟩:=Zm d;rw[Yr d e];have b:=h k e;unfold XA;split;(rename_i a;intro i;have b:=b i;rcases a with⟨a|a,rfl⟩|⟨a,rfl⟩);simp_all;simp_all;rw[g _ (c a).2]at b;cases b.1;grind
def HF(wv:AG)(t k:Int)(l:jo)(p:Bool×Bool):Bool×Bool:=l.foldl (λp e=>if e.cT=t then ownF wv e.da e.di k p else p) p
theorem HF_snoc(wv:AG)(t k:Int)(l:jo)(e:AH)(p:Bool×Bool):HF wv t k (l++[e]) p=if e.cT=t then ownF wv e.da e.di k (HF wv t k l p)else HF wv t k l p:=by unfold HF;simp_all
theorem HF_skip(wv:AG)(t k:Int){l r:jo}(h:∀e∈r,e.cT≠t)(p:Bool×Bool):HF wv t k (l++r) p=HF wv t k l p:=by unfold HF;rw[List.foldl_append];generalize l.foldl _ p=q;revert q;induction r with|nil=>grind|cons e r ih=>simp_all
theorem poss_en(h:ET wv s e):CN wv s.dc e.cT e.da e.di:=by unfold ET at h;simp_all
instance:Inhabited LQ:=⟨⟨0,false⟩⟩
structure WQ (w:AF):Prop where
 g:WG w
 f:WinF w
theorem WG.q(h:WG w):WQ w:=by refine⟨h,?_⟩;have a:=h.v;unfold KG at a;simp only[AAL,AAe]at a;exact⟨a.1,a.2.1,a.2.2.1⟩
structure GIw (w:AF) (K:Nat) (c:Jt):Prop where
 f:HR w.db c.dc=true
 r:RB (1000+K) c.dc
 l:c.dg.length=w.db.dg.length
 u:c.AM.length=w.db.AM.length
 x:c.JU.length=w.AA.length
 k:c.e8.length=w.AA.length
 o:c.dv.length<=K
 p:∀(i j:Nat)(hi:i<j)(hj:j<w.AA.length),w.AA[i].cT=w.AA[j].cT->(j:Int)∈c.dv->(i:Int)∈c.dv
 h:∀t k,0<=t->B4 k w.db.AK.length=true->∀m,m<=w.AA.length->(∀(i:Nat)(hi:i<w.AA.length),w.AA[i].cT=t->((i:Int)∈c.dv↔i<m))->hpL t (ix c.dc.AK k)=HF w.db t k (w.AA.take m) (hpL t (ix w.de.dc.AK k))
 X:XI w.db c.dc
theorem GIw.step{w:AF}(hw:WQ w){K:Nat}{c:Jt}(d:GIw w K c){i:Nat}(hi:i<w.AA.length)(J:(i:Int)∉c.dv)(Q:∀(j:Nat)(z:j<i),w.AA[j].cT=w.AA[i].cT->(j:Int)∈c.dv)(G:CN w.db c.dc w.AA[i].cT w.AA[i].da w.AA[i].di)(wake:Int){C F:List LQ}{X:kj}{W:iT}(R:C.length=c.dg.length)(S:F.length=c.AM.length)(U:X.length=c.JU.length)(T:W.length=c.e8.length):GIw w (K+1) ⟨(DP w.db c.dc w.AA[i].cT w.AA[i].da w.AA[i].di wake).1,C,F,c.dv++[(i:Int)],X,W⟩:=by have hq:=TL hw.f.v;refine⟨Y8 d.f _ _ _ _,d.r.apply _ _ _ _ _,R.trans d.l,S.trans d.u,U.trans d.x,T.trans d.k,by have:=d.o;simp;omega,?_,?_,d.X.apply hq G⟩;(intro a b E V y s;rcases AAc.1 s with s|s);exact AA4 _ (d.p a b E V y s);grind;intro t k y I m s D;dsimp only at D |-;rw[Yr G I];by_cases q:w.AA[i].cT=t;(have Z:i<m:=(D i hi q).1 ak;have O:w.AA.take m=w.AA.take (i+1)++(w.AA.take m).drop (i+1):=(by have:=ABY (i+1) (w.AA.take m);rw[List.take_take,Nat.min_eq_left (by omega)]at this;exact this.symm);have P:∀e∈(w.AA.take m).drop (i+1),e.cT≠t:=by intro e H g;obtain⟨j,z,rfl⟩:=ABR H;simp only[List.length_drop,ABg]at z;rw[List.getElem_drop,List.getElem_take]at g;have B:i+1+j<w.AA.length:=ah;(have:=(D (i+1+j) B g).2 ah;rcases AAc.1 this with L|L);exact J (d.p i (i+1+j) ah B (q.trans g.symm) L);grind);rw[O,HF_skip _ _ _ P,<- AAn hi,HF_snoc,AAQ q,q,own_eq y];congr 1;refine d.h t k y I i ah λj z n=>⟨λM=>?_,λN=>Q j N (n.trans q.symm)⟩;refine Decidable.byContradiction λhn=>?_;by_cases e:j=i;grind;exact J (d.p i j ah z (q.trans n.symm) M);rw[other_eq G y q];refine d.h t k y I m s λj z n=>?_;grind
instance:Inhabited AH:=⟨⟨0,0,0,0,0,[],[]⟩⟩
def Ho(s r:AH):Bool:=s.di==r.di&&(s.da==4&&r.da==3||s.da==22&&r.da==23)
def Mn(w:AF)(n:Int)(r:AH)(i:Nat)(s:AH):Bool:=Ho s r&&(s.dm==r.dm&& !(s.cT==r.cT&&decide ((i:Int)>n)))
def Il(w:AF)(n:Int)(r:AH):Nat->List AH->List Int|_,[]=>[]|i,s::l=>if Mn w n r i s=true then(i:Int)::Il w n r (i+1) l else Il w n r (i+1) l
def La(w:AF)(r:AH):Bool:=if r.da=23 then ix w.de.dc.Bs r.di&&ix w.de.AM r.di==r.dm else ix w.de.dg r.di==r.dm
def IZ(w:AF)(n:Int):List Int:=if B4 n w.AA.length=true/\((ix w.AA n).da=3\/(ix w.AA n).da=23)then(if La w (ix w.AA n)=true then[-1]else[])++Il w n (ix w.AA n) 0 w.AA else[]
theorem writes_eq(s r:AH):G9 s r=some (Ho s r):=by unfold G9 G9.J1 Ho;grind
theorem read_eq(r:AH):Ih r=some (r.da==3||r.da==23):=by unfold Ih Ih.J1;grind
theorem PX(hn:w.AA.length<=16)(n:Int)(r:AH):∀(m i:Nat)(c:iT),i<=w.AA.length->w.AA.length<m+i->c.length<=i+1->Bm.AU n w r m c i=some (c++Il w n r i (w.AA.drop i))|0,i,c,h1,h2,_=>ah|m+1,i,c,h1,h2,h3=>by rw[Bm.AU];unfold Bm.L1;by_cases hi:i<w.AA.length;(rw[Ay ah,Be hi,AAK,writes_eq,AAK,DQ hi,Il];have a:∀p,p=Mn w n r i w.AA[i]->Bm.J3 (Bm.AU n w r m) c i p=some (c++if Mn w n r i w.AA[i]=true then(i:Int)::Il w n r (i+1) (w.AA.drop (i+1))else Il w n r (i+1) (w.AA.drop (i+1))):=by rintro p rfl;unfold Bm.J3 Bm.J4;rw[AW ah];split;rw[Bg ah,PX hn n r m (i+1) _ ah ah an];simp;rw[PX hn n r m (i+1) c ah ah ah]);unfold Mn at a |-;grind;rw[AR ah,EW ah];simp[Bm.J5,Il]
theorem oG(d:WQ w)(hi:i<w.AA.length):(w.AA[i].da=3->B4 w.AA[i].di w.de.dg.length)/\(w.AA[i].da=23->B4 w.AA[i].di w.de.dc.Bs.length/\B4 w.AA[i].di w.de.AM.length):=by
 have j:=JZ d.g.v;obtain⟨f1,f2,f3,f4⟩:=Hq d.f.f;have f5:=(Dn f1).2.1;have key:∀{l:jo}{s:AD},UE w.db s l->∀e∈l,A8 w.db e.da e.di:=by intro l;induction l with|nil=>simp_all|cons a r ih=>(intro s c e b;rcases AAk.1 b with rfl|b);have:=poss_en c.1;unfold CN at this;simp_all;exact ih c.2 e b
 have h:=key j.p _ (AAW hi);unfold A8 at h;grind
theorem oE(d:WQ w)(n:Int):Bm w n=some (IZ w n):=by have q:=BN;have hn:=d.f.e;unfold Bm IZ;by_cases hi:B4 n w.AA.length=true;(have j:=As.1 hi;rw[AR ah,AR ah,Bv hi,AAK,read_eq,AAK];unfold Bm.J1;cases a:((ix w.AA n).da==3||(ix w.AA n).da==23)with|false=>simp_all|true=>(simp only[Bool.not_true,AAU,AAd];have c:(ix w.AA n).da=3\/(ix w.AA n).da=23:=(by simpa using a);rw[AAQ ⟨hi,c⟩,Bv hi,AAK];have b:n.toNat<w.AA.length:=ah;have m:ix w.AA n=w.AA[n.toNat]:=(by unfold ix;simp[b]);obtain⟨g,i⟩:=oG d b;rw[<- m]at g i;have k:GL w (ix w.AA n)=some (La w (ix w.AA n)):=by(unfold GL GL.J1 La;rcases c with a|a);rw[AAP aA,AAP ah,Bv (g a)];rfl;obtain⟨o,p⟩:=i a;rw[AAQ aA,AAQ a,Bv o,AAK,Bv p];grind);rw[k,AAK];unfold Bm.J2;split;exact PX hn n _ BQ 0 [-1] ah ah ak;exact PX hn n _ BQ 0 [] ah ah ak);have j:n<0\/n>=w.AA.length:=(by simp only[B4,AAL,AAe]at hi;omega);have l:¬(B4 n w.AA.length=true/\((ix w.AA n).da=3\/(ix w.AA n).da=23)):=λh=>hi h.1;rw[AAP l];unfold Bm.J1;grind
end
theorem awake27:GY=some true:=by decide +kernel
variable{r:AE}{B T:jc}{d:Type}
section
set_option maxHeartbeats 4000000
theorem LB(hn:w.AA.length<=16)(n f:Int)(r:AH)(b:r.da=3/\f=4\/r.da=23/\f=22)(d:∀i:Nat,(i:Int)=n->∀hi:i<w.AA.length,w.AA[i].da≠f):∀(m i:Nat)(c:iT),i<=w.AA.length->w.AA.length<m+i->c.length<=i+1->BH.AU n f w r m c i=some (c++Il w n r i (w.AA.drop i))|0,i,c,a,h2,_=>ah|m+1,i,c,a,h2,h3=>by rw[BH.AU];unfold BH.L1;by_cases hi:i<w.AA.length;(rw[Ay ah,Be hi,AAK,DQ hi,Il];have j:=λh=>d i h hi;have g:∀p,p=Mn w n r i w.AA[i]->BH.J5 (BH.AU n f w r m) c i p=some (c++if Mn w n r i w.AA[i]=true then(i:Int)::Il w n r (i+1) (w.AA.drop (i+1))else Il w n r (i+1) (w.AA.drop (i+1))):=by rintro p rfl;unfold BH.J5 BH.J6;rw[AW ah];split;rw[Bg ah,LB hn n f r b d m (i+1) _ ah ah an];simp;rw[LB hn n f r b d m (i+1) c ah ah ah]);(have s:Mn w n r i w.AA[i]=false->BH.J6 (BH.AU n f w r m) i c=some (c++if Mn w n r i w.AA[i]=true then(i:Int)::Il w n r (i+1) (w.AA.drop (i+1))else Il w n r (i+1) (w.AA.drop (i+1))):=by intro k;rw[<- g false k.symm];unfold BH.J5;rw[AAP ak]);(generalize w.AA[i]=e at*;have q:Ho e r=(e.da==f&&e.di==r.di):=by(unfold Ho;rcases b with⟨a,rfl⟩|⟨a,rfl⟩);grind;grind);(have u:∀o,o= !(Ho e r&&e.dm==r.dm)->BH.J4 (BH.AU n f w r m) c n i r e o=some (c++if Mn w n r i e=true then(i:Int)::Il w n r (i+1) (w.AA.drop (i+1))else Il w n r (i+1) (w.AA.drop (i+1))):=by rintro o rfl;unfold BH.J4;cases hc:(Ho e r&&e.dm==r.dm)with|false=>rw[AAQ ak];apply s;unfold Mn;simp_all|true=>simp only[AAL]at hc;rw[AAP ak];have l:e.da=f:=(by have:=hc.1;rw[q]at this;simp at this;exact this.1);have t:(i:Int)≠n:=λh=>j h l;cases ht:e.cT==r.cT with|false=>rw[AAQ am];apply g;unfold Mn;simp_all|true=>rw[AAP am];apply g;unfold Mn;grind);grind;rw[AR ah,EW ah];simp[BH.J7,Il]
theorem mcand_eq(m:WQ w)(n:Int):BH w n=some (IZ w n):=by have y:=BN;have hn:=m.f.e;unfold BH IZ;by_cases hi:B4 n w.AA.length=true;have r:=As.1 hi;rw[AR ah];unfold BH.J1;rw[AR ah,Bv hi,AAK];have k:n.toNat<w.AA.length:=ah;have u:ix w.AA n=w.AA[n.toNat]:=(by unfold ix;simp[k]);obtain⟨o,p⟩:=oG m k;rw[<- u]at o p;have d:∀f,(ix w.AA n).da≠f->∀i:Nat,(i:Int)=n->∀hi:i<w.AA.length,w.AA[i].da≠f:=(by intro f s i q hi;have:ix w.AA n=w.AA[i]:=(by rw[<- q,CH hi]);rw[<- this];exact s);by_cases g:(ix w.AA n).da=3;have j:B4 n w.AA.length/\((ix w.AA n).da=3\/(ix w.AA n).da=23):=⟨hi,.inl g⟩;rw[AAQ am,Bv (o g),AAK,AAQ j];have l:La w (ix w.AA n)=(ix w.de.dg (ix w.AA n).di==(ix w.AA n).dm):=(by unfold La;rw[AAP (by omega)]);rw[<- l];unfold BH.J3;by_cases b:La w (ix w.AA n)=true;rw[AAQ b,AAQ b];exact LB hn n 4 _ (.inl ⟨g,rfl⟩) (d 4 ah) BQ 0 [-1] ah ah ak;rw[AAP b,AAP b];exact LB hn n 4 _ (.inl ⟨g,rfl⟩) (d 4 ah) BQ 0 [] ah ah ak;rw[AAP am];by_cases a:(ix w.AA n).da=23;((obtain⟨v,x⟩:=p a;have c:B4 n w.AA.length/\((ix w.AA n).da=3\/(ix w.AA n).da=23):=⟨hi,.inr a⟩;rw[AAQ am,Bv v,AAK,AAQ c];have l:La w (ix w.AA n)=(ix w.de.dc.Bs (ix w.AA n).di&&ix w.de.AM (ix w.AA n).di==(ix w.AA n).dm):=(by unfold La;rw[AAQ a]);have B:∀z,z=La w (ix w.AA n)->BH.J2 n w (ix w.AA n) z=some ((if La w (ix w.AA n)=true then[-1]else[])++Il w n (ix w.AA n) 0 w.AA):=by rintro z rfl;unfold BH.J2 BH.J3;by_cases b:La w (ix w.AA n)=true;rw[AAQ b,AAQ b];exact LB hn n 22 _ (.inr ⟨a,rfl⟩) (d 22 ah) BQ 0 [-1] ah ah ak;rw[AAP b,AAP b];exact LB hn n 22 _ (.inr ⟨a,rfl⟩) (d 22 ah) BQ 0 [] ah ah ak);cases hd:ix w.de.dc.Bs (ix w.AA n).di with|true=>simp only[AAq];rw[Bv x,AAK];simp_all|false=>simp_all);simp_all;have r:n<0\/n>=w.AA.length:=(by simp only[B4,AAL,AAe]at hi;omega);have t:¬(B4 n w.AA.length=true/\((ix w.AA n).da=3\/(ix w.AA n).da=23)):=λh=>hi h.1;rw[AAP t];unfold BH.J1;grind
def EN(t:Int):Nat->List AH->List Int|_,[]=>[]|i,e::l=>if e.cT=t then(i:Int)::EN t (i+1) l else EN t (i+1) l
def XS(w:AF):List (List Int):=(List.range w.db.AB.length).map λ(t:Nat)=>EN (t:Int) 0 w.AA
def relB(r:AE)(i j:Nat):Bool:=((((r.d7)[i]?).getD [])[j]?).getD false
structure RW (w:AF) (r:AE) (A:Nat->Nat->Prop):Prop where
 s:r.w=w
 l:r.ef=XS w
 n:r.d7.length=w.AA.length
 m:∀x∈r.d7,x.length=w.AA.length
 a:∀i j,i<w.AA.length->j<w.AA.length->(relB r i j=true↔A i j)
def RW.congr{A:jc}(h:RW w r A)(c:∀i j,i<w.AA.length->j<w.AA.length->(A i j↔B i j)):RW w r B:=⟨h.s,h.l,h.n,h.m,λi j hi b=>(h.a i j hi b).trans (c i j hi b)⟩
theorem RW.row{A:jc}(h:RW w r A)(b:n<w.AA.length):∃row,gt r.d7 (n:Int)=some row/\r.d7[n]? =some row/\row.length=w.AA.length:=by
 have a:n<r.d7.length:=by rw[h.n];exact b
 exact⟨r.d7[n],Be a,AAT a,h.m _ (AAW a)⟩
theorem RW.get{A:jc}(h:RW w r A)(c:n<w.AA.length)(g:i<w.AA.length){f:Bool->ABm d}{R:d->Prop}(k:∀b,(b=true↔A n i)->CX (f b) R):CX ((gt r.d7 (n:Int)).bind λx=>(gt x (i:Int)).bind f) R:=by obtain⟨row,e,q,j⟩:=h.row c;rw[e,AAK,Be (show i<row.length by omega),AAK];refine k _ ?_;have:=h.a n i c g;unfold relB at this;simp_all
theorem RW.put{A:jc}(h:RW w r A)(g:n<w.AA.length)(k:i<w.AA.length){row:kj}(f:r.d7[n]? =some row):RW w ⟨r.w,r.ef,r.ep,r.d7.set n (row.set i true)⟩ (λq j=>A q j\/q=n/\j=i):=by have c:row.length=w.AA.length:=h.m _ (AAZ f);refine⟨h.s,h.l,by simpa using h.n,?_,?_⟩;(intro x b;rcases AA2 b with b|rfl);exact h.m x b;simp_all;intro q j hi e;have d:=h.a q j hi e;unfold relB at d |-;grind
theorem RW.set{A:jc}(h:RW w r A){q:Nat}(a:i<w.AA.length)(g:q<w.AA.length){f:List Bool->Bool->ABm d}{R:d->Prop}(k:∀row b,RW w ⟨r.w,r.ef,r.ep,r.d7.set i (row.set q true)⟩ (λp j=>A p j\/p=i/\j=q)->CX (f row b) R):CX ((gt r.d7 (i:Int)).bind λx=>(gt x (q:Int)).bind (f x)) R:=by obtain⟨row,c,e,l⟩:=h.row a;rw[c,AAK,Be (show q<row.length by omega),AAK];exact k row _ (h.put a g e)
def WA(A:jc)(k i j:Nat):Prop:=A i j\/A i k/\A k j
def WN(A:jc):Nat->Nat->Nat->Prop|0=>A|k+1=>WA (WN A k) k
theorem UM(A:jc):∀k z,z<k->∀x y,WN A k x z->WN A k z y->WN A k x y:=by intro k;induction k with|zero=>omega|succ k ih=>intro z c x y b a;by_cases e:z=k;subst e;exact .inr ⟨b.elim id λh=>h.1,a.elim id λh=>h.2⟩;(have c:z<k:=ah;rcases b with b|b);(rcases a with a|a);exact .inl (ih z c x y b a);exact .inr ⟨ih z c x k b a.1,a.2⟩;(rcases a with a|a);exact .inr ⟨b.1,ih z c k y b.2 a⟩;exact .inr ⟨b.1,a.2⟩
def O2(A:jc):∀k {x y},A x y->WN A k x y|0,_,_,h=>h|k+1,_,_,h=>.inl (O2 A k h)
theorem TF{A:jc}(a:∀x y,x<n->y<n->A x y->T x y)(b:∀x z y,x<n->z<n->y<n->T x z->T z y->T x y):∀k,k<=n->∀x y,x<n->y<n->WN A k x y->T x y:=by
 intro k;induction k with
 |zero=>exactλ_=>a
 |succ k ih=>
  intro c x y d e h;rcases h with h|h
  all_goals grind
theorem zZ(hn:w.AA.length<=16){A:jc}(h:RW w r A):CX (Au r) λa=>RW w a (WN A w.AA.length):=by
 have V:=BN;have U:=h.n;have key:∀(n k:Nat)(x:AE),w.AA.length<n+k->k<=w.AA.length->RW w x (WN A k)->CX (Au.AU r n x k) λa=>RW w a (WN A w.AA.length):=by intro n;induction n with|zero=>omega|succ n ih=>intro k x S T G;unfold Au.AU Au.L1;refine tI (λt=>?_) λt=>?_;rotate_left;have:=ABO t;obtain rfl:k=w.AA.length:=ah;exact tR G;(have t:=AAV t;have p:k<w.AA.length:=ah;generalize K:WN A k=B at G;have W:∀(m c:Nat)(y:AE),w.AA.length<m+c->c<=w.AA.length->RW w y (λi j=>B i j\/i<c/\B i k/\B k j)->CX (Au.B9 (Au.AU r n) r k m y c) λa=>RW w a (WN A w.AA.length):=by intro m;induction m with|zero=>omega|succ m ih2=>intro c y R g2 C;unfold Au.B9 Au.L2;refine tI (λd=>?_) λd=>?_;(. have d:=AAV d;have f:c<w.AA.length:=ah;have H:∀z,RW w z (λi j=>B i j\/i<c+1/\B i k/\B k j)->CX (Au.J2 (Au.B9 (Au.AU r n) r k m) c z) λa=>RW w a (WN A w.AA.length):=(by intro z q;unfold Au.J2;rw[AW (by omega)];exact ih2 (c+1) z (by omega) (by omega) q);refine C.get f p λb E=>tI (λM=>?_) λO=>?_;have M:¬B c k:=λL=>am;refine H y (C.congr λi j hi s=>⟨λg=>g.imp id λg=>⟨ah,g.2⟩,λg=>g.elim .inl λg=>?_⟩);grind;(. (have P:B c k:=(by have D:b=true:=(by simpa using O);exact(E.1 D).elim id λg=>by omega);have X:∀(u e:Nat)(z:AE),w.AA.length<u+e->e<=w.AA.length->RW w z (λi j=>(B i j\/i<c/\B i k/\B k j)\/i=c/\j<e/\B k j)->CX (Au.Fw (Au.B9 (Au.AU r n) r k m) r k c u z e) λa=>RW w a (WN A w.AA.length):=by intro u;induction u with|zero=>omega|succ u ih3=>intro e z Z q2 v;unfold Au.Fw Au.L3;refine tI (λl=>?_) λl=>?_;(. have l:=AAV l;have o:e<w.AA.length:=ah;have j1:∀z,RW w z (λi j=>(B i j\/i<c/\B i k/\B k j)\/i=c/\j<e+1/\B k j)->CX (Au.J1 (Au.Fw (Au.B9 (Au.AU r n) r k m) r k c u) e z) λa=>RW w a (WN A w.AA.length):=(by intro z q;unfold Au.J1;rw[AW (by omega)];exact ih3 (e+1) z (by omega) (by omega) q);refine v.get p o λQ J=>tI (λI=>?_) λN=>?_;(. (have F:B k e:=by(rcases J.1 I with(g|g)|g);exact g;exact g.2.2;exact g.2.2);refine v.set f o λrow _ q=>?_;rw[AAi,AAi];refine j1 _ (q.congr λi j hi s=>⟨λg=>?_,λg=>?_⟩);all_goals grind);have F:¬B k e:=λg=>am;refine j1 z (v.congr λi j hi s=>⟨λg=>g.imp id λg=>⟨g.1,ah,g.2.2⟩,λg=>g.imp id λg=>?_⟩);grind);(. have l:=ABO l;obtain rfl:e=w.AA.length:=ah;refine H z (v.congr λi j hi s=>⟨λg=>?_,λg=>?_⟩);all_goals grind));grind));have d:=ABO d;obtain rfl:c=w.AA.length:=ah;unfold Au.J3;rw[AW ah];refine ih (k+1) y ah ah (C.congr λi j hi s=>?_);show _↔WA (WN A k) k i j;rw[K];exact⟨λg=>g.imp id λg=>g.2,λg=>g.imp id λg=>⟨hi,g⟩⟩);grind
 exact key BQ 0 r ah ah h
theorem Ex(h:ET wv s e):CN wv s.dc e.cT e.da e.di/\B4 e.cT wv.AB.length/\A8 wv e.da e.di/\Du wv s.dc e.cT e.da e.di/\HR wv s.dc:=by unfold ET at h;simp only[AAL]at h;have a:=h.2.2.1;have b:=a;unfold CN at a;simp_all
theorem IF{s:AP}{f:AL->AL}(hi:B4 o s.AB.length)(a:B4 t s.AB.length):ix (Jz s o f).AB t=if t=o then f (ix s.AB o)else ix s.AB t:=by have b:=As.1 hi;have c:=As.1 a;unfold Jz ix;grind
theorem wakeF_st(o:Int)(x:AL):(Hg o x).dh=x.dh\/(x.dh=3/\(Hg o x).dh=4):=by unfold Hg Hv IP;grind
theorem waitL_in(o:Int):∀(l:kr)(i:Nat)(x:Int),x∈CO o i l->∃(k:Nat)(b:k<l.length),x=((i+k:Nat):Int)/\l[k].dh=3:=by
 intro l;induction l with
 |nil=>intro i x a;simp[CO]at a
 |cons y l ih=>
  intro i x a;have c:x∈CO o (i+1) l->∃(k:Nat)(b:k<(y::l).length),x=((i+k:Nat):Int)/\(y::l)[k].dh=3:=λh=>by obtain⟨k,b,f,d⟩:=ih _ _ h;exact⟨k+1,am,ah,d⟩
  unfold CO at a;split at a;(rename_i e;rcases AAk.1 a with rfl|a);refine⟨0,ak,ak,?_⟩;unfold Hv at e;simp_all;simp_all;simp_all
theorem JY(h:ET wv s e)(K:B4 t wv.AB.length):(ix (Dd wv s e).dc.AB t).dh=(if e.da=20/\t=e.di then 1 else if t=e.cT/\e.da=1 then 2 else if t=e.cT/\e.da=2 then 5 else if t=e.cT/\e.da=16 then 3 else if t=e.cT/\e.da=17 then 2 else(ix s.dc.AB t).dh)\/((ix s.dc.AB t).dh=3/\(ix (Dd wv s e).dc.AB t).dh=4):=by
 obtain⟨_,I,l,M,G⟩:=Ex h;have m:=(Dn G).2.2;have c:B4 t s.dc.AB.length:=by rw[m];exact K
 have d:B4 e.cT s.dc.AB.length:=by rw[m];exact I
 unfold Dd DP;dsimp only;by_cases w:e.da=1;left;rw[if_pos w];dsimp only;rw[IF d c];grind;rw[AAP w];by_cases x:e.da=2;left;rw[if_pos x];dsimp only;rw[IF d c];grind;rw[AAP x];by_cases p:e.da=6\/e.da=10;(left;rw[AAQ p];rcases p with k|k<;>simp[k,HW]);rw[AAP p];by_cases q:e.da=7\/e.da=11;(left;rw[AAQ q];rcases q with k|k<;>simp[k,HW]);rw[AAP q];by_cases y:e.da=8;left;simp[y,HW];rw[AAP y];by_cases z:e.da=9;left;simp[z,HW];rw[AAP z];by_cases L:e.da=12;simp_all;rw[AAP L];by_cases o:e.da=13;simp_all;rw[AAP o];by_cases f:e.da=14;left;rw[if_pos f];dsimp only;rw[IF d c];grind;rw[AAP f];by_cases g:e.da=15;left;rw[if_pos g];dsimp only;rw[IF d c];grind;rw[AAP g];by_cases u:e.da=16;left;rw[if_pos u];dsimp only;rw[IF (by simpa[HW]using d) (by simpa[HW]using c)];split<;>simp[*,HW];rw[AAP u];by_cases r:e.da=17;left;rw[if_pos r];dsimp only;rw[IF (by simpa[HW]using d) (by simpa[HW]using c)];split<;>simp[*,HW];rw[AAP r];by_cases j:e.da=18;rw[AAQ j,AAQ j];dsimp only;split;omega;(rename_i C;have n:El e.dm (CO e.di 0 s.dc.AB)∈CO e.di 0 s.dc.AB:=by unfold El;rw[AAP C];split;simp_all;cases hw:CO e.di 0 s.dc.AB with|nil=>simp_all|cons a b=>simp);obtain⟨k,J,v,F⟩:=waitL_in _ _ _ _ n;have D:B4 (El e.dm (CO e.di 0 s.dc.AB)) s.dc.AB.length:=(by rw[v];unfold B4;simp;omega);rw[IF D c];split;rename_i E;right;refine⟨?_,rfl⟩;rw[E,v,AA6,CH J];exact F;omega;rw[AAP j];by_cases B:e.da=19
 . (rw[AAQ B];have n:ix (s.dc.AB.map (Hg e.di)) t=Hg e.di (ix s.dc.AB t):=(by have:=As.1 c;unfold ix;rw[AAX,AAT (by omega)];rfl);dsimp only;rw[n];rcases wakeF_st e.di (ix s.dc.AB t)with h|h);all_goals omega
 rw[AAP B];by_cases i:e.da=20;left;have H:B4 e.di s.dc.AB.length:=(by rw[m];unfold A8 at l;rw[i]at l;simpa(decide:=true)only[AAq,AAd,or_true,true_or,ABB]using l);rw[if_pos i];dsimp only;rw[IF H c];grind;grind
theorem set_mid(a:List d)(x y:d)(b:List d):(a++x::b).set a.length y=a++y::b:=ak
theorem Yd(l:iT)(v:Int)(b:l.length<=1000000):∀(n i:Nat),i<=l.length->l.length<n+i->Iq.AU l v n (i:Int)=some ((l.drop i).contains v)|0,i,h1,h2=>ah|n+1,i,h1,h2=>by rw[Iq.AU];unfold Iq.L1;by_cases hi:i<l.length;rw[Ay ah,Be hi,AAK,DQ hi,List.contains_cons,AW ah,Yd l v b n (i+1) ah ah];by_cases h:l[i]=v;simp[h];have a:¬v=l[i]:=λe=>h e.symm;simp[h,a];rw[AR ah,EW ah];rfl
theorem Has27_eq(l:iT)(v:Int)(a:l.length<=1000000):Iq l v=some (l.contains v):=Yd l v a BQ 0 ah aS
def Ly(w:Bool)(h:UL):List Int:=Ol (if w=true then h.Re else h.Re++h.rH)
def PF(a:KW)(t:Int)(w:Bool)(h:UL):KW×Bool:=if a.ed=0\/a.ed=1/\t=a.Bw then(⟨1,t,[]⟩,false)
 else(⟨if w=true then 3 else if a.ed=1 then 2 else a.ed,0,if a.ed=1 then Ly w h else a.AK.filter (Ly w h).contains⟩,(if w=true then 3 else if a.ed=1 then 2 else a.ed)==3&&((if a.ed=1 then Ly w h else a.AK.filter (Ly w h).contains).length:Int)==0)
structure EI (a:KW):Prop where
 s:a.ed=0\/a.ed=1\/a.ed=2\/a.ed=3
 o:a.AK.Pairwise (· < ·)
 l:a.AK.length<=1000
def HL(h:UL):Prop:=h.Re.length<=100/\h.rH.length<=100
theorem uF{w:Bool}{h:UL}(a:HL h):(Ly w h).length<=200:=by have b:=a.1;have c:=a.2;unfold Ly;refine ABF (Vj _) ?_;split;omega;simp only[AA1];omega
theorem EI.step{a:KW}(b:EI a){t:Int}{w:Bool}{h:UL}(c:HL h):EI (PF a t w h).1:=by have e:=uF (w:=w) c;have f:=b.s;unfold PF;split;exact⟨.inr (.inl rfl),.nil,ak⟩;rename_i d;refine⟨?_,?_,?_⟩;simp only;split;omega;split<;>omega;simp only;split;exact NM _;exact b.o.filter _;simp only;split;omega;exact ABF (List.length_filter_le _ _) b.l
def OR(l:iT)(x:Int):List Int:=if 0<=x/\x<(l.length:Int)then[ix l x]else[]
theorem hitL_cons(e:Int)(l:iT)(x:Int):OR (e::l) x=if x=0 then[e]else OR l (x-1):=by unfold OR;by_cases h:x=0;subst h;rw[AAQ rfl,AAQ ak];rfl;rw[AAP h];by_cases a:0<=x/\x<((e::l).length:Int);have b:0<=x-1/\x-1<(l.length:Int):=(by simp at a;omega);rw[AAQ a,AAQ b];unfold ix;obtain⟨n,hn⟩:∃n:Nat,x=n+1:=⟨(x-1).toNat,ah⟩;simp_all;grind
theorem mY(l:iT)(x:Int):(OR l x).length<=1:=by unfold OR;grind
def Dc(w:AF)(t:Int)(ks:iT):List Int:=ks.flatMap λk=>OR (EN t 0 w.AA) (k-ix w.de.df t)
theorem Uo(w:AF)(t k:Int)(a:iT):Dc w t (k::a)=OR (EN t 0 w.AA) (k-ix w.de.df t)++Dc w t a:=by simp[Dc]
theorem Ro(t:Int):∀(l:jo)(i:Nat)(x:Int),x∈EN t i l->∃(k:Nat)(b:k<l.length),x=((i+k:Nat):Int)/\l[k].cT=t:=by
 intro l;induction l with
 |nil=>intro i x a;simp[EN]at a
 |cons y l ih=>
  intro i x a;have c:x∈EN t (i+1) l->∃(k:Nat)(b:k<(y::l).length),x=((i+k:Nat):Int)/\(y::l)[k].cT=t:=λh=>by obtain⟨k,b,f,d⟩:=ih _ _ h;exact⟨k+1,am,ah,d⟩
  unfold EN at a;split at a;(rename_i e;rcases AAk.1 a with rfl|a);exact⟨0,ak,ak,e⟩;simp_all;simp_all
theorem Qp(t:Int):∀(l:jo)(i:Nat),(EN t i l).length<=l.length:=by intro l;induction l with|nil=>intro i;simp[EN]|cons y l ih=>intro i;have:=ih (i+1);unfold EN;grind
def vW(w:AF)(c:iT):Prop:=∀q∈c,∃m:Nat,m<w.AA.length/\q=(m:Int)
theorem WM:∀q∈Dc w t c,∃m:Nat,∃b:m<w.AA.length,q=(m:Int)/\w.AA[m].cT=t:=by intro q d;obtain⟨k,_,a⟩:=List.mem_flatMap.1 d;generalize k-ix w.de.df t=y at a;unfold OR at a;split at a;rename_i h;have b:ix (EN t 0 w.AA) y∈EN t 0 w.AA:=(by unfold ix;rw[AAT (by omega)];exact AAW _);simp only[AAg]at a;obtain⟨i,e,f,g⟩:=Ro _ _ _ _ b;grind;grind
theorem ZO(w:AF)(t:Int):∀a:List Int,(Dc w t a).length<=a.length:=by intro a;unfold Dc;induction a with|nil=>simp|cons k a ih=>have:=mY (EN t 0 w.AA) (k-ix w.de.df t);grind
def Yh(ks:iT):Prop:=ks.length<=1000/\∀k∈ks,0<=k/\k<=1000
theorem Vd(hn:w.AA.length<=16)(L1:List Int->Int->ABm (List Int))(c b j:Int):∀(n e:Nat)(i:iT)(f:Int),e<=w.AA.length->w.AA.length<n+e->i.length<=1000000+e->0<=f->f<=1000+e->CZ.B9 L1 c b w j n i f (e:Int)=CZ.J3 L1 c (i++OR (EN b e (w.AA.drop e)) (j-f))|0,e,i,f,h1,h2,_,_,_=>ah|n+1,e,i,f,h1,h2,h3,h4,h5=>by rw[CZ.B9];unfold CZ.L2;by_cases hi:e<w.AA.length;rw[Ay ah,Be hi,AAK,DQ hi];unfold CZ.J2 CZ.J1 CZ.J2;by_cases a:w.AA[e].cT=b;rw[EN,AAQ a,hitL_cons,AAP (by simp[a])];by_cases d:f=j;rw[AAQ (by simp[d]),Bg ah,AAQ ah,CY ah ah,AW ah,Vd hn L1 c b j n (e+1) _ (f+1) ah ah an ah ah];have:OR (EN b (e+1) (w.AA.drop (e+1))) (j-(f+1))=[]:=(by unfold OR;rw[AAP (by omega)]);simp_all;rw[AAP am,AAP ah,CY ah ah,AW ah,Vd hn L1 c b j n (e+1) i (f+1) ah ah ah ah ah];grind;rw[EN,AAP a,AAQ am,AW ah,Vd hn L1 c b j n (e+1) i f ah ah ah h4 ah];have:OR [] (j-f)=[]:=(by unfold OR;rw[AAP (by simp)]);rw[AR ah,EW ah,EN,this,ABU]
theorem cntQ(b:WQ w):∀u,B4 u w.db.AB.length->0<=ix w.de.df u/\ix w.de.df u<=400:=by have a:=b.g.v;unfold KG T4 at a;simp only[AAL]at a;exact sN b.f.l a.2.2.2.1.1
theorem Zk(d:WQ w)(g:B4 b w.db.AB.length)(h:Yh c):CZ w b c=some (Dc w b c):=by
 have r:=BN;have hn:=d.f.e;have j:B4 b w.de.df.length:=by rw[d.f.l.c];exact g
 have m:=cntQ d b g;have key:∀(n i:Nat)(l:iT),i<=c.length->c.length<n+i->l.length<=i->CZ.AU c b w n l (i:Int)=some (l++Dc w b (c.drop i)):=by intro n;induction n with|zero=>omega|succ n ih=>intro i l o p q;rw[CZ.AU];unfold CZ.L1;have k:=h.1;by_cases hi:i<c.length;rw[Ay ah,Be hi,AAK,Bv j,AAK];have:=Vd hn (CZ.AU c b w n) i b c[i] BQ 0 l (ix w.de.df b) ah ah ah ah ah;rw[AAr]at this;rw[show((0:Nat):Int)=0 from rfl]at this;rw[this];unfold CZ.J3;rw[AW ah,ih (i+1) _ ah ah (by have:=mY (EN b 0 w.AA) (c[i]-ix w.de.df b);simp;omega),show Dc w b (c.drop i)=OR (EN b 0 w.AA) (c[i]-ix w.de.df b)++Dc w b (c.drop (i+1))from by rw[DQ hi,Uo],ABL];rw[AR ah,EW ah];simp[CZ.J4,Dc]
 have:=key BQ 0 [] ah (by have:=h.1;omega) ak;simpa[CZ]using this
theorem OX(a:B4 b w.db.AB.length):gt (XS w) b=some (EN b 0 w.AA):=by have h:=As.1 a;obtain⟨n,rfl⟩:∃n:Nat,b=n:=⟨b.toNat,ah⟩;rw[Kw];unfold XS;simp_all
theorem fN(k:WQ w)(p:r.w=w)(m:r.ef=XS w)(d:B4 b w.db.AB.length)(j:Yh c):B7 r b c=some (Dc w b c,r):=by
 have B:=BN;have hn:=k.f.e;have q:B4 b r.w.de.df.length:=by rw[p,k.f.l.c];exact d
 have u:=cntQ k b d;have o:=Qp b w.AA 0;have key:∀(n i:Nat)(l:iT),i<=c.length->c.length<n+i->l.length<=i->B7.AU c r b n l (i:Int)=some (l++Dc w b (c.drop i),r):=by intro n;induction n with|zero=>omega|succ n ih=>intro i l x y z;rw[B7.AU];unfold B7.L1;have s:=j.1;by_cases hi:i<c.length;have v:=j.2 _ (AAW hi);rw[Ay ah,Be hi,AAK,Bv q,AAK,m,OX d,p,CY ah ah,DQ hi];have t:Dc w b (c[i]::c.drop (i+1))=OR (EN b 0 w.AA) (c[i]-ix w.de.df b)++Dc w b (c.drop (i+1)):=Uo ..;rw[t];unfold B7.J1 B7.J2;by_cases g:c[i]-ix w.de.df b>=0;rw[Ay g,AAK];by_cases h:c[i]-ix w.de.df b<((EN b 0 w.AA).length:Int);rw[Ay h,m,OX d,AAK,CY ah ah,Bv (As.2 ⟨g,h⟩),AAK,Bg ah,AW ah,ih (i+1) _ ah ah an];unfold OR;simp_all;rw[AR h,AW ah,ih (i+1) _ ah ah ah];unfold OR;simp_all;rw[AR g,AAP ak,AW ah,ih (i+1) _ ah ah ah];unfold OR;grind;rw[AR ah,EW ah];simp[B7.J3,Dc]
 have:=key BQ 0 [] ah (by have:=j.1;omega) ak;simpa[B7]using this
theorem filt_lt{p q:d->Bool}(b:∀y,q y->p y):∀{l:List d}{x:d},x∈l->p x->q x=false->(l.filter q).length+1<=(l.filter p).length:=by
 have mono:∀l:List d,(l.filter q).length<=(l.filter p).length:=by intro l;induction l with|nil=>simp|cons y l ih=>grind
 intro l;induction l with|nil=>simp_all|cons y l ih=>grind
def muS(n:Nat)(c:iT):Nat:=((List.range n).filter λi:Nat=>!c.contains (i:Int)).length
theorem mu_add(a:i<n)(b:c.contains (i:Int)=false):muS n (c++[(i:Int)])+1<=muS n c:=by unfold muS;refine filt_lt (λy h=>?_) (ABc.2 a) ?_ ?_;all_goals simp_all
def Mj(c:iT):List Int->List Int|[]=>c|q::r=>Mj (if c.contains q=true then c else c++[q]) r
theorem UO:∀(a c:iT),∃t,Mj c a=c++t:=by intro a;induction a with|nil=>exactλc=>⟨[],by simp[Mj]⟩|cons q a ih=>intro c;unfold Mj;split;exact ih c;obtain⟨t,b⟩:=ih (c++[q]);simp_all
theorem Sj:∀(a c:iT),vW w a->vW w c->(Mj c a).length+muS w.AA.length (Mj c a)<=c.length+muS w.AA.length c/\vW w (Mj c a):=by intro a;induction a with|nil=>exactλc _ d=>⟨AAl _,d⟩|cons q a ih=>intro c e d;have f:vW w a:=λy b=>e y (ABP _ b);unfold Mj;split;simp_all;rename_i h;obtain⟨m,g,rfl⟩:=e q ABE;have i:=mu_add g (by simpa using h);have j:=ih (c++[(m:Int)]) f (λy b=>by(rcases AAc.1 b with b|b);exact d y b;grind);grind
def Mb(w:AF)(q:Int):ABm Nat:=match IZ w q with|[x]=>if 0<=x then some x.toNat else none|_=>none
def JS(w:AF):Nat->List Int->Nat->List Int|0,c,_=>c|n+1,c,a=>match c[a]? with|some q=>(match Mb w q with|some m=>JS w n (Mj c (Dc w (ix w.AA m).cT (ix w.AA m).DL)) (a+1)|none=>JS w n c (a+1))|none=>c
theorem candL_in{n:Int}:∀(l:jo)(i:Nat)(x:Int),x∈Il w n e i l->∃k,k<l.length/\x=((i+k:Nat):Int):=by
 intro l;induction l with
 |nil=>intro i x h;simp[Il]at h
 |cons y l ih=>
  intro i x h;have a:x∈Il w n e (i+1) l->∃k,k<(y::l).length/\x=((i+k:Nat):Int):=λh=>by obtain⟨k,b,c⟩:=ih _ _ h;exact⟨k+1,an,ah⟩
  unfold Il at h;split at h;(rcases AAk.1 h with rfl|h);exact⟨0,ak,ak⟩;simp_all;simp_all
theorem cF{n x:Int}(h:x∈IZ w n):x= -1\/∃k,k<w.AA.length/\x=(k:Int):=by unfold IZ at h;split at h;(rcases AAc.1 h with h|h);simp_all;obtain⟨k,a,b⟩:=candL_in _ _ _ h;grind;grind
theorem LG:Mb w t=some i↔i<w.AA.length/\IZ w t=[(i:Int)]:=by
 unfold Mb;constructor
 . intro h;split at h;(. rename_i x b;split at h;(. (rename_i a;rcases cF (w:=w) (n:=t) (x:=x) aA with h1|⟨k,h1,h2⟩);all_goals simp_all);grind);grind
 simp_all
theorem nZ{f:Bool->ABm d}{R:d->Prop}(a:Mb w t=none->CX (f true) R)(c:∀m,Mb w t=some m->CX (f false) R):CX (if((IZ w t).length:Int) != 1 then f true else(gt (IZ w t) 0).bind λy=>f (decide (y<0))) R:=by cases hc:IZ w t with|nil=>rw[AAQ ak];exact a (by unfold Mb;rw[hc])|cons x l=>cases l with|cons y l=>rw[AAQ an];exact a (by unfold Mb;rw[hc])|nil=>(rw[AAP ak,show gt [x] 0=some x from rfl,AAK];rcases cF (w:=w) (n:=t) (x:=x) aA with rfl|⟨k,hk,rfl⟩);exact a (by unfold Mb;grind);have:=c k (LG.2 ⟨hk,hc⟩);rw[show decide ((k:Int)<0)=false from by simp];exact this
theorem nums_ok:∀(l:jo)(s:AD)(K:Int),UE wv s l->(∀u,B4 u wv.AB.length->0<=ix s.df u/\ix s.df u<=K)->K+l.length<=1000->∀e∈l,B4 e.cT wv.AB.length/\Yh e.D4/\Yh e.DL:=by
 intro l;induction l with
 |nil=>simp_all
 |cons x l ih=>
  intro s K a f o e b;have c:=(Ex a.1).2.1;have p:K+(l.length:Int)+1<=1000:=by simp at o;omega
  have i:=f _ c;rcases AAk.1 b with rfl|b
  (obtain⟨y,z⟩:=Oc a.1;have hd:=a.1;unfold ET Ed at hd;simp only[AAL]at hd;obtain⟨_,_,_,_,⟨⟨_,t⟩,_,v⟩,_⟩:=hd;have len:∀D:List Int,F9 (ix s.df e.cT) 0 D->(∀k∈D,1<=k/\k<ix s.df e.cT)->Yh D:=λD m n=>by refine⟨?_,λk w=>aA⟩;cases D with|nil=>simp|cons d D=>have:=n d ABE;have:=nX (d::D) 0 ah m;omega);simp_all;refine ih _ (K+1) a.2 (λu g=>?_) ah e b;have j:=f u g;have r:=(Hq (wv:=wv) (s:=s) (by have h:=a.1;unfold ET at h;simp_all)).2.2.2;have q:=As.1 g;have B:=As.1 c;show 0<=ix (s.df.set x.cT.toNat (A9 (ix s.df x.cT+1))) u/\ix (s.df.set x.cT.toNat (A9 (ix s.df x.cT+1))) u<=K+1;rw[CY ah ah];unfold ix at j i |-;grind
theorem lQ(a:WQ w)(hi:i<w.AA.length):B4 w.AA[i].cT w.db.AB.length/\Yh w.AA[i].D4/\Yh w.AA[i].DL:=nums_ok w.AA w.de 400 (JZ a.g.v).p (cntQ a) (by have:=a.f.e;omega) _ (AAW hi)
theorem Wd(L1:List Int->Int->ABm (List Int))(a:Int)(e:iT)(b:e.length<=100000):∀(n d:Nat)(f:iT),d<=e.length->e.length<n+d->f.length<=100000+d->CS.B9 L1 a e n f (d:Int)=CS.J3 L1 a (Mj f (e.drop d))|0,d,f,h1,h2,_=>ah|n+1,d,f,h1,h2,h3=>by rw[CS.B9];unfold CS.L2;by_cases hi:d<e.length;(rw[Ay ah,Be hi,AAK,Has27_eq _ _ ah,AAK,DQ hi,Mj];unfold CS.J2;cases hc:f.contains e[d]with|true=>rw[AAP ak,AAQ rfl,AW ah,Wd L1 a e b n (d+1) f ah ah ah]|false=>rw[AAQ ak,Bg ah,AAP ak,AW ah,Wd L1 a e b n (d+1) _ ah ah an]);rw[AR ah,EW ah,Mj]
theorem WX(L1:AE->List Int->Int->ABm AE)(a:Int)(e:List Int×AE)(b:e.1.length<=100000):∀(n d:Nat)(f:iT),d<=e.1.length->e.1.length<n+d->f.length<=100000+d->BB.B9 L1 a e n f (d:Int)=BB.J3 L1 a e.2 (Mj f (e.1.drop d))|0,d,f,h1,h2,_=>ah|n+1,d,f,h1,h2,h3=>by rw[BB.B9];unfold BB.L2;by_cases hi:d<e.1.length;(rw[Ay ah,Be hi,AAK,Wt _ _ ah,AAK,DQ hi,Mj];unfold BB.J2;cases hc:f.contains e.1[d]with|true=>rw[AAP ak,AAQ rfl,AW ah,WX L1 a e b n (d+1) f ah ah ah]|false=>rw[AAQ ak,Bg ah,AAP ak,AW ah,WX L1 a e b n (d+1) _ ah ah an]);rw[AR ah,EW ah,Mj]
def RR(w:AF)(c:iT)(a:Nat):Nat:=(c.length-a)+muS w.AA.length c
def Lr(w:AF)(m:Nat):List Int:=Dc w (ix w.AA m).cT (ix w.AA m).DL
theorem V4(d:WQ w)(b:n<w.AA.length):vW w (Lr w n)/\(Lr w n).length<=1000:=by refine⟨λq c=>?_,?_⟩;obtain⟨k,e,h,_⟩:=WM q c;grind;have:=ZO w (ix w.AA n).cT (ix w.AA n).DL;have a:=(lQ d b).2.2.1;rw[<- CH b]at a;exact ABF this a
theorem Ll(b:i<c.length):JS w (n+1) c i=match Mb w c[i]with
 |some m=>JS w n (Mj c (Lr w m)) (i+1)
 |none=>JS w n c (i+1):=by
 rw[JS,AAT b];rfl
theorem Po(b:¬i<c.length):JS w n c i=c:=by cases n with|zero=>rfl|succ n=>rw[JS,List.getElem?_eq_none ah]
theorem work_pre:∀(n:Nat)(c:iT)(a:Nat),∃t,JS w n c a=c++t:=by intro n;induction n with|zero=>exactλc a=>⟨[],by simp[JS]⟩|succ n ih=>intro c a;by_cases b:a<c.length;rw[Ll b];split;rename_i m _;obtain⟨t,d⟩:=ih (Mj c (Lr w m)) (a+1);obtain⟨u,e⟩:=UO (Lr w m) c;simp_all;simp_all;exact⟨[],by rw[Po b];simp⟩
theorem wE(b:n<c.length)(d:vW w c):RR w c (n+1)+1<=RR w c n:=by unfold RR;omega
theorem RR_add(i:n<c.length)(b:vW w f)(d:vW w c):RR w (Mj c f) (n+1)+1<=RR w c n:=by
 have g:=(Sj f c b d).1;obtain⟨t,e⟩:=UO f c;have h:c.length<=(Mj c f).length:=by rw[e];simp
 unfold RR;omega
theorem work_in(e:WQ w):∀(n:Nat)(c:iT)(a:Nat),vW w c->vW w (JS w n c a):=by intro n;induction n with|zero=>exactλc a h=>h|succ n ih=>intro c a h;by_cases b:a<c.length;rw[Ll b];split;rename_i m d;exact ih _ _ (Sj _ _ (V4 e (LG.1 d).1).1 h).2;simp_all;rw[Po b];exact h
theorem rwork(g:WQ w):∀(n:Nat)(c:iT)(a:Nat),a<=c.length->RR w c a<n->vW w c->c.length+muS w.AA.length c<=5000->CX (CS.AU w n c (a:Int)) λr=>r=JS w n c a:=by have x:=BN;intro n;induction n with|zero=>omega|succ n ih=>intro c a s v e o;rw[CS.AU];unfold CS.L1;by_cases b:a<c.length;rw[Ay ah,Be b,AAK,oE g,AAK,Ll b];refine nZ (f:=λu=>CS.J1 (CS.AU w n) a c (IZ w c[a]) w u) (λl=>?_) λm k=>?_;rw[l];unfold CS.J1 CS.J3;rw[AAQ rfl,AW ah];exact ih c (a+1) ah (by have:=wE b e;omega) e o;rw[k];obtain⟨d,g2⟩:=LG.1 k;obtain⟨i,q⟩:=V4 g d;have j:=lQ g d;have h:=Sj _ _ i e;unfold CS.J1;rw[AAP ak,g2,show gt [(m:Int)] 0=some (m:Int)from rfl,AAK,Be d,AAK,Zk g j.1 j.2.2,AAK];have p:Dc w w.AA[m].cT w.AA[m].DL=Lr w m:=(by unfold Lr;rw[CH d]);rw[p];have:=Wd (CS.AU w n) a (Lr w m) ah BQ 0 c ah ah ah;rw[show((0:Nat):Int)=0 from rfl,AAr]at this;rw[this];unfold CS.J3;rw[AW ah];obtain⟨t,y⟩:=UO (Lr w m) c;exact ih (Mj c (Lr w m)) (a+1) aA (by have:=RR_add b i e;omega) h.2 ah;rw[AR ah,Po b];exact tR rfl
theorem mwork(v:WQ w)(H:n<w.AA.length):∀(b:Nat)(c:iT)(a:Nat)(r:AE)(A:jc),a<=c.length->RR w c a<b->vW w c->c.length+muS w.AA.length c<=5000->RW w r A->CX (BB.AU (n:Int) b r c (a:Int)) λd=>RW w d (λi k=>A i k\/k=n/\∃q∈(JS w b c a).drop a,Mb w q=some i):=by have P:=BN;intro b;induction b with|zero=>omega|succ b ih=>intro c a r A N O p F j;rw[BB.AU];unfold BB.L1;by_cases e:a<c.length;rw[Ay ah,Be e,AAK,j.s,mcand_eq v,AAK];(have next:∀(c':iT)(y:jc)(d:AE),(∃t,c'=c++t)->JS w (b+1) c a=JS w b c' (a+1)->(∀i k,y i k↔A i k\/k=n/\Mb w c[a]=some i)->RW w d (λi k=>y i k\/k=n/\∃q∈(JS w b c' (a+1)).drop (a+1),Mb w q=some i)->RW w d (λi k=>A i k\/k=n/\∃q∈(JS w (b+1) c a).drop a,Mb w q=some i):=by rintro c' y d ⟨t,rfl⟩ I G h;refine h.congr λi k _ _=>?_;obtain⟨u,L⟩:=work_pre (w:=w) b (c++t) (a+1);have hd:(JS w (b+1) c a).drop a=c[a]::(JS w b (c++t) (a+1)).drop (a+1):=(by rw[I,L,DQ (by simp;omega)];congr 1;rw[List.getElem_append_left (by simp;omega),List.getElem_append_left e]);rw[hd,G];constructor;grind;grind);refine nZ (f:=λu=>BB.J1 (BB.AU (n:Int) b) n a c r (IZ w c[a]) u) (λE=>?_) λm D=>?_;(unfold BB.J1 BB.J3;rw[AAQ rfl,AW ah];refine tM (ih c (a+1) r A ah (by have:=wE e p;omega) p F j) λd h=>next c A d ⟨[],ak⟩ (by rw[Ll e,E]) (λi k=>aA) h);obtain⟨o,g2⟩:=LG.1 D;obtain⟨B,M⟩:=V4 v o;have C:=lQ v o;have z:=Sj _ _ B p;unfold BB.J1;rw[AAP ak,g2,show gt [(m:Int)] 0=some (m:Int)from rfl,AAK];refine j.set o H λrow _ x=>?_;rw[j.s,Be o,AAK,AAi,AAi];rw[j.s]at x;rw[fN v x.s x.l C.1 C.2.2,AAK];have J:Dc w w.AA[m].cT w.AA[m].DL=Lr w m:=(by unfold Lr;rw[CH o]);rw[J];(have:=WX (BB.AU (n:Int) b) a (Lr w m,⟨w,r.ef,r.ep,r.d7.set m (row.set n true)⟩) aA BQ 0 c ah aA ah;rw[show((0:Nat):Int)=0 from rfl,AAr]at this;rw[this];unfold BB.J3;rw[AW ah];obtain⟨t,K⟩:=UO (Lr w m) c;refine tM (ih (Mj c (Lr w m)) (a+1) _ _ aA (by have:=RR_add e B p;omega) z.2 ah x) λd h=>next _ _ d ⟨t,K⟩ (by rw[Ll e,D]) (λi k=>?_) h);grind;rw[AR ah];refine tR (j.congr λi k _ _=>⟨.inl,?_⟩);rintro(g|⟨_,q,g,_⟩);exact g;rw[Po e,List.drop_eq_nil_of_le ah]at g;cases g
def Kv(w:AF)(j:Nat):List Int:=JS w BQ (Dc w (ix w.AA j).cT (ix w.AA j).D4) 0
theorem TD(a:WQ w)(b:j<w.AA.length):vW w (Dc w w.AA[j].cT w.AA[j].D4)/\(Dc w w.AA[j].cT w.AA[j].D4).length+muS w.AA.length (Dc w w.AA[j].cT w.AA[j].D4)<=5000:=by refine⟨λq c=>?_,?_⟩;obtain⟨k,l,h,_⟩:=WM q c;grind;(have d:=ZO w w.AA[j].cT w.AA[j].D4;have g:=(lQ a b).2.1.1;have i:muS w.AA.length (Dc w w.AA[j].cT w.AA[j].D4)<=w.AA.length:=by unfold muS;exact ABF (List.length_filter_le _ _) ak);have:=a.f.e;omega
theorem rNeeded_eq(b:WQ w)(a:j<w.AA.length):CS w (j:Int)=some (Kv w j):=by have i:=BN;obtain⟨c,d,h⟩:=lQ b a;obtain⟨e,f⟩:=TD b a;unfold CS Kv;rw[Be a,AAK,Zk b c d,AAK,CH a];obtain⟨r,g,rfl⟩:=rwork b BQ _ 0 ah (by unfold RR;omega) e f;exact g
theorem needs_tot(b:WQ w)(a:j<w.AA.length){A:jc}(c:RW w r A):CX (BB r (j:Int) w.AA[j]) λd=>RW w d (λi k=>A i k\/k=j/\∃q∈Kv w j,Mb w q=some i):=by have o:=BN;obtain⟨e,f,n⟩:=lQ b a;obtain⟨g,m⟩:=TD b a;unfold BB;rw[fN b c.s c.l e f,AAK];refine tM (mwork b a BQ (Dc w w.AA[j].cT w.AA[j].D4) 0 r A ah (by unfold RR;omega) g m c) λd h=>?_;unfold Kv;rw[CH a];grind
abbrev ev(w:AF)(i:Nat):AH:=ix w.AA (i:Int)
def RY(x e:AH):Bool:=e.da==1&&(x.da==20&&x.di==e.cT)||(e.da==21&&(x.da==2&&x.cT==e.di)||e.da==23&&(x.da==22&&x.di==e.di))
theorem src_j3(L1:jp)(d:AH)(b:Int)(c:AE)(a:Int)(e:AH)(o:Bool):Al.J3 L1 d b c a e o=Al.J4 L1 b c a (o||(d.da==23&&(e.da==22&&e.di==d.di))):=by unfold Al.J3;grind
theorem src_j2(L1:jp)(d:AH)(b:Int)(c:AE)(a:Int)(e:AH)(o:Bool):Al.J2 L1 d b c a e o=Al.J4 L1 b c a (o||(d.da==21&&(e.da==2&&e.cT==d.di)||(d.da==23&&(e.da==22&&e.di==d.di)))):=by unfold Al.J2;simp only[src_j3];grind
theorem src_j1(L1:jp)(d:AH)(b:Int)(c:AE)(a:Int)(e:AH)(o:Bool):Al.J1 L1 d b c a e o=Al.J4 L1 b c a (o||RY e d):=by unfold Al.J1 RY;simp only[src_j2];grind
def pS(w:AF)(j i:Nat):Prop:=((ev w i).cT=(ev w j).cT/\i<j)\/RY (ev w i) (ev w j)=true
theorem pQ(hn:w.AA.length<=16)(e:j<w.AA.length){A:jc}(f:RW w r A):CX (Al r (j:Int) w.AA[j]) λc=>RW w c (λi k=>A i k\/k=j/\pS w j i):=by
 have t:=BN;have key:∀(n a:Nat)(x:AE),a<=w.AA.length->w.AA.length<n+a->RW w x (λi k=>A i k\/k=j/\i<a/\pS w j i)->CX (Al.AU w.AA[j] (j:Int) r n x (a:Int)) λc=>RW w c (λi k=>A i k\/k=j/\pS w j i):=by intro n;induction n with|zero=>omega|succ n ih=>intro a x o p d;rw[Al.AU];unfold Al.L1;rw[f.s];by_cases b:a<w.AA.length;(rw[Ay ah,Be b,AAK];have l:∀q,(if(w.AA[a].cT==w.AA[j].cT)=true then Al.J1 (Al.AU w.AA[j] (j:Int) r n) w.AA[j] (j:Int) x (a:Int) w.AA[a] q else Al.J1 (Al.AU w.AA[j] (j:Int) r n) w.AA[j] (j:Int) x (a:Int) w.AA[a] false)=Al.J4 (Al.AU w.AA[j] (j:Int) r n) (j:Int) x (a:Int) (w.AA[a].cT==w.AA[j].cT&&q||RY w.AA[a] w.AA[j]):=by intro q;simp only[src_j1];cases w.AA[a].cT==w.AA[j].cT<;>simp);rw[l];have u:(w.AA[a].cT==w.AA[j].cT&&decide ((a:Int)<(j:Int))||RY w.AA[a] w.AA[j])=true↔pS w j a:=(by unfold pS ev;rw[CH b,CH e];simp);unfold Al.J4 Al.J5;refine tI (λh=>?_) λh=>?_;refine d.set b e λrow _ m=>?_;rw[AAi,AAi,AW ah];refine ih (a+1) _ ah ah (m.congr λi k _ _=>?_);grind;rw[AW ah];grind;rw[AR ah];exact tR (d.congr λi k hi _=>⟨λg=>g.imp id λg=>⟨g.1,g.2.2⟩,λg=>g.imp id λg=>⟨g.1,ah,g.2⟩⟩)
 unfold Al;exact key BQ 0 r ah ah (f.congr λi k _ _=>⟨.inl,λg=>g.elim id λg=>ah⟩)
theorem ZM(t:Int):∀(l:jo)(i k:Nat)(a:k<l.length),l[k].cT=t->((i+k:Nat):Int)∈EN t i l:=by intro l;induction l with|nil=>simp_all|cons y l ih=>intro i k a h;unfold EN;cases k with|zero=>simp_all|succ k=>have:=ih (i+1) k aA aA;grind
def nfB(e x:AH):Bool:=(x.da==18||x.da==19)&&(x.di==e.di&&x.cT != e.cT)
def gH(e:AH):Nat->List AH->List Int|_,[]=>[]|i,x::l=>if nfB e x=true then(i:Int)::gH e (i+1) l else gH e (i+1) l
theorem nfL_in(e:AH):∀(l:jo)(i:Nat)(x:Int),x∈gH e i l->∃k,k<l.length/\x=((i+k:Nat):Int):=by
 intro l;induction l with
 |nil=>intro i x h;simp[gH]at h
 |cons y l ih=>
  intro i x h;have a:x∈gH e (i+1) l->∃k,k<(y::l).length/\x=((i+k:Nat):Int):=λh=>by obtain⟨k,b,c⟩:=ih _ _ h;exact⟨k+1,an,ah⟩
  unfold gH at h;split at h;(rcases AAk.1 h with rfl|h);exact⟨0,ak,ak⟩;simp_all;simp_all
def P8(w:AF)(j:Nat):Prop:=(ix w.de.dc.AB (ev w j).cT).dh=3\/∃k,k<j/\(ev w k).cT=(ev w j).cT/\(ev w k).da=16
def NF(w:AF)(j i:Nat):Prop:=(ev w j).da=17/\P8 w j/\gH (ev w j) 0 w.AA=[(i:Int)]
theorem Ze(hn:w.AA.length<=16)(f:r.w=w)(b:AH)(c:Int):∀(n d:Nat)(e:iT),d<=w.AA.length->w.AA.length<n+d->e.length<=1000+d->Ad.B9 b c r n e (d:Int)=Ad.J7 c r (e++gH b d (w.AA.drop d))|0,d,e,h1,h2,_=>ah|n+1,d,e,h1,h2,h3=>by rw[Ad.B9];unfold Ad.L2;rw[f];by_cases hi:d<w.AA.length;((rw[Ay ah,Be hi,AAK,DQ hi,gH];have a:(if(w.AA[d].da==18)=true then Ad.J4 (Ad.B9 b c r n) b e d w.AA[d] true else Ad.J4 (Ad.B9 b c r n) b e d w.AA[d] (w.AA[d].da==19))=Ad.J5 (Ad.B9 b c r n) e d (nfB b w.AA[d]):=by unfold Ad.J4 nfB;cases w.AA[d].da==18<;>cases w.AA[d].da==19<;>cases w.AA[d].di==b.di<;>simp);rw[a];unfold Ad.J5 Ad.J6;cases hb:nfB b w.AA[d]with|true=>rw[AAQ rfl,AAQ rfl,Bg ah,AW ah,Ze hn f b c n (d+1) _ ah ah an];simp|false=>rw[AAP ak,AAP ak,AW ah,Ze hn f b c n (d+1) e ah ah ah]);rw[AR ah,EW ah,gH,ABU]
theorem jF(D:WQ w)(C:j<w.AA.length){A:jc}(d:RW w r A):CX (Ad r (j:Int) w.AA[j]) λm=>RW w m (λi k=>A i k\/k=j/\NF w j i):=by
 have T:=BN;have hn:=D.f.e;have z:=(lQ D C).1;have F:ev w j=w.AA[j]:=CH C;have b:¬((ev w j).da=17/\P8 w j/\∃i:Nat,gH (ev w j) 0 w.AA=[(i:Int)])->RW w r (λi k=>A i k\/k=j/\NF w j i):=λh=>d.congr λi k _ _=>⟨.inl,λg=>g.elim id λg=>absurd ⟨g.2.1,g.2.2.1,i,g.2.2.2⟩ h⟩;unfold Ad;by_cases H:w.AA[j].da=17;rotate_left;rw[AAQ am];exact tR (b λh=>H (F▸h.1));rw[AAP (by simp[H]),d.s,Bv (by rw[D.f.l.t];exact z),AAK,d.l,OX z,AAK];have K:CX (Ad.J7 (j:Int) r (gH w.AA[j] 0 w.AA)) λm=>P8 w j->RW w m (λi k=>A i k\/k=j/\NF w j i):=by unfold Ad.J7;refine tI (λh=>?_) λh=>tR λE=>b ?_;(have U:(gH w.AA[j] 0 w.AA).length=1:=(by simp at h;omega);cases hc:gH w.AA[j] 0 w.AA with|nil=>simp_all|cons x l=>cases l with|cons y l=>simp_all|nil=>rw[show gt [x] 0=some x from rfl,AAK];obtain⟨k,a,o⟩:=nfL_in w.AA[j] w.AA 0 x aA;rw[AA6]at o;subst o;refine d.set a C λrow _ O=>?_;rw[AAi,AAi];refine tR λE=>O.congr λi V _ _=>⟨λg=>g.imp id λg=>⟨g.2,am,E,am⟩,λg=>g.imp id λg=>⟨?_,g.1⟩⟩;have:=g.2.2.2;grind);grind
 have key:∀(n f:Nat)(i:Bool),f<=(EN w.AA[j].cT 0 w.AA).length->(EN w.AA[j].cT 0 w.AA).length<n+f->(i=true↔(ix w.de.dc.AB w.AA[j].cT).dh=3\/∃x∈(EN w.AA[j].cT 0 w.AA).take f,x<(j:Int)/\(ix w.AA x).da=16)->CX (Ad.AU w.AA[j] (j:Int) r (EN w.AA[j].cT 0 w.AA) n i (f:Int)) λm=>RW w m (λi k=>A i k\/k=j/\NF w j i):=by have I:=Qp w.AA[j].cT w.AA 0;intro n;induction n with|zero=>omega|succ n ih=>intro f i R S G;rw[Ad.AU];unfold Ad.L1;by_cases B:f<(EN w.AA[j].cT 0 w.AA).length;(rw[Ay ah,d.l,OX z,AAK,Be B,AAK];obtain⟨k,a,o,L⟩:=Ro _ _ _ _ (AAW B);rw[AA6]at o;have M:(EN w.AA[j].cT 0 w.AA).take (f+1)=(EN w.AA[j].cT 0 w.AA).take f++[(k:Int)]:=(by rw[AAz B,o]);rw[o,d.s,Be a];unfold Ad.J1 Ad.J2;rw[AAK,AW ah];have step:∀v:Bool,(v=true↔(k:Int)<(j:Int)/\w.AA[k].da=16)->CX (if v=true then Ad.AU w.AA[j] (j:Int) r (EN w.AA[j].cT 0 w.AA) n true ((f+1:Nat):Int)else Ad.AU w.AA[j] (j:Int) r (EN w.AA[j].cT 0 w.AA) n i ((f+1:Nat):Int)) λm=>RW w m (λi k=>A i k\/k=j/\NF w j i):=by intro v N;refine tI (λh=>ih (f+1) true ah ah ?_) λh=>ih (f+1) i ah ah ?_;obtain⟨c,g2⟩:=N.1 h;exact⟨λ_=>.inr ⟨k,aA,c,by rw[CH a];exact g2⟩,λ_=>rfl⟩;rw[G,M];constructor;grind;(refineλg=>g.imp id λ⟨x,c,g2⟩=>?_;rcases AAc.1 c with c|c);grind;simp at c;subst c;rw[CH a]at g2;simp_all);by_cases p:(k:Int)<(j:Int);rw[Ay p];exact step _ an;rw[AR p];simp_all;(rw[AR ah];have E:i=true↔P8 w j:=by rw[G,AAw ah];unfold P8;rw[F];refine or_congr ABQ ⟨λ⟨x,c,g2,u⟩=>?_,λ⟨k,c,g2,u⟩=>?_⟩;obtain⟨k,P,J,Q⟩:=Ro _ _ _ _ c;rw[AA6]at J;subst J;exact⟨k,ah,by unfold ev;rw[CH P];exact Q,u⟩;have q:k<w.AA.length:=ah;unfold ev at g2 u;rw[CH q]at g2;have:=ZM w.AA[j].cT w.AA 0 k q g2;grind);unfold Ad.J3;refine tI (λh=>tR (b λg=>?_)) λh=>?_;simp_all;have:=Ze hn d.s w.AA[j] (j:Int) BQ 0 [] ah ah ak;simp_all
 exact key BQ 0 _ ah (by have:=Qp w.AA[j].cT w.AA 0;omega) ak
instance:Inhabited AY:=⟨⟨0,0,0,false⟩⟩
def Pq(wv:AG)(e:AH):Int:=if e.da=7\/e.da=9\/e.da=11 then e.di else if e.da=16 then(ix wv.Aj e.di).dn else if e.da=13 then(wv.AK.length:Int)else -1
def UN(wv:AG)(e:AH):Int:=if e.da=6\/e.da=8\/e.da=10 then e.di else if e.da=17 then(ix wv.Aj e.di).dn else if e.da=12 then(wv.AK.length:Int)else -1
structure gO (wv:AG) (e:AH):Prop where
 l:e.da=6\/e.da=7\/e.da=8\/e.da=9\/e.da=10\/e.da=11->B4 e.di wv.AK.length=true
 c:e.da=16\/e.da=17->B4 e.di wv.Aj.length=true/\B4 (ix wv.Aj e.di).dn wv.AK.length=true
theorem qE(j:WQ w)(hi:i<w.AA.length):gO w.db w.AA[i]:=by
 have key:∀{l:jo}{s:AD},UE w.db s l->∀e∈l,A8 w.db e.da e.di:=by intro l;induction l with|nil=>simp_all|cons a r ih=>(intro s d e c;rcases AAk.1 c with rfl|c);exact(Ex d.1).2.2.1;exact ih d.2 e c
 have b:=key (JZ j.g.v).p _ (AAW hi);generalize w.AA[i]=e at b;refine⟨λh=>?_,λh=>?_⟩;(unfold A8 at b;rcases h with h|h|h|h|h|h<;>rw[h]at b<;>simp at b<;>exact b.1);have:B4 e.di w.db.Aj.length:=(by unfold A8 at b;rcases h with h|h<;>rw[h]at b<;>simpa using b);exact⟨this,j.f.l.m _ this⟩
theorem oM(h:gO wv e):GF wv e=some (Pq wv e):=by unfold GF GF.J1 Pq;by_cases d:e.da=7;simp[d];by_cases f:e.da=9;simp[f];by_cases a:e.da=11;simp[a];by_cases b:e.da=16;rw[Bv (h.c (.inl b)).1];simp[b];grind
theorem lX(h:gO wv e):GD wv e=some (UN wv e):=by unfold GD GD.J1 UN;by_cases d:e.da=6;simp[d];by_cases f:e.da=8;simp[f];by_cases a:e.da=10;simp[a];by_cases b:e.da=17;rw[Bv (h.c (.inr b)).1];simp[b];grind
def Ou(w:AF)(k u:Int)(sh:Bool):Prop:=B4 u w.db.AB.length=true/\if k=(w.db.AK.length:Int)then w.de.dc.Tx=u/\sh=false else sh=false/\(ix w.de.dc.AK k).Bw=u\/sh=true/\u∈(ix w.de.dc.AK k).Ae
def eE(w:AF)(u k:Int)(i:Nat):Prop:=i<w.AA.length/\(ev w i).cT=u/\Pq w.db (ev w i)=k/\∀i',i'<i->(ev w i').cT=u->Pq w.db (ev w i')≠k
def HP(w:AF)(u k:Int)(sh:Bool)(i j:Nat):Prop:=eE w u k i/\j<w.AA.length/\(ev w j).cT≠u/\UN w.db (ev w j)=k/\(sh=true->(ev w j).da≠8)
def HB(w:AF)(k:Int)(i j:Nat):Prop:=∃u sh,Ou w k u sh/\HP w u k sh i j
end
end Go.Abs
