/- What the typed programs give, in plain Lean. -/
import Derived.Test.YtdadohkcmclilaaGreatDoorWalkS
import Derived.Test.YtdadohkcmclilaaGreatDoorPlainC
import Derived.Test.YtdadohkcmclilaaGreatDoorRows
import Derived.Test.YtdadohkcmclilaaGreatDoorTie
import Derived.ProofKit
import Derived.LaidMore
import Derived.OpenShut
import Derived.Shelf.Slices.SearchI
set_option linter.unusedSimpArgs false
set_option linter.unusedVariables false
namespace Go.Abs
set_option maxHeartbeats 4000000
section
variable {T:ABi->Prop}
def M8:Nat->List AR->Nat
 |0,_=>0
 |d+1,l=>(l.map λs=>1+M8 d s.Body+M8 d s.Else).sum
theorem sum_le {l:List Nat} {k:Nat} (h:∀x∈l,x≤k):l.sum≤l.length*k:=by
 induction l with
 |nil=>simp
 |cons x r ih=>have b:=h x AA9;have c:=ih λy a=>h y (List.mem_cons_of_mem _ a);rw[List.sum_cons,AAx,ABM];omega
theorem aQ (d:Nat):∀l,SZ T d l->M8 d l≤10*G6 d:=by
 induction d with
 |zero=>exactλ_ _=>Nat.zero_le _
 |succ d ih=>intro l ⟨h1,h2⟩;have f:G6 (d+1)=1+20*G6 d:=rfl;refine ABF (sum_le (k:=G6 (d+1)) ?_) (by rw[AAn];exact AA1 _ h1);intro x b;obtain⟨s,a,rfl⟩:=ABR.1 b;have c:=ih _ (h2 s a).body;have e:=ih _ (h2 s a).els;omega
theorem Xl {l:List AR} {i:Nat} (h:i<l.length) (f:AR->Nat):((l.take (i+1)).map f).sum=((l.take i).map f).sum+f l[i]:=by rw[← AAX h,AAv,List.sum_append];simp
theorem MC (l:List AR) (i:Nat) (f:AR->Nat):((l.take i).map f).sum≤(l.map f).sum:=by
 conv=>rhs;rw[← ABY i l,AAv,List.sum_append]
 omega
theorem yS {d:Nat} (h:d≤4):G6 d≤8421:=by
 have:d=0∨d=1∨d=2∨d=3∨d=4:=by omega
 rcases this with rfl|rfl|rfl|rfl|rfl<;>decide
theorem wG (d:Nat):∀(n:Nat) (l:List AR),d≤4->d+1≤n->SZ T d l->Cc (GA n l) λr=>r=(M8 d l:Int):=by
 induction d with
 |zero=>intro n l _ hn ⟨_,h⟩;obtain⟨n,rfl⟩:∃k,n=k+1:=⟨n-1,by omega⟩;have:l=[]:=AA3.2 λx a=>(h x a).elim;subst this;show Cc (Cu (GA n) []) _;exact tR rfl
 |succ d ih=>
  intro n l hd hn ⟨h1,h2⟩;obtain⟨n,rfl⟩:∃k,n=k+1:=⟨n-1,by omega⟩;show Cc (Cu (GA n) l) _;unfold Cu;have y:=yS (d:=d) (by omega);have g:=aQ (T:=T) (d+1) l ⟨h1,h2⟩;have q:=yS hd
  let f:AR->Nat:=λs=>1+M8 d s.Body+M8 d s.Else
  refine OR l.length (λi (s:Int)=>s+i=((l.take i).map f).sum+l.length) (F:=λn s i=>Cu.AZ _ l n s i) (by omega) (by simp) λm i s hi j k=> ?_;unfold Cu.AZ Cu.L1 Cu.J1;have z:=MC l i f;have o:M8 (d+1) l=(l.map f).sum:=rfl;refine tD (λp=>YX (by omega) ?_) λ_=>tR ?_
  . have a:l[i]∈l:=AAW (by omega);have b:=(h2 _ a).body;have c:=(h2 _ a).els;have t:=aQ d _ b;have w:=aQ d _ c;have e:=MC l (i+1) f;have st:=Xl (by omega) f (i:=i) (l:=l);refine tB (ih n _ (by omega) (by omega) b) λv C=>tB (ih n _ (by omega) (by omega) c) λu B=>k _ (by omega) ?_;rw[CC (n:=s+v) (by omega) (by omega),CC (by omega) (by omega),st];show _=((((l.take i).map f).sum+(1+M8 d l[i].Body+M8 d l[i].Else):Nat):Int)+_;omega
  . rw[o];have:i=l.length:=(by omega);subst this;rw[List.take_length]at j;omega
theorem ZN {l:List Cj} {i:Nat} (h:i<l.length) (f:Cj->Nat):((l.take (i+1)).map f).sum=((l.take i).map f).sum+f l[i]:=by rw[← AAX h,AAv,List.sum_append];simp
theorem check60 {p:AU} (h:MP p):Cc (A4 p) λr=>r.1=0->(p.AA.map λt=>M8 4 t.Body).sum≤60:=by
 have hd:=h.dl;have o:=h.t;have E:G6 4=8421:=rfl;have N:∀{a b:Int} {P:Prop},(a != 0)=true->Cc (some (a,b)) λr:Int×Int=>r.1=0->P:=λh=>tR λj=>by simp only at j;rw[j]at h;cases h
 unfold A4;refine Hy (Vv h) λ_=>tI (λ_=>N rfl) λ_=>Hy (Yp h) λ_=>tI (λh=>N h) λ_=>tI (λ_=>N rfl) λ_=>Hy (Uf h) λ_=>tI (λh=>N h) λ_=> ?_
 let f:Cj->Nat:=λt=>M8 4 t.Body
 have c:∀t∈p.AA,f t≤84210:=λt o=>by have:=aQ 4 _ (h.b t o);show M8 4 t.Body≤_;omega
 refine OR p.AA.length (λi (s:Int)=>s=((p.AA.take i).map f).sum/\s≤i*84210) (F:=λn s i=>A4.AZ p n s i) (by omega) (by simp) λm i s hi g k=> ?_;unfold A4.AZ A4.L1 A4.J1;refine tD (λ_=>YX (by omega) (tB (wG 4 _ _ (by omega) (Lg (by omega)) (h.b _ (AAW (by omega)))) λv q=>k _ (by omega) ?_)) λC=>tD (λ_=>N rfl) λy=> ?_
 . have st:=ZN (l:=p.AA) (i:=i) (by omega) f;have D:=c _ (AAW (show i<p.AA.length by omega));have e:f p.AA[i]=M8 4 p.AA[i].Body:=rfl;rw[CC (by omega) (by omega),st];omega
 have d:i=p.AA.length:=by omega
 rw[d,List.take_length]at g;have u:(p.AA.map f).sum≤60:=by omega
 refine OR p.AA.length (λi w=>WK p 0 (i*84210) w) (F:=λn s i=>A4.DI p n s i) (by omega) ⟨rfl,rfl,by simp,by simp⟩ λm i s hi c k=> ?_;unfold A4.DI A4.L2 A4.J2;refine tD (λB=>tG (by omega) λx z=> ?_) λ_=>tR λ_=>u;refine tB (mX h 4 _ 0 (i*84210) _ _ (Lg (by omega)) (by omega) (by omega) ⟨c.p,c.a,c.s,c.t⟩ (h.b x z)) λv q=>tI (λh=>N h) λ_=>k _ (by omega) (q.mono (by omega))
def SN (t nv:Int) (l:List DS):Prop:=∀(j:Nat) x,l[j]? =some x->x.Thread=t/\x.Stmt=nv+j
theorem SN.app {t d:Int} {a b:List DS} (h:SN t d a) (g:SN t (d+a.length) b):SN t d (a++b):=by
 intro j x c;by_cases e:j<a.length
 . rw[AAf e]at c;exact h j x c
 . rw[AAl (by omega)]at c
   have:=g _ x c;exact⟨this.1,by rw[this.2];omega⟩
theorem SN.one {t b l:Int}:SN t b [⟨t,b,l⟩]:=by
 intro j x a;cases j with
 |zero=>simp at a;subst a;exact⟨rfl,by simp⟩
 |succ j=>simp at a
theorem sites_ok (d:Nat):∀(n:Nat) (o:List DS) (t a:Int) (l:List AR),d+1≤n->o.length+M8 d l≤900000->(0≤a/\a+M8 d l≤900000)->SZ T d l->Cc (GC n o t a l) λr=>∃S,r.1=o++S/\S.length=M8 d l/\SN t a S/\r.2=a+M8 d l:=by
 induction d with
 |zero=>intro n o t a l hn _ _ ⟨_,h⟩;obtain⟨n,rfl⟩:∃k,n=k+1:=⟨n-1,by omega⟩;have:l=[]:=AA3.2 λx b=>(h x b).elim;subst this;show Cc (Cv (GC n) o t a []) _;exact tR ⟨[],by simp,rfl,λj x b=>by simp at b,by simp[M8]⟩
 |succ d ih=>
  intro n o t a l hn P Q ⟨h1,h2⟩;obtain⟨n,rfl⟩:∃k,n=k+1:=⟨n-1,by omega⟩;show Cc (Cv (GC n) o t a l) _;unfold Cv
  let f:AR->Nat:=λs=>1+M8 d s.Body+M8 d s.Else
  have R:M8 (d+1) l=(l.map f).sum:=rfl;refine OR l.length (λi (s:List DS×Int)=>∃S,s.1=o++S/\S.length=((l.take i).map f).sum/\SN t a S/\s.2=a+((l.take i).map f).sum) (F:=λm s i=>Cv.AZ _ l t m s.1 s.2 i) (s0:=(o,a)) (by omega) ⟨[],by simp,rfl,λj x b=>by simp at b,by simp⟩ λm i s hi G k=> ?_;obtain⟨S,g,c,y,p⟩:=G;unfold Cv.AZ Cv.L1 Cv.J1;refine tD (λN=>YX (by omega) ?_) λO=> ?_
  . have st:=Xl (l:=l) (i:=i) (by omega) f;have E:=MC l (i+1) f;have b:l[i]∈l:=AAW (by omega);have D:f l[i]=1+M8 d l[i].Body+M8 d l[i].Else:=rfl;have w:s.1.length=o.length+((l.take i).map f).sum:=(by rw[g,AAu,c]);refine tC (B9 (by omega)) ?_;rw[p,CC (n:=a+((l.take i).map f).sum+1) (by omega) (by omega)];refine tB (ih n _ t _ _ (by omega) (by simp;omega) (by omega) (h2 _ b).body) λv C=> ?_;obtain⟨S2,z,L,M,q⟩:=C;refine tB (ih n _ t _ _ (by omega) (by rw[z];simp;omega) (by rw[q];omega) (h2 _ b).els) λu H=> ?_;obtain⟨B,I,U,J,K⟩:=H;refine k (_,_) (by omega) ⟨S++([⟨t,a+((l.take i).map f).sum,l[i].E8⟩]++(S2++B)),?_,?_,?_,?_⟩
    . simp only[I,z,g,AA0]
    . simp only[AAu,AAx,ABA];omega
    . refine y.app ?_;rw[c];refine SN.one.app ?_;rw[show a+((l.take i).map f).sum+(([⟨t,a+((l.take i).map f).sum,l[i].E8⟩]:List DS).length:Int)=a+((l.take i).map f).sum+1 from by simp];refine M.app ?_;rw[L,← q];exact J
    . simp only;rw[K,q,st,D];omega
  . have e:i=l.length:=(by omega);subst e;rw[List.take_length]at c p;exact tR ⟨S,g,c,y,p⟩
end
section
variable {T:ABi->Prop} {g h r:A8} {lo hi lo' hi':Int}
def BS (T:ABi->Prop) (R:A8->List AR->ABh A8) (l:List AR) (n:Nat):Prop:=
 ∀g,GW T g->(0≤g.next/\g.next+n≤1000000)->Hi (R g l) λr=>GV g r g.next (g.next+n)/\r.next=g.next+n
theorem Kt {l k:List Ac} {i:Nat} (h:i<l.length):(l++k)[i]? =l[i]? :=AAf h
theorem Rv {l:List Ac} {x:Ac}:(l++[x])[l.length]? =some x:=by simp
theorem iW {R:A8->List AR->ABh A8} {s:AR} {n:Nat} (o:GW T g) (j:lo≤g.site/\g.site<hi) (hn:0≤g.next/\g.next+n≤1000000) (t:lo≤g.next) (q:g.next+n≤hi) (m:BS T R s.Body n) {a b c:Int}
 (x:11≤a/\a≤25) (y:11≤b/\b≤25) (i:∀p S,p=a∨p=b->AL g.w ⟨p,c,0,0,0,S⟩=some true):Hi (C7 R g s a b c) λr=>GV g r lo hi/\r.next=g.next+n:=by
 unfold C7;refine pB (oP (lo:=lo) (hi:=hi) ⟨by simp only;omega,i _ _ (.inl rfl),by rw[rg0 (by simp only;omega)];simp,j,by simp only;omega,by simp only;omega⟩ (by simp only;omega)) λv d=> ?_;have e:=m v (o.next d.1) (by rw[d.2.2];exact hn);rw[d.2.2]at e;refine pB e λu k=> ?_;have f:=d.1.trans (k.1.mono t q);have l:=f.site g.site u.next;refine pM (Hr (lo:=lo) (hi:=hi) ⟨by simp only;omega,?_,by rw[rg0 (by simp only;omega)];simp,j,by simp only;omega,by simp only;omega⟩ (by simp only;omega)) λ_ h=>⟨l.trans h.1,h.2.2.trans k.2⟩;simp only;rw[f.w];exact i _ _ (.inr rfl)
theorem Zg {R:A8->List AR->ABh A8} {s:AR} {n m:Nat} (J:GW T g) (S:lo≤g.site/\g.site<hi) (hn:0≤g.next/\g.next+n+m≤1000000) (hl:lo≤g.next) (hh:g.next+n+m≤hi) (Q:SX 2 s.Expr) (hR:BS T R s.Body n) (hE:BS T R s.Else m)
 (h3:s.Op=3->m=0) (h0:s.Else=[]->m=0):Hi (Cq R g s) λr=>GV g r lo hi/\r.next=g.next+n+m:=by
 have hL:(g.locals.length:Int)=2:=by rw[J.l];rfl
 unfold Cq;rw[hL];refine pB (TS Q J S (by omega)) λd hd=> ?_;have dL:(d.locals.length:Int)=2:=by rw[hd.1.l];exact hL
 rw[dL];refine pB (put_eq _) λq hq=> ?_;have JT:d.site=g.site:=hd.2.1;have z:d.next=g.next:=hd.2.2;subst hq;have L:=J.next hd.1;have o:=hR ⟨d.w,d.locals,d.out++[⟨10,2,0,0,0,d.site⟩],d.site,d.next⟩ ⟨L.w,L.l⟩ (by simp only;rw[z];omega);refine pB o λb v=> ?_;obtain⟨v,I⟩:=v;simp only at I;rw[z]at I;have v:=v.mono (lo':=lo) (hi':=hi) (by simp only;rw[z];exact hl) (by simp only;rw[z];omega);have q1:=hd.1.n;have b1:d.out.length+1≤b.out.length:=by have:=v.n;simpa using this
 have N:∀i,i<d.out.length+1->b.out[i]? =(d.out++[(⟨10,2,0,0,0,d.site⟩:Ac)])[i]? :=λi hi=>v.p i (by simpa using hi);have X:SG d.w lo hi b.out (d.out.length+1) b.out.length b.out.length:=by have:=v.s;simpa using this
 have G:b.w=g.w:=v.w.trans hd.1.w;have M:b.locals=g.locals:=v.l.trans hd.1.l;have dw:=hd.1.w;rw[dw]at X
 -- a list that goes on as these do, but for the branch
 have val:∀(F:List Ac),b.out.length≤F.length->(∀i,i<d.out.length->F[i]? =b.out[i]?)->SG g.w lo hi F g.out.length d.out.length F.length:=λF j u=>
  hd.1.s.frame (λi _ hi=>by rw[u i hi,N i (by omega),Kt hi]) (by omega) (by omega) (by omega) (by omega)
 have E:∀(F:List Ac),(∀i,i<d.out.length->F[i]? =b.out[i]?)->∀i,i<g.out.length->F[i]? =g.out[i]? :=λF u i hi=>by rw[u i (by omega),N i (by omega),Kt (by omega),hd.1.p i hi]
 have C:∀(F:List Ac) (c:Nat),b.out.length≤F.length->b.out.length≤c->(∀i,d.out.length<i->i<b.out.length->F[i]? =b.out[i]?)->SG g.w lo hi F (d.out.length+1) b.out.length c:=λF c j H u=>
  X.frame (λi o t=>(u i (by omega) t).symm) j (by omega) (by omega) H
 have O:∀(c:Nat) (B:Nat),B≤c->LV g.w lo hi c ⟨10,2,(B:Int),0,0,d.site⟩:=λc B hB=>⟨by simp,lO (by simp),by rw[rg10 rfl];exact Pl (x:=0) (by simp),by simp only;rw[JT];exact S,by simp,λ_=>by simp only;omega⟩;have ju:∀(c:Nat) (A:Nat),A≤c->LV g.w lo hi c ⟨5,(A:Int),0,0,0,g.site⟩:=λc A Z=>⟨by simp,lO (by simp),by rw[rg0 (.inl rfl)];simp,S,λ_=>by simp only;omega,by simp⟩;have bd:b.out[d.out.length]? =some ⟨10,2,0,0,0,d.site⟩:=by rw[N _ (by omega)];exact Rv
 refine pI (λh=> ?_) λMj=>pI (λh=> ?_) λhne2=> ?_
 . -- a loop
   have hm:=h3 (eq_of_beq h);refine pB (put_eq _) λe Q=> ?_;subst Q;refine pE (y:=⟨10,2,0,0,0,d.site⟩) (by rw[JJ];simp only;rw[Kt (by omega)];exact bd) (pR ⟨?_,by simp only;omega⟩);simp only;generalize a:(b.out++[(⟨5,(g.out.length:Int),0,0,0,g.site⟩:Ac)]).set d.out.length ⟨10,2,((b.out++[(⟨5,(g.out.length:Int),0,0,0,g.site⟩:Ac)]).length:Int),0,0,d.site⟩=F;have fl:F.length=b.out.length+1:=(by rw[← a];simp);have j:∀i,i≠d.out.length->i<b.out.length->F[i]? =b.out[i]? :=λi o t=>(by rw[← a,AAM (by omega),Kt t]);have u:F[d.out.length]? =some ⟨10,2,((b.out.length+1:Nat):Int),0,0,d.site⟩:=(by rw[← a,AAK (by simp;omega)];simp);have H:F[b.out.length]? =some ⟨5,(g.out.length:Int),0,0,0,g.site⟩:=(by rw[← a,AAM (by omega)];exact Rv);refine⟨G,M,by simp only;omega,E F λi hi=>j i (by omega) (by omega),?_⟩;simp only
   have:=SG.back (val F (by omega) λi hi=>j i (by omega) (by omega)) u (O _ _ (by omega)) rfl (C F F.length (by omega) (by omega) λi o t=>j i (by omega) t) H (ju _ _ (by omega)) rfl rfl;rw[fl]at this ⊢;exact this
 . -- without another part
   have hm:m=0:=h0 (by have:=eq_of_beq h;exact List.length_eq_zero_iff.1 (by omega));refine pE (y:=⟨10,2,0,0,0,d.site⟩) (by rw[JJ];exact bd) (pR ⟨?_,by simp only;omega⟩);simp only;generalize a:b.out.set d.out.length ⟨10,2,(b.out.length:Int),0,0,d.site⟩=F;have fl:F.length=b.out.length:=(by rw[← a];simp);have j:∀i,i≠d.out.length->F[i]? =b.out[i]? :=λi o=>(by rw[← a,AAM (by omega)]);have u:F[d.out.length]? =some ⟨10,2,(b.out.length:Int),0,0,d.site⟩:=(by rw[← a,AAK (by omega)]);refine⟨G,M,by simp only;omega,E F λi hi=>j i (by omega),?_⟩;simp only
   have:=((val F (by omega) λi hi=>j i (by omega)).app (SG.one u (O _ _ (by omega)) (by simp))).app (C F F.length (by omega) (by omega) λi o t=>j i (by omega));rw[fl]at this ⊢;exact this
 . -- with another part
   refine pB (put_eq _) λf hf=> ?_;subst hf;refine pE (y:=⟨10,2,0,0,0,d.site⟩) (by rw[JJ];simp only;rw[Kt (by omega)];exact bd) ?_;simp only;generalize a:(b.out++[(⟨5,0,0,0,0,g.site⟩:Ac)]).set d.out.length ⟨10,2,((b.out++[(⟨5,0,0,0,0,g.site⟩:Ac)]).length:Int),0,0,d.site⟩=F;have fl:F.length=b.out.length+1:=(by rw[← a];simp);have j:∀i,i≠d.out.length->i<b.out.length->F[i]? =b.out[i]? :=λi o t=>(by rw[← a,AAM (by omega),Kt t]);have u:F[d.out.length]? =some ⟨10,2,((b.out.length+1:Nat):Int),0,0,d.site⟩:=(by rw[← a,AAK (by simp;omega)];simp);have H:F[b.out.length]? =some ⟨5,0,0,0,0,g.site⟩:=(by rw[← a,AAM (by omega)];exact Rv);have h4:=hE ⟨b.w,b.locals,F,g.site,b.next⟩ ⟨by simp only;rw[G];exact J.w,M.trans J.l⟩ (by simp only;omega);refine pB h4 λi hi=> ?_;obtain⟨D,UM⟩:=hi;simp only at UM;have D:=D.mono (lo':=lo) (hi':=hi) (by simp only;omega) (by simp only;omega);have i1:b.out.length+1≤i.out.length:=(by have:=D.n;simp only[fl]at this;exact this);have U:∀k,k<b.out.length+1->i.out[k]? =F[k]? :=λk hk=>D.p k (by simp only[fl];exact hk);have is:SG g.w lo hi i.out (b.out.length+1) i.out.length i.out.length:=(by have:=D.s;simp only[fl,G]at this;exact this);refine pE (y:=⟨5,0,0,0,0,g.site⟩) (by rw[JJ,U _ (by omega)];exact H) (pR ⟨?_,by simp only;omega⟩);simp only;generalize P:i.out.set b.out.length ⟨5,(i.out.length:Int),0,0,0,g.site⟩=K;have kl:K.length=i.out.length:=(by rw[← P];simp);have V:∀k,k≠b.out.length->K[k]? =i.out[k]? :=λk o=>(by rw[← P,AAM (by omega)]);have W:∀k,k≠d.out.length->k<b.out.length->K[k]? =b.out[k]? :=λk o t=>(by rw[V k (by omega),U k (by omega),j k o t]);have k3:K[d.out.length]? =some ⟨10,2,((b.out.length+1:Nat):Int),0,0,d.site⟩:=(by rw[V _ (by omega),U _ (by omega)];exact u);have k4:K[b.out.length]? =some ⟨5,(i.out.length:Int),0,0,0,g.site⟩:=(by rw[← P,AAK (by omega)]);refine⟨D.w.trans G,D.l.trans M,by simp only;omega,E K λi hi=>W i (by omega) (by omega),?_⟩;simp only;have Z:=((val K (by omega) λi hi=>W i (by omega) (by omega)).app (SG.one k3 (O _ _ (by omega)) (by simp))).app (C K K.length (by omega) (by omega) λi o t=>W i (by omega) t);have hB:SG g.w lo hi K (b.out.length+1) i.out.length K.length:=is.frame (λk o _=>(V k (by omega)).symm) (by omega) (by omega) (by omega) (by omega)
   have:=Z.jump k4 (ju _ _ (by omega)) rfl rfl hB;rw[kl]at this ⊢;exact this
theorem o6 (d:Nat):M8 d []=0:=by cases d<;>rfl
end
section
variable {T:ABi->Prop} {g h r:A8} {lo hi lo' hi':Int}
theorem Zk (h:g.w.Af=[⟨cN,0⟩]):CO g cN=some (0,g):=by unfold CO;have a:=Bn;obtain⟨n,hn⟩:∃n,Bg=n+1:=⟨Bg-1,by omega⟩;rw[hn];unfold CO.AZ CO.L1;rw[h];simp[gt]
theorem wE {l:List ABi} {s:ABi} (o:l.length<1000000):Hi (CN l s) λr=>s∈l->0≤r/\r<l.length:=by
 unfold CN;refine wA l.length (λi (_:Unit)=>∀j:Nat,j<i->l[j]? ≠some s) (s0:=()) (F:=λn _ i=>CN.AZ l s n i) (λ_ _=>rfl) (by omega) (λj c=>by omega) λn i _ hi b k=> ?_;unfold CN.AZ CN.L1 CN.J1;refine pD (λg=>pE (B8 (by omega)) (pI (λ_=>pR λ_=>by omega) λa=>k () (by omega) ?_)) λm=>pR λd=> ?_
 . intro j c e;by_cases h:j<i
   . exact b j h e
   . obtain rfl:j=i:=(by omega);rw[AAL (by omega)]at e;rw[AAJ e]at a;simp at a
 . obtain⟨j,j1,f⟩:=List.getElem_of_mem d;exact absurd (by rw[AAL j1,f]) (b j (by omega))
theorem stmt_par {R:A8->List AR->ABh A8} {s:AR} {k B E:Nat} (m:GW T g) (u:Ha T (k+1) s) (hn:0≤g.next/\g.next+(1+B+E)≤1000000) (hB:BS T R s.Body B) (hE:BS T R s.Else E) (b0:s.Body=[]->B=0) (e0:s.Else=[]->E=0):
 Hi (CY (Cq R) (C7 R) g s) λr=>GV g r g.next (g.next+(1+B+E))/\r.next=g.next+(1+B+E):=by
 have hw:Aq (g.next+1)=g.next+1:=CC (by omega) (by omega);have bd:=u.2.2.2.2.2.2.2.2.1;have nm:=u.2.2.2.2.2.2.2.2.2;have nB:s.Op∉[(2:Int),3,4,5,6,7,8]->B=0:=λh=>b0 (bd.1 h);have K:s.Op≠2->E=0:=λh=>e0 (bd.2 h);unfold CY;rw[hw];generalize o:A8.mk g.w g.locals g.out g.next (g.next+1)=g1;have I:GW T g1:=by rw[← o];exact⟨m.w,m.l⟩
 have gs:g1.site=g.next:=by rw[← o]
 have H:g1.next=g.next+1:=by rw[← o]
 have j:g1.w=g.w:=by rw[← o]
 have gl:(g1.locals.length:Int)=2:=by rw[I.l];rfl
 have up:∀{r lo hi},GV g1 r lo hi->GV g r lo hi:=λh=>by rw[← o]at h;exact⟨h.w,h.l,h.n,h.p,h.s⟩
 have si:g.next≤g1.site/\g1.site<g.next+(1+B+E):=by rw[gs];omega
 -- one instruction
 have P:∀i:Ac,s.Op∉[(2:Int),3,4,5,6,7,8]->LV g1.w g.next (g.next+(1+B+E)) (g1.out.length+1) ⟨i.Op,i.A,i.B,i.C,i.N,g1.site⟩->i.Op≠5->Hi ((A5 g1 i).bind λv=>some v) λr=>GV g r g.next (g.next+(1+B+E))/\r.next=g.next+(1+B+E):=by intro i F J h3;have z1:=nB F;have z2:=K (by intro h;rw[h]at F;simp at F);exact pM (Hr J h3) λr h=>⟨up h.1,by rw[h.2.2,H];omega⟩
 have A:∀{a b c:Int},s.Op≠2->11≤a/\a≤25->11≤b/\b≤25->(∀p S,p=a∨p=b->AL g1.w ⟨p,c,0,0,0,S⟩=some true)->Hi ((C7 R g1 s a b c).bind λv=>some v) λr=>GV g r g.next (g.next+(1+B+E))/\r.next=g.next+(1+B+E):=by intro a b c J ha O U;have z2:=K J;exact pB (iW (lo:=g.next) (hi:=g.next+(1+B+E)) I si (by omega) (by omega) (by omega) hB ha O U) λr h=>pR ⟨up h.1,by rw[h.2,H];omega⟩
 have lk:g.w.AG=Wx:=m.w.l;have j1:∀b,(b=true->s.Op=2∨s.Op=3)->(b=false->s.Op≠1/\s.Op≠2/\s.Op≠3)->Hi (CY.J1 (Cq R) (C7 R) g s b) λr=>GV g r g.next (g.next+(1+B+E))/\r.next=g.next+(1+B+E):=by
  intro b O rQ;unfold CY.J1;rw[hw,o];refine pI (λh=> ?_) λh0=> ?_
  . have U:=O h;have Q:SX 2 s.Expr:=u.2.2.1.resolve_right λh=>h.1 (by rcases U with h|h<;>simp[h]);exact pB (Zg (lo:=g.next) (hi:=g.next+(1+B+E)) I si (by omega) (by omega) (by omega) Q hB hE (λh=>K (by omega)) e0) λr h=>pR ⟨up h.1,by rw[h.2,H];omega⟩
  have n0:=rQ h0;refine pI (λh=> ?_) λn4=>pI (λh=> ?_) λn5=>pI (λh=> ?_) λn6=>pI (λh=> ?_) λn7=>pI (λh=> ?_) λn8=> ?_
  . have h:=eq_of_beq h;rw[lk];rcases nm.2.1 h with F|F<;>rw[F]
    . exact pE (y:=0) (by decide +kernel) (A (by omega) (by omega) (by omega) λp S G=>objM (by simp only;omega) (y:=⟨⟨#[109]⟩,false⟩) (by rw[j,lk];rfl) rfl)
    . exact pE (y:=1) (by decide +kernel) (A (by omega) (by omega) (by omega) λp S G=>objM (by simp only;omega) (y:=⟨⟨#[110]⟩,false⟩) (by rw[j,lk];rfl) rfl)
  . have h:=eq_of_beq h;rw[lk,nm.2.2.1 (.inl h)];exact pE (y:=2) (by decide +kernel) (A (by omega) (by omega) (by omega) λp S G=>objR (by simp only;omega) (y:=⟨⟨#[114]⟩,true⟩) (by rw[j,lk];rfl) rfl)
  . have h:=eq_of_beq h;rw[lk,nm.2.2.1 (.inr h)];exact pE (y:=2) (by decide +kernel) (A (by omega) (by omega) (by omega) λp S G=>objR (by simp only;omega) (y:=⟨⟨#[114]⟩,true⟩) (by rw[j,lk];rfl) rfl)
  . have h:=eq_of_beq h;exact A (by omega) (by omega) (by omega) λp S G=>lO (by rcases G with h|h<;>simp[h])
  . have h:=eq_of_beq h;exact A (by omega) (by omega) (by omega) λp S G=>lO (by rcases G with h|h<;>simp[h])
  simp only[beq_eq_false_iff_ne,ne_eq]at n4 n5 n6 n7 n8;have D:s.Op∉[(2:Int),3,4,5,6,7,8]:=by simp;omega
  have L:∀{p c e:Int},11≤p/\p≤25->AL g1.w ⟨p,c,0,0,0,g1.site⟩=some true->LV g1.w g.next (g.next+(1+B+E)) (g1.out.length+1) ⟨p,c,0,0,0,g1.site⟩:=λF J=>
   ⟨by simp only;omega,J,by rw[rg0 (by simp only;omega)];simp,si,by simp only;omega,by simp only;omega⟩
  have M:g1.w.Af=[⟨cN,0⟩]:=by rw[j];exact m.w.d
  have Gu:(g1.w.Af.length:Int)=1:=by rw[M];rfl
  refine pI (λh=> ?_) λn9=>pI (λh=> ?_) λV=>pI (λh=> ?_) λW=>pI (λh=> ?_) λX=>pI (λh=> ?_) λZ=>pI (λh=> ?_) λn14=>pI (λh=> ?_) λn15=> ?_
  . rw[u.2.2.2.1 (by simp[eq_of_beq h])];exact pE (Zk M) (P ⟨21,0,0,0,0,0⟩ D (L (e:=0) (by simp) (objC (.inl rfl) (by simp only;omega))) (by simp))
  . rw[u.2.2.2.1 (by simp[eq_of_beq h])];exact pE (Zk M) (P ⟨22,0,0,0,0,0⟩ D (L (e:=0) (by simp) (objC (.inr (.inl rfl)) (by simp only;omega))) (by simp))
  . rw[u.2.2.2.1 (by simp[eq_of_beq h])];exact pE (Zk M) (P ⟨23,0,0,0,0,0⟩ D (L (e:=0) (by simp) (objC (.inr (.inr rfl)) (by simp only;omega))) (by simp))
  . refine pB (wE (by have:=m.w.n;omega)) λv z=> ?_
    have:=z (m.w.t _ (nm.2.2.2.1 (.inl (eq_of_beq h))));exact P ⟨24,v,0,0,0,0⟩ D (L (e:=0) (by simp) (objT (.inl rfl) (by simp only;rw[j];exact this))) (by simp)
  . refine pB (wE (by have:=m.w.n;omega)) λv z=> ?_
    have:=z (m.w.t _ (nm.2.2.2.1 (.inr (eq_of_beq h))));exact P ⟨25,v,0,0,0,0⟩ D (L (e:=0) (by simp) (objT (.inr rfl) (by simp only;rw[j];exact this))) (by simp)
  . have h:=eq_of_beq h;have Q:SX 2 s.Expr:=u.2.2.1.resolve_right λq=>q.1 (by simp[h]);have z1:=nB D;have z2:=K (by omega);rw[show(g.locals.length:Int)=2 from by rw[m.l];rfl];refine pB (TS (lo:=g.next) (hi:=g.next+(1+B+E)) Q I si (by omega)) λv z=> ?_;have hf:v.w.AH=[⟨#[102]⟩]:=(by rw[z.1.w,j];exact m.w.f);rw[hf,nm.2.2.2.2.1 h];refine pE (y:=0) (by decide +kernel) (pM (Hr ⟨by simp,obj26 rfl (by rw[hf];simp),by rw[rg26 rfl];exact Pl (x:=0) (by simp),by rw[z.2.1];exact si,by simp,by simp⟩ (by simp)) λr h=>⟨up (z.trans h).1,by rw[h.2.2,z.2.2,H];omega⟩)
  . have h:=eq_of_beq h;have hn:=nm.2.2.2.2.2 h;rw[m.l,m.w.f,hn.1,hn.2];refine pE (y:=0) (by decide +kernel) (pE (y:=0) (by decide +kernel) (P ⟨27,0,0,0,0,0⟩ D ⟨by simp,obj27 rfl (by rw[j,m.w.f];simp),by rw[rg27 rfl];exact Pl (x:=0) (by simp),si,by simp,by simp⟩ (by simp)))
  . have:=u.1;simp only[beq_eq_false_iff_ne,ne_eq]at n9 V W X Z n14 n15;omega
 refine pI (λh=> ?_) λn1=>pI (λh=>j1 _ (λ_=>.inl (eq_of_beq h)) λh'=>by rw[h']at h;cases h) λn2=>j1 _ (λh=>.inr (eq_of_beq h)) λh=>⟨by simpa using n1,by simpa using n2,by simpa using h⟩;have h:=eq_of_beq h;have z1:=nB (by rw[h];decide);have z2:=K (by omega);exact pB (jA (lo:=g.next) (hi:=g.next+(1+B+E)) I si u h) λr h=>pR ⟨up h.1,by rw[h.2.2,H];omega⟩
theorem uA (d:Nat):∀(n:Nat) (l:List AR),3*d+1≤n->SZ T d l->BS T (DF n) l (M8 d l):=by
 induction d with
 |zero=>intro n l hn ⟨_,h⟩ g hg j;obtain⟨n,rfl⟩:∃k,n=k+1:=⟨n-1,by omega⟩;have:l=[]:=AA3.2 λx j=>(h x j).elim;subst this;show Hi (some g) _;exact pR ⟨GV.refl,by simp[M8]⟩
 |succ d ih=>
  intro n l hn ⟨h1,h2⟩ g hg j;obtain⟨n,rfl⟩:∃k,n=k+3:=⟨n-3,by omega⟩;show Hi (B7 (CY (Cq (DF n)) (C7 (DF n))) g l) _;unfold B7
  let f:AR->Nat:=λs=>1+M8 d s.Body+M8 d s.Else
  have u:M8 (d+1) l=(l.map f).sum:=rfl;refine wA l.length (λi s=>GV g s g.next (g.next+((l.take i).map f).sum)/\s.next=g.next+((l.take i).map f).sum) (F:=λm s i=>B7.AZ _ l m s i) (λ_ _=>rfl) (by omega) ⟨GV.refl,by simp⟩ λm i s hi p k=> ?_;obtain⟨a,b⟩:=p;unfold B7.AZ B7.L1;refine pD (λq=>pE (B8 (by omega)) ?_) λr=> ?_
  . have st:=Xl (l:=l) (i:=i) (by omega) f;have o:=MC l (i+1) f;have c:l[i]∈l:=AAW (by omega);have t:f l[i]=1+M8 d l[i].Body+M8 d l[i].Else:=rfl;refine pB (stmt_par (hg.next a) (h2 _ c) (by rw[b];omega) (ih n _ (by omega) (h2 _ c).body) (ih n _ (by omega) (h2 _ c).els) (λh=>by rw[h];exact o6 d) λh=>by rw[h];exact o6 d) λv e=>k _ (by omega) ?_;rw[b]at e;refine⟨(a.mono (by omega) (by omega)).trans (e.1.mono (by omega) (by omega)),by rw[e.2];omega⟩
  . have:i=l.length:=(by omega);subst this;rw[List.take_length]at a b;exact pR ⟨a,b⟩
theorem Q0 {l:List Ac} {a b:Nat} (h:l.length≤8000000) (g:b≤l.length):∀(n fuel i k m:Nat),Pv l a b n k m->Ev l m->n+i≤l.length->l.length+1<fuel+i->Bj.AZ l fuel k i=some true:=by
 intro n;induction n with
 |zero=>intro fuel i k m r ⟨x,x1,x2⟩ h1 h2;cases r;obtain⟨fuel,rfl⟩:∃f,fuel=f+1:=⟨fuel-1,by omega⟩;have d:=(AAI.1 x1).1;unfold Bj.AZ Bj.L1 Bj.J1;rw[A2 (by omega),Ad (by omega),AAO (by simp;omega),JJ,x1,AAF,Lb,x2];rfl
 |succ n ih=>
  intro fuel i k m ⟨d,j,⟨x,x1,x2,x3⟩,r⟩ ev h1 h2;obtain⟨fuel,rfl⟩:∃f,fuel=f+1:=⟨fuel-1,by omega⟩;unfold Bj.AZ Bj.L1 Bj.J1 Bj.J2;have d:=(AAI.1 x1).1;rw[A2 (by omega),Ad (by omega),AAO (by simp;omega),JJ,x1,AAF,Lb,x2,AAF,Ai (by omega)]
  have:=ih fuel (i+1) j m r ev (by omega) (by omega);rcases x3 with⟨c,e⟩|⟨c,rfl⟩
  . rw[AAO (by simp),AAP (by simpa using c),e];exact this
  . rw[AAO (by simp),AAO (by simpa using c),Ai (by omega)];exact this
structure VO (w:AD) (t:Int) (c:Al):Prop where
 r:2≤c.B5/\c.B5≤32
 n:∃out lo hi,c.Aw=out++[⟨28,0,0,0,0, -1⟩]/\SG w lo hi out 0 out.length out.length/\(∀k,lo≤k->k<hi->∃y,gt w.BL k=some y/\y.Thread=t)
 g:∀x∈c.Aw,∀y∈rg x,y<c.B5
theorem objE {w:AD} {x:Ac} (h:x.Op=28):AL w x=some true:=by simp[AL,AL.J3,AL.J5,AL.J7,AL.J8,h]
theorem T6 {w:AD} {t:Int} {c:Al} (G:c.Aw.length≤8000000) (T:VO w t c):AN w t c=some true:=by
 obtain⟨⟨r1,r2⟩,⟨out,lo,hi,D,J,W⟩,S⟩:=T;have hl:c.Aw.length=out.length+1:=by rw[D];simp
 have N:=Bn
 -- an instruction
 have q:∀(i:Nat) x,c.Aw[i]? =some x->(i<out.length/\out[i]? =some x)∨i=out.length/\x=⟨28,0,0,0,0, -1⟩:=by
  intro i x d;rw[D]at d;by_cases h:i<out.length
  . rw[Kt h]at d;exact .inl ⟨h,d⟩
  . have:=(AAI.1 d).1;simp at this;obtain rfl:i=out.length:=(by omega);rw[Rv]at d;cases d;exact .inr ⟨rfl,rfl⟩
 have p:c.Aw[out.length]? =some ⟨28,0,0,0,0, -1⟩:=by rw[D];exact Rv
 have B:∀i:Nat,i<c.Aw.length->Bj c.Aw (i:Int)=some true:=by
  intro i hi;have L:∀{n k m},Pv out 0 out.length n k m->Pv c.Aw 0 out.length n k m:=λr=>r.frame (λj _ O=>by rw[D,Kt O]) (by omega) (by omega);have K:Ev c.Aw out.length:=⟨_,p,rfl⟩;unfold Bj;by_cases h:i<out.length
  . rcases J.f i (by omega) h with⟨n,m,r,V,⟨x,X,Z⟩,hn⟩|⟨n,r,hn⟩
    . exact Q0 G (by omega) n Bg 0 i m (L r) ⟨x,by rw[D,Kt V.2];exact X,Z⟩ (by omega) (by omega)
    . exact Q0 G (by omega) n Bg 0 i _ (L r) K (by omega) (by omega)
  . obtain rfl:i=out.length:=(by omega);exact Q0 (a:=0) (b:=0) G (by omega) 0 Bg 0 _ _ rfl K (by omega) (by omega)
 have key:Cc (AN w t c) λb=>b=true:=by
  unfold AN;refine tD (λh=>by omega) λ_=>tD (λh=>by omega) λ_=> ?_;rw[show((c.Aw.length:Int)==0)=false from beq_eq_false_iff_ne.2 (by omega)];unfold AN.J1;refine tI (λh=>by cases h) λ_=>OR c.Aw.length (λ_ (_:Unit)=>True) (s0:=()) (F:=λn _ i=>AN.AZ c t w n i) (by omega) trivial λn i _ hi _ k=> ?_;unfold AN.AZ AN.L1 AN.J6;refine tD (λDf=>YX (by omega) ?_) λ_=>tR rfl;have d:c.Aw[i]? =some c.Aw[i]:=AAL (by omega);have v:c.Aw[i]∈c.Aw:=AAW (by omega);generalize c.Aw[i]=x at d v;have P:Bj c.Aw (i:Int)=some true:=B i (by omega);have Q:Aq ((c.Aw.length:Int)-1)=out.length:=by rw[CC (by omega) (by omega)];omega
  -- the registers
  have z:Cc (AN.J4 (AN.AZ c t w n) c i x false) λb=>b=true:=by
   unfold AN.J4;refine tI (λh=>by cases h) λ_=>tE (EX x).1 (OR (rg x).length (λ_ (_:Unit)=>True) (s0:=()) (F:=λn _ i=>AN.DI _ c _ (rg x) n i) (by have:=(EX x).2;omega) trivial λm j _ O _ U=> ?_);unfold AN.DI AN.L2 AN.J5;refine tD (λ_=>YX (by omega) ?_) λ_=>k () (by omega) trivial;have I:(rg x)[j]∈rg x:=AAW (by omega);have R:0≤(rg x)[j]:=by
    rcases q i x d with⟨h,E⟩|⟨_,rfl⟩
    . exact((J.i i x (by omega) h E).g _ I).1
    . have:=List.length_pos_of_mem I;rw[rg0 (.inr (.inr rfl))]at this;cases this
   exact tE (IG ⟨R,S x v _ I⟩) (tI (λh=>by cases h) λ_=>U () (by omega) trivial)
  rcases q i x d with⟨u,E⟩|⟨H,rfl⟩
  . have l:=J.i i x (by omega) u E;have lo':=l.o;have C:x.Op≠28:=(by omega);refine tD (λh=>by omega) λ_=>tD (λh=>by omega) λ_=> ?_;rw[Q,show(x.Op==28)=false from by simpa using C,show((i:Int)==(out.length:Int))=false from by simp;omega];refine tI (λh=>by cases h) λ_=>tE l.ob (tI (λh=>by cases h) λ_=>tE P ?_);unfold AN.J2;obtain⟨y,y1,y2⟩:=W _ l.s.1 l.s.2;refine tI (λh=>by cases h) λ_=>tI (λh=>absurd (eq_of_beq h) C) λ_=>tI (λ_=> ?_) λh=>(by simp at h;omega);refine tE (IG (Yx y1)) (tI (λh=>by cases h) λ_=>tE y1 ?_);rw[y2,show(t != t)=false from by simp];unfold AN.J3;refine tI (λh=>by cases h) λ_=>tI (λM=> ?_) λ_=>tI (λe=> ?_) λ_=>z
    . have:=l.j (eq_of_beq M);refine tE (IG (by omega)) (tI (λh=>by cases h) λ_=>tI (λe=> ?_) λ_=>z);rw[eq_of_beq M]at e;cases e
    . have:=l.b (eq_of_beq e);exact tE (IG (by omega)) z
  . refine tD (λh=>by simp at h) λ_=>tD (λh=>by simp at h) λ_=> ?_;rw[Q,H];simp only[AA5,Bool.not_true];refine tI (λh=>by cases h) λ_=>tE (objE rfl) (tI (λh=>by cases h) λ_=>tE (H▸P) ?_);rw[H]at z;unfold AN.J2 AN.J3;refine tI (λh=>by cases h) λ_=>tI (λ_=>tI (λh=>by cases h) λ_=>tI (λh=>by cases h) λ_=>tI (λh=>by cases h) λ_=>tI (λh=>by cases h) λ_=>tI (λh=>by cases h) λ_=>z) λh=>by cases h
 obtain⟨b,N,rfl⟩:=key;exact N
end
section
theorem ZJ {nt:Nat} {i:Int} (hi:i<nt):∀(S:List DS) (m:Int) (R:List DS),SN i m S->GY nt i m (S++R)=GY nt i (m+S.length) R:=by
 intro S;induction S with
 |nil=>intro m R _;simp
 |cons x r ih=>
  intro m R h;obtain⟨d,a⟩:=h 0 x rfl;have b:SN i (m+1) r:=λj y c=>by have:=h (j+1) y (by simpa using c);exact⟨this.1,by rw[this.2];omega⟩
  rw[AAz,GY,AAO (by omega),AAO (by omega),ih _ _ b,a];simp only[AAx];rw[show m+((0:Nat):Int)=m from by omega,show m+1+(r.length:Int)=m+((r.length+1:Nat):Int)from by omega];simp
theorem l7 {nt:Nat} {i t n:Int} (hi:i<nt) (h:t<i∨t=i/\n=0) {S:List DS} (a:SN i 0 S):∃b c,(b<i+1∨b=i+1/\c=0)/\∀R,GY nt t n (S++R)=GY nt b c R:=by
 rcases h with h|⟨rfl,rfl⟩
 . cases S with
   |nil=>exact⟨t,n,.inl (by omega),λ_=>rfl⟩
   |cons x r=>obtain⟨d,e⟩:=a 0 x rfl;have f:SN i 1 r:=λj y g=>(by have:=a (j+1) y (by simpa using g);exact⟨this.1,by rw[this.2];omega⟩);refine⟨i,1+r.length,.inl (by omega),λR=> ?_⟩;rw[AAz,GY,AAO (by omega),AAP (by omega),d,ZJ hi _ _ _ f,e];simp
 . exact⟨t,0+S.length,.inl (by omega),λR=>ZJ hi _ _ _ a⟩
def SW (p:AU) (i:Nat):Nat:=((p.AA.take i).map λt=>M8 4 t.Body).sum
theorem ZE {p:AU} {i:Nat} (h:i<p.AA.length):SW p (i+1)=SW p i+M8 4 p.AA[i].Body:=ZN h _
theorem Z6 {p:AU} (h:(p.AA.map λt=>M8 4 t.Body).sum≤60) (i:Nat):SW p i≤60:=by
 have:((p.AA.map λt=>M8 4 t.Body)).sum=SW p i+((p.AA.drop i).map λt=>M8 4 t.Body).sum:=by
  conv=>lhs;rw[← ABY i p.AA,AAv,List.sum_append]
  rfl
 omega
theorem sX {p:AU} {i j:Nat} (h:i≤j):SW p i≤SW p j:=by
 have:SW p j=SW p i+(((p.AA.take j).drop i).map λt=>M8 4 t.Body).sum:=by
  unfold SW
  conv=>lhs;rw[← ABY i (p.AA.take j),List.take_take,Nat.min_eq_left h,AAv,List.sum_append]
 omega
structure WV (p:AU) (N:Nat) (w:AD):Prop where
 c:w.Cells=Kf
 l:w.AG=Wx
 d:w.Af=[⟨cN,0⟩]
 f:w.AH=[⟨#[102]⟩]
 t:w.AA=(p.AA.take N).map (·.Name)
 n:w.BL.length=SW p N
 o:∀j k,j<N->SW p j≤k->k<SW p (j+1)->∃y,w.BL[k]? =some y/\y.Thread=(j:Int)
 s:∃t n:Int,(t<N∨t=N/\n=0)/\∀R,GY p.AA.length 0 0 (w.BL++R)=GY p.AA.length t n R
theorem w9 {p:AU} (h:MP p) (u:∃l,A4 p=some (0,l)) (E:(p.AA.map λt=>M8 4 t.Body).sum≤60):Cc (Br p) (WV p p.AA.length):=by
 obtain⟨l,u⟩:=u;have Q:=h.t;unfold Br;refine tE u (tI (λh=>by cases h) λ_=> ?_);have key:∀D T,Ed=some D->Br.AZ ⟨D,T⟩ Bg (AD.mk [] [] [] [] [] []) 0=Br.J4 ⟨D,T⟩ ⟨Kf,Wx,[⟨cN,0⟩],[⟨#[102]⟩],[],[]⟩:=by
  intro D T y;unfold Ed at y;obtain rfl:=AAJ y
  kernel_rfl
 rw[show Br.AZ p Bg (AD.mk [] [] [] [] [] []) 0=_ from key p.Decls p.AA h.d];unfold Br.J4;show Cc (Br.GL p Bg ⟨Kf,Wx,[⟨cN,0⟩],[⟨#[102]⟩],[],[]⟩ 0) _;refine OR p.AA.length (λi w=>WV p i w) (F:=λn s i=>Br.GL _ n s i) (by omega) ⟨rfl,rfl,rfl,rfl,rfl,rfl,λj k h=>by omega,0,0,.inr ⟨rfl,rfl⟩,λ_=>rfl⟩ λn i w hi a k=> ?_;unfold Br.GL Br.L3 Br.J5;refine tD (λg=>YX (by omega) ?_) λO=>tR ?_
 . have g:i<p.AA.length:=(by omega);have G:=ZE g;have H:=Z6 E (i+1);have hn:=a.n;refine tC (B9 (by rw[a.t];simp;omega)) (tB (sites_ok 4 _ _ _ _ _ (Lg (by omega)) (by omega) (by omega) (h.b _ (AAW g))) λv I=>k _ (by omega) ?_);obtain⟨S,x,V,B,W⟩:=I;obtain⟨t,m,L,M⟩:=a.s;obtain⟨K,J,U,N⟩:=l7 (nt:=p.AA.length) (i:=i) (by omega) L B;refine⟨a.c,a.l,a.d,a.f,?_,?_,?_,K,J,by omega,λR=> ?_⟩
   . simp only;rw[a.t,← AAX g,AAv];rfl
   . simp only;rw[x,AAu];omega
   . intro j q P r C;simp only;rw[x];by_cases e:j<i
     . have:=sX (p:=p) (show j+1≤i by omega);rw[AAf (by omega)];exact a.o j q e r C
     . obtain rfl:j=i:=(by omega);rw[AAl (by omega)];have z:q-w.BL.length<S.length:=(by omega);exact⟨S[q-w.BL.length],AAL z,(B _ _ (AAL z)).1⟩
   . simp only;rw[x,AA0,M,N]
 . have:i=p.AA.length:=(by omega);rw[this]at a;exact a
theorem WV.names {p:AU} {w:AD} (a:WV p p.AA.length w):w.AA=p.AA.map (·.Name):=by rw[a.t,List.take_length]
theorem uK {p:AU} {w:AD} (h:MP p) (o:(p.AA.map λt=>M8 4 t.Body).sum≤60) (a:WV p p.AA.length w):Ct w=true:=by
 obtain⟨n,z,B,nm⟩:=h.nm;have e:=a.names;rw[nm]at e;obtain⟨t,m,C,y⟩:=a.s;have b:=y [];rw[ABV]at b;have x:p.AA.length=w.AA.length:=by rw[a.names,AAn]
 rw[x]at b;have hn:=a.n;have q:=Z6 o p.AA.length;have g:=a.c;have i:=a.l;have j:=a.d;have k:=a.f;obtain⟨c,l,d,f,T,S⟩:=w;simp only at g i j k e hn b;subst g i j k;have v:AW Kf=some ([⟨#[120]⟩,⟨#[121]⟩,⟨#[118]⟩,qS],true):=by decide +kernel
 have r:GY T.length 0 0 S=true:=b;have u:T=La.take 1∨T=La.take 2∨T=La.take 3∨T=La.take 4:=by
  have:n=1∨n=2∨n=3∨n=4:=by omega
  rcases this with rfl|rfl|rfl|rfl<;>simp[e]
 unfold Ct;simp only[v,r];have hd:decide (S.length≤60)=true:=decide_eq_true (by omega);rw[hd];rcases u with rfl|rfl|rfl|rfl<;>(show @Eq Bool _ true;kernel_rfl)
theorem kD {p:AU} (h:MP p) (O:∃l,A4 p=some (0,l)):Cc (As p) λr=>CK r.1/\BV r.1=some true:=by
 obtain⟨q,hq,T⟩:=check60 h;have S:(p.AA.map λt=>M8 4 t.Body).sum≤60:=by obtain⟨l,O⟩:=O;rw[O]at hq;cases hq;exact T rfl
 have ht:=h.t
 let Q:BB->Prop:=λc=>WV p p.AA.length c.World/\c.AA.length=p.AA.length/\∀(j:Nat) t,c.AA[j]? =some t->VO c.World j t
 have par:Hi (As p) λr=>Q r.1:=by
  obtain⟨l,Z⟩:=O;unfold As;refine pE Z (pI (λh=>by cases h) λ_=>pB (pA (pT (Yc h ⟨l,Z⟩)) (pT (w9 h ⟨l,Z⟩ S))) λw B=> ?_);obtain⟨mw,B⟩:=B;have wf:WF (λs=>s∈p.AA.map (·.Name)) w:=⟨B.c,B.l,B.d,B.f,λs W=>by rw[B.names];exact W,by rw[B.names,AAn];exact ht⟩;refine wA p.AA.length (λi (s:BB×Int)=>s.1.World=w/\s.1.AA.length=i/\s.2=SW p i/\∀(j:Nat) t,s.1.AA[j]? =some t->VO w j t) (F:=λn s i=>As.AZ p n s.1 s.2 i) (s0:=(_,_)) (λ_ _=>rfl) (by omega) ⟨rfl,rfl,rfl,by simp⟩ λn i s hi W k=> ?_;obtain⟨G,s2,s3,s4⟩:=W;unfold As.AZ As.L1 As.J4;refine pD (λH=>pE (B8 (by omega)) ?_) λbB=>pR ⟨by simp only;rw[G];exact B,by simp only;omega,by simp only;rw[G];exact s4⟩;have H:i<p.AA.length:=by omega
  have L:p.AA[i]∈p.AA:=AAW H;have ho1:=ZE H;have ho2:=Z6 S (i+1);have hc:cg 4=336840:=rfl;have g0:GB (A8.mk s.1.World p.AA[i].Fh [] 0 s.2) 4000000:=⟨by rw[G];exact mw,h.l _ L,by simp⟩;refine pB (pA (pT (WS 4 _ _ _ (Lg (by omega)) (g0.less (by omega)) (h.b _ L))) (uA 4 _ _ (Lg (by omega)) (h.b _ L) ⟨s.1.World,p.AA[i].Fh,[],0,s.2⟩ ⟨by rw[G];exact wf,h.lo _ L⟩ (by simp only;omega))) λv hv=>pB (put_eq _) λu hu=> ?_;obtain⟨v0,v1,v2⟩:=hv;have v0:=v0.b;simp only[ABA]at v0;have V:(u.locals.length:Int)=2:=by rw[hu];simp only;rw[v1.l];simp only;rw[h.lo _ L];rfl
  have R:u.out=v.out++[⟨28,0,0,0,0, -1⟩]:=by rw[hu]
  have sg:=v1.s;simp only[ABA,G,s3]at sg;have v2':v.next=SW p (i+1):=by rw[v2];simp only;omega
  have rb:∀y∈u.out,∀r∈rg y,0≤r/\r<32:=by
   intro y x r e;rw[R]at x;rcases AAa.1 x with x|x
   . obtain⟨m,m1,m2⟩:=List.getElem_of_mem x;exact(sg.i m y (by omega) m1 (by rw[AAL m1,m2])).g r e
   . rw[AAh.1 x,rg0 (.inr (.inr rfl))]at e;cases e
  rw[V];have rR:u.out.length<1000000000000:=by rw[R];simp;omega
  refine wA u.out.length (λk (t:Al)=>t.Aw=u.out/\(2≤t.B5/\t.B5≤32)/\∀y∈u.out.take k,∀r∈rg y,r<t.B5) (F:=λn t k=>As.DI _ _ _ _ _ n t k) (λ_ _=>rfl) rR ⟨rfl,by simp,by simp⟩ λm q t hq2 oC k2=> ?_;obtain⟨t1,t2,t3⟩:=oC;unfold As.DI As.L2 As.J2 As.J3;refine pD (λhlt2=>pE (B8 (by omega)) ?_) λhge2=>pC λ_=>k (_,_) (by omega) ⟨G,by simp;omega,v2',?_⟩
  . have x:u.out[q]∈u.out:=AAW (by omega);have ry:=rb _ x;have K:q<u.out.length:=(by omega);have tk:=AAX K;generalize u.out[q]=y at x ry tk;refine pE (EX y).1 (wA (rg y).length (λl (t:Al)=>t.Aw=u.out/\(2≤t.B5/\t.B5≤32)/\(∀y∈u.out.take q,∀r∈rg y,r<t.B5)/\∀r∈(rg y).take l,r<t.B5) (F:=λn t k=>As.GL _ _ _ n t k) (λ_ _=>rfl) (by have:=(EX y).2;omega) ⟨t1,t2,t3,by simp⟩ λm3 M D hq3 X k3=> ?_);obtain⟨x1,x2,x3,x4⟩:=X;unfold As.GL As.L3 As.J1;refine pD (λhlt3=>pE (B8 (by omega)) ?_) λhge3=>k2 _ K ⟨x1,x2,λz C r e=> ?_⟩
    . have e:(rg y)[M]'(by omega)∈rg y:=AAW (by omega);have U:=ry _ e;have N:=AAX (show M<(rg y).length by omega);generalize (rg y)[M]'(by omega)=r at e U N;rw[CC (by omega) (by omega)];have J:∀z,(if r+1>D.B5 then r+1 else D.B5)=z->D.B5≤z/\r<z/\z≤32:=by intro z C;split at C<;>omega
      generalize C:(if r+1>D.B5 then r+1 else D.B5)=z
      obtain⟨z1,z2,z3⟩:=J z C;refine k3 _ (by omega) ⟨x1,by simp only;omega,λy x r e=>by have:=x3 y x r e;simp only;omega,?_⟩;rw[← N];intro a I;rcases AAa.1 I with I|I
      . have:=x4 a I;simp only;omega
      . rw[AAh.1 I];exact z2
    . rw[← tk]at C;rcases AAa.1 C with C|C
      . exact x3 z C r e
      . rw[AAh.1 C]at e;rw[AAs (by omega)]at x4;exact x4 r e
  . intro j D E;simp only at E;by_cases hj:j<s.1.AA.length
    . rw[AAf hj]at E;exact s4 j D E
    . have:=(AAI.1 E).1;simp at this;obtain rfl:j=s.1.AA.length:=(by omega);rw[show(s.1.AA++[t])[s.1.AA.length]? =some t from by simp]at E;obtain rfl:=AAJ E;rw[s2];rw[AAs (by omega)]at t3;refine⟨t2,⟨v.out,_,_,by rw[t1,R],sg,λk k1 k2=> ?_⟩,by rw[t1];exact t3⟩;obtain⟨k,rfl⟩:∃m:Nat,k=m:=⟨k.toNat,by omega⟩;rw[JJ];exact B.o i k H (by omega) (by omega)
 obtain⟨r,e,P⟩:=cY h;refine⟨r,e,P,?_⟩;obtain⟨q1,q2,M⟩:=par r e;have hl:r.1.AA.length=r.1.World.AA.length:=by rw[q2,q1.names,AAn]
 have hn:=P.n;have key:Cc (BV r.1) λb=>b=true:=by unfold BV;refine tE (LP _) ?_;rw[uK h S q1];refine tI (λh=>by cases h) λ_=> ?_;rw[hl,show((r.1.World.AA.length:Int) != r.1.World.AA.length)=false from by simp];unfold BV.J1;refine tI (λh=>by cases h) λ_=>OR r.1.AA.length (λ_ (_:Unit)=>True) (s0:=()) (F:=λn _ i=>BV.AZ r.1 n i) (by omega) trivial λn i _ hi _ k=> ?_;unfold BV.AZ BV.L1 BV.J2;refine tD (λH=>YX (by omega) ?_) λ_=>tR rfl;refine tE (T6 (P.i _ (AAW (by omega))) (M i _ (AAL (by omega)))) (tI (λh=>by cases h) λ_=>k () (by omega) trivial)
 obtain⟨b,U,rfl⟩:=key;exact U
end
theorem vY {l:List Int} (d:l.length≤4000000000000000000) (e:∀x∈l,0≤x/\x<256):Cc (Kd l) λc=>CK c/\BV c=some true:=by unfold Kd;exact tB (bT d e) λp a=>tB (kD a.1 a.2) λc b=>tR b
theorem wY {p s:List Int} (g:p.length≤4000000000000000000) (j:∀x∈p,0≤x/\x<256) (i:s.length≤1000):Cc (HQ p s) λt=>TA s.length t/\Ct t.World=true:=by unfold HQ;refine tB (vY g j) λc b=>tB (Xw i) λl o=>tB (tP (Run_ok b.1 (by omega)) (Q:=λr=>Ct r.1.World=true) ?_) λr a=>tR ⟨⟨⟨by have:=a.1.m.n;omega,a.1.m.e,a.1.m.w⟩,a.1.c⟩,a.2⟩;obtain⟨v,d,f⟩:=N8 b.1;rw[b.2]at d;have k:=f (AAJ d).symm;unfold Ii;exact pE b.2 (pI (λh=>by cases h) λ_=>pB' λ_=>pB' λ_=>pR k.w)
theorem wF {n:Nat} {t:BN} (a:TA n t) (hn:n≤400) (b:Ct t.World=true):Iy t=(0,0):=by have:=a.m.n;unfold Iy;rw[AAO (by omega),AAP b,a.c]
theorem TA.at {n:Nat} {t:BN} (h:TA n t) (b:Ct t.World=true) (hn:n≤400):AT t:=
 AT.of (λe a=>(h.m.e e a).ok) (by rw[wF h hn b])
theorem made_at {p s:List Int} (d:p.length≤200) (c:∀x∈p,0≤x/\x<256) (b:s.length≤400):Cc (HQ p s) λt=>AT t:=
 tM (wY (by omega) c (by omega)) λt a=>a.1.at a.2 b
theorem tZ {t:BN} (h:AT t) {k:Nat} (a:0<k) (b:k≤16):aO t (k:Int)=(KC t k t.AE.length,0):=by unfold aO;rw[h.check,AAO (by simp),AAO (by omega),AA4]
theorem winN_bd {k:Nat} (a:0<k) (i:Nat):i≤Md k i*k/\Md k i*k<i+k:=by have b:=ABL (i+k-1) k;have c:=Nat.mod_lt (i+k-1) a;unfold Md;rw[AA8];omega
theorem mK {t:BN} {k i j:Nat} (h:j<Md k i):gt (KC t k i) (j:Int)=some (fT t k (j*k)):=by rw[B8 (by rw[Ky];exact h)];simp[KC]
theorem bX {w:AP} (b:∀e∈w.AE,OO e) (c:RB 1000000 w.Init.Sync):C1.J2 w=some true:=by have a:=c.mono (M:=4611686018427387904) (by omega);unfold C1.J2 C1.J3;rw[wZ b a,AAF,rValid_eq b a,AAF,AAP (by simp),v7];rfl
theorem RB_set {s:AQ} (h:RB 1000000 s) (i:Nat) (x:AX) (b:x.Aj.length≤1000000) (tx:Int) (D:List Bool) (T:List AF):RB 1000000 ⟨s.AG.set i x,tx,D,T⟩:=by
 intro y c;rcases AAm c with a|rfl
 . exact h y a
 . exact b
theorem ifE {c:Bool} {a b r:ABh Bool} (d:a=r) (e:b=r):(if c=true then a else b)=r:=by cases c<;>assumption
theorem u8mod {b:Int} (a:0≤b/\b<256) {n:Nat} (hn:0<n):∃k:Nat,(Aq b).tmod (n:Int)=(k:Int)/\k<n:=by obtain⟨m,rfl⟩:∃m:Nat,b=m:=⟨b.toNat,by omega⟩;rw[CC (n:=(m:Int)) (by omega) (by omega)];exact⟨m%n,by rw[Int.ofNat_tmod],Nat.mod_lt _ hn⟩
theorem vQ {p s:List Int} {c e:Int} (o:p.length≤200) (q:s.length≤400) (u:∀x∈p,0≤x/\x<256) (f:0≤c/\c<256) (g:0≤e/\e<256):Cc (Lr p s c e) λr=>r.2=true->∃t k i,AT t/\k≤16/\i≤t.AE.length/\r.1=fT t k i:=by
 unfold Lr;refine tB (made_at o u q) λt h=> ?_;obtain⟨k,b,z⟩:=u8mod f (n:=8) (by omega);rw[show((8:Nat):Int)=8 from rfl]at b;rw[b,Ai (by omega)];refine tE (rSplit_eq t h.e _) ?_;rw[tZ h (by omega) (by omega)];simp only[Ky];have y:=wB (k:=k+1) (by omega) t.AE.length;have w:=h.l;by_cases d:Md (k+1) t.AE.length=0
 . rw[AAP (by simp[d])];exact tR λh=>by cases h
 . rw[AAO (by simp;omega),AAP (by omega)];obtain⟨m,j,a⟩:=u8mod g (n:=Md (k+1) t.AE.length) (by omega);rw[j,mK a,AAF];refine tR λ_=>⟨t,k+1,m*(k+1),h,by omega,?_,rfl⟩;have v:=(winN_bd (k:=k+1) (by omega) t.AE.length).2;have:(m+1)*(k+1)≤Md (k+1) t.AE.length*(k+1):=AA1 _ a;rw[ABM]at this;omega
theorem pV {p s:List Int} {i j c b d:Int} (W:∀x∈p,0≤x/\x<256) (hi:0≤i/\i<256) (O:0≤j/\j<256) (I:0≤b/\b<256):C1 p s i j c b d=some true:=by
 unfold C1;have key:∀q,(q=false->p.length≤200/\s.length≤60)->C1.J1 b c d p s i j q=some true:=by
  intro q R;unfold C1.J1;cases q with
  |true=>rfl
  |false=>
   obtain⟨G,g2⟩:=R rfl;obtain⟨r,S,v⟩:=vQ (s:=s) G (by omega) W hi O;rw[AAO (by simp),S,AAF];cases hr2:r.2 with
   |false=>rw[AAP (by simp),v7];rfl
   |true=>
    obtain⟨t,k,m,h,_,L,v⟩:=v hr2;rw[AAO (by simp)];have U:=h.small L;have J:∀e∈r.1.AE,OO e:=(by rw[v];exactλe N=>h.e e (List.mem_of_mem_drop (ABa N)));have E:RB 1000000 r.1.Init.Sync:=(by rw[v];exact U.r);obtain⟨a,_⟩:=Zf h.w h.l h.c m L;obtain⟨M,Z,f3,f4⟩:=Lc a.f;have l3:=(Em M).2.2;have V:0<r.1.Init.Sync.AA.length:=(by have:=(M9 h.w).2;rw[v];show 0<(Gl t m).Sync.AA.length;omega);have hc:r.1.Init.Count.length=r.1.Init.Sync.AA.length:=(by rw[v];show(Gl t m).Count.length=(Gl t m).Sync.AA.length;omega);clear v;obtain⟨n,hn,Q⟩:=u8mod I V;rw[AAP (by omega),hn];have u:∀st B C z T tx D,C1.J2 ⟨r.1.World,st,⟨⟨r.1.Init.Sync.AG,tx,D,T⟩,B,C,z⟩,r.1.AE⟩=some true:=λst B C z T tx D=>bX J E;have K:∀i x st B C z T tx D,x.Aj.length≤1000000->C1.J2 ⟨r.1.World,st,⟨⟨r.1.Init.Sync.AG.set i x,tx,D,T⟩,B,C,z⟩,r.1.AE⟩=some true:=λi x st B C z T tx D X=>bX J (RB_set E i x X tx D T);have H:C1.J2 r.1=some true:=bX J E;have P:∀y,gt r.1.Init.Sync.AG y=none∨∃x,gt r.1.Init.Sync.AG y=some x/\x.Aj.length≤1000000:=λy=>by
     cases hg:gt r.1.Init.Sync.AG y with
     |none=>exact .inl rfl
     |some x=>
      unfold gt at hg;split at hg
      . exact .inr ⟨x,rfl,E x (AAS hg)⟩
      . cases hg
    refine ifE ?_ ?_
    . exact u _ _ _ _ _ _ _
    refine ifE ?_ ?_
    . rw[B8 (by omega),AAF];exact u _ _ _ _ _ _ _
    refine ifE ?_ ?_
    . rw[B8 (by omega),AAF];exact u _ _ _ _ _ _ _
    refine ifE ?_ ?_
    . rw[B8 (by omega),AAF];exact u _ _ _ _ _ _ _
    refine ifE ?_ ?_
    . rw[B8 (by omega),AAF];exact u _ _ _ _ _ _ _
    refine ifE ?_ ?_
    . exact u _ _ _ _ _ _ _
    refine ifE ?_ ?_
    . by_cases g:0<r.1.Init.Sync.AG.length
      . obtain⟨y,F,o⟩:=u8mod I g;rw[A2 (by omega),AAP (by omega),F,B8 o,AAF];exact K _ _ _ _ _ _ _ _ _ (E r.1.Init.Sync.AG[y] (AAW o))
      . rw[Ad (by omega)];exact H
    refine ifE ?_ ?_
    . by_cases g:0<r.1.Init.Sync.AG.length
      . obtain⟨y,F,o⟩:=u8mod I g;rw[A2 (by omega),AAP (by omega),F,B8 o,AAF];exact K _ _ _ _ _ _ _ _ _ (by simp)
      . rw[Ad (by omega)];exact H
    refine ifE ?_ ?_
    . by_cases g:0<r.1.Init.Cells.length
      . obtain⟨y,F,o⟩:=u8mod I g;rw[A2 (by omega),AAP (by omega),F,B8 o,AAF];exact u _ _ _ _ _ _ _
      . rw[Ad (by omega)];exact H
    . by_cases g:0<r.1.Init.AH.length
      . rw[A2 (by omega),show(0:Int)=((0:Nat):Int)from rfl,B8 g,AAF];exact u _ _ _ _ _ _ _
      . rw[Ad (by omega)];exact H
 by_cases G:(p.length:Int)>200
 . rw[A2 G];exact key _ (λh=>by cases h)
 . rw[Ad G];exact key _ λh=>by have:=of_decide_eq_false h;omega
theorem pS {a b:Type} {o:ABh a} {f:a->ABh b} {R:b->Prop} (k:∀x,o=some x->Hi (f x) R):Hi (o.bind f) R:=pB (Q:=λx=>o=some x) (λ_ e=>e) k
theorem zN {a:Type} {l:List a} {i:Int} {x:a} (h:gt l i=some x):(0≤i/\i<l.length)/\l[i.toNat]? =some x:=by
 unfold gt at h;split at h
 . have:=(AAI.1 h).1;exact⟨by omega,h⟩
 . cases h
def vZ (l:List Ac):Nat->Int->Prop
 |0,_=>False
 |n+1,a=>∃x,gt l a=some x/\(T4 x.Op=false∨T4 x.Op=true/\vZ l n (if x.Op=5 then x.A else Aq (a+1)))
def OpN (x:Ac):Prop:=(x.Op=3->x.N=4∨x.N=5)/\(x.Op=4->6≤x.N/\x.N≤18)
def VSi (c:Al) (k:Nat) (x:Ac):Prop:=vZ c.Aw (c.Aw.length+1) (k:Int)/\(x.Op=28↔k+1=c.Aw.length)/\(x.Op=10->0≤x.B/\x.B<c.Aw.length)/\OpN x
def VS (c:Al):Prop:=∀(k:Nat) x,c.Aw[k]? =some x->VSi c k x
theorem Sc {n:Int} (h:1≤n/\n≤100):DH n=some n:=by unfold DH DH.J1;rw[AAO (by simp;omega),AAO (by simp;omega)]
theorem pP {n:Int} (h:n=4∨n=5) (a:Int):Hi (Ht n a) λr=>r.2=true:=by unfold Ht;refine pI (λ_=>pR rfl) λb=>pI (λ_=>pS λ_ _=>pR rfl) λc=> ?_;simp at b c;omega
theorem gU {n:Int} (h:6≤n/\n≤18) (a b:Int):Hi (Dp n a b) λr=>r.2=true:=by
 unfold Dp Dp.J1 Dp.J2
 repeat' first|exact pR rfl|refine pS λ_ _=> ?_|refine pC λ_=> ?_|refine pI (λ_=> ?_) λ_=> ?_
 simp at *;omega
theorem step_par {i:Ac} {s:AM} (l:∀y∈rg i,0≤y/\y<s.B5.length) (m:T4 i.Op=true) (hn:OpN i):Hi (CX i s) λr=>(r.2=true/\r.1.AE=s.AE)/\r.1.PC=(if i.Op=5 then i.A else Aq (s.PC+1))/\r.1.B5.length=s.B5.length/\r.1.CA.length=s.CA.length:=by
 have b:∀v ok t,ok=true->i.Op≠5->Hi (CX.J3 i s v ok t) λr=>(r.2=true/\r.1.AE=s.AE)/\r.1.PC=(if i.Op=5 then i.A else Aq (s.PC+1))/\r.1.B5.length=s.B5.length/\r.1.CA.length=s.CA.length:=by intro v ok t h g;unfold CX.J3;exact pC λ_=>pS λ_ _=>pS λ_ _=>pR ⟨⟨h,rfl⟩,by rw[AAO g],by simp,by simp⟩
 unfold CX;refine pE (EX i).1 (wA (rg i).length (λ_ (_:Unit)=>True) (s0:=()) (F:=λn _ j=>CX.AZ i s (rg i) n j) (λ_ _=>rfl) (by have:=(EX i).2;omega) trivial λn j _ z _ k=> ?_);unfold CX.AZ CX.L1 CX.J1;refine pD (λu=>pE (B8 (by omega)) ?_) λ_=> ?_
 . have:=l _ (AAW (show j<(rg i).length by omega));exact pD (λh=>by omega) λ_=>pI (λh=>by simp at h;omega) λ_=>k () (by omega) trivial
 . unfold CX.J2;refine pI (λh=>pR ⟨⟨rfl,rfl⟩,by rw[AAP (eq_of_beq h)],rfl,rfl⟩) λa=> ?_;have a:i.Op≠5:=(by simpa using a);refine pI (λw=>b _ _ _ rfl a) λo=>pI (λx=>pS λ_ _=>pS λ_ _=>b _ _ _ rfl a) λp=>pI (λd=> ?_) λq=> ?_
   . have h:=hn.1 (eq_of_beq d);exact pE (Sc (by omega)) (pS λ_ _=>pB (pP h _) λf c=>pS λ_ _=>b _ _ _ c a)
   . have e:i.Op=4:=(by simp[T4]at m o p q;omega);have h:=hn.2 e;exact pE (Sc (by omega)) (pS λ_ _=>pS λ_ _=>pB (gU h _ _) λf c=>pS λ_ _=>pS λ_ _=>pS λ_ _=>b _ _ _ c a)
theorem o8 {s:AM} (b:s.CA.length≤100):Hi (DG s) λr=>r=s:=by unfold DG;refine pC λ_=>wA s.CA.length (λi o=>o=⟨s.PC,s.B5,s.CA.take i,s.AE⟩) (F:=λn o i=>DG.AZ s n o i) (λ_ _=>rfl) (by omega) rfl λn i o hi a k=> ?_;subst a;unfold DG.AZ DG.L1 DG.J1;exact pD (λ_=>pE (B8 (by omega)) (pC λ_=>pC λ_=>k _ (by omega) (by rw[AAX]))) λ_=>pR (by rw[AAs (by omega)])
theorem iH {c:Al} {s:AM} (G:VS c) (K:c.Aw.length≤8000000) (z:∀x∈c.Aw,∀y∈rg x,0≤y/\y<c.B5) (u:c.B5≤32) (E:(s.B5.length:Int)=c.B5) (M:(s.CA.length:Int)=c.B5) (B:vZ c.Aw (c.Aw.length+1) s.PC):Hi (B3 c s) λr=>r.1.AE=s.AE:=by
 unfold B3;refine pI (λh=>by simp at h;omega) λ_=> ?_;unfold B3.J1;refine pI (λh=>by simp at h;omega) λ_=>pB (o8 (by omega)) λI o=> ?_;subst o;refine wA (c.Aw.length+1) (λi t=>(t.AE=I.AE/\(t.B5.length:Int)=c.B5)/\vZ c.Aw (c.Aw.length+1-i) t.PC) (F:=λn s j=>B3.AZ c n s j) (λ_ _=>rfl) (by omega) ⟨⟨rfl,E⟩,B⟩ λn i t hi w k=> ?_;obtain⟨⟨l,m⟩,e⟩:=w;unfold B3.AZ B3.L1 B3.J2 B3.J3;refine pD (λC=> ?_) λJ=> ?_
 . rw[show c.Aw.length+1-i=(c.Aw.length-i)+1 from by omega]at e;obtain⟨x,f,b⟩:=e;have L:=(zN f).1;have g:=(zN f).2;refine pD (λh=>by omega) λ_=>pI (λh=>by simp at h;omega) λ_=>pE f (pE (Lb _) (pI (λ_=>pR l) λa=> ?_));have a:T4 x.Op=true:=(by simpa using a);have b:=(b.resolve_left (by rw[a];simp)).2;refine pI (λh=> ?_) λp=> ?_
   . have:i=c.Aw.length:=(by simp at h;omega);rw[show c.Aw.length-i=0 from by omega]at b;exact b.elim
   . have D:=AAS g;have q:=G _ x g;refine pB (step_par (λy H=>by rw[m];exact z x D y H) a q.2.2.2) λv d=>pI (λh=>by rw[d.1.1]at h;cases h) λ_=>k _ (by simp at p;omega) ⟨⟨d.1.2.trans l,by rw[d.2.2.1];exact m⟩,?_⟩;rw[d.2.1,show c.Aw.length+1-(i+1)=c.Aw.length-i from by omega];exact b
 . rw[show c.Aw.length+1-i=0 from by omega]at e;exact e.elim
theorem pF3 {x y} {P:Ae×AK×Bool->Prop}:Hi (some (x,y,false)) λr:Ae×AK×Bool=>r.2.2=true->P r:=pR λh=>by cases h
theorem wW {E:Nat} {c:BB} (hc:CK c) (hV:∀t∈c.AA,VS t) {s:Ae} (J:SI E s) (hE:E≤10000) {Z:List AK} {S:AB} (hl:LK c Z S s) (a:BJ):
 Hi (Ay c s a) λr=>r.2.2=true->∃x K,s.AA[a.Thread.toNat]? =some x/\r.1.AA[a.Thread.toNat]? =some K/\K.AE=x.AE+1:=by
 obtain⟨hr,J⟩:=J;unfold Ay;refine pB (pT (RU hc J (by omega) a.Thread)) λv U=>pI (λ_=>pF3) λh=> ?_;have U:=U (by simpa using h);obtain⟨o,T,_,hh,hi⟩:=U;have L:=DB o.v.w;have w1:=L.c;have w2:=L.f;have w3:=L.t;have c1:=o.c';have c2:=o.u;have c3:=o.n;have c4:=o.v.n;refine pS λap _=>pI (λ_=>pF3) λh2=>pE (bP J (by omega) (T9.of L o.f (hr.mono (by omega))) (by omega) (by omega) (by omega)) ?_;obtain⟨x,x1,M,x3⟩:=F8 (l:=s.AA) (i:=a.Thread) (by omega);obtain⟨y,y1,y2,y3⟩:=F8 (l:=c.AA) (i:=a.Thread) (by omega);obtain⟨p1,p2,p3⟩:=o.t _ x y M y2;obtain⟨z,z1,z2,z3⟩:=F8 (l:=y.Aw) (i:=x.PC) (by omega);obtain⟨q,q1,q2,q3⟩:=F8 (l:=s.Sync.AA) (i:=a.Thread) (by have:=(Em o.f).2.2;omega);have I:=hi x y z q M y2 z2 q2;have V:=J x x3;have d:=hV y y3;have H:=o.v.t _ y y2;have R:=hc.i y y3;have he:=V.e;have W:∀n:Int,0≤n->n<y.Aw.length->vZ y.Aw (y.Aw.length+1) n:=λn n0 D=>by obtain⟨m,rfl⟩:∃m:Nat,n=m:=⟨n.toNat,by omega⟩;exact(d m _ (AAL (by omega))).1
 have X:v.1.Kind≠1->v.1.Kind≠2->vZ y.Aw (y.Aw.length+1) (Aq (x.PC+1)):=λk1 k2=>by
  have P:z.Op≠28:=by
   rcases I.s with⟨k,_⟩|⟨⟨q4,_⟩|⟨_,k,_⟩,_⟩
   . exact absurd k k1
   . obtain⟨z',b1,b2⟩:=hl.w _ x y q M y2 q2 (.inr q4);rw[z1]at b1;obtain rfl:=AAJ b1;omega
   . exactλh=>k2 (k.2 h)
  have:=(d _ z z2).2.1;have:x.PC.toNat+1≠y.Aw.length:=λh=>P (this.2 h);rw[CC (by omega) (by omega)];exact W _ (by omega) (by omega)
 refine pE x1 (pE y1 (pE z1 ?_))
 let G:Ae×AK×Bool->Prop:=λr=>r.2.2=true->∃x K,s.AA[a.Thread.toNat]? =some x/\r.1.AA[a.Thread.toNat]? =some K/\K.AE=x.AE+1
 have j6:∀e C F t,t.AE=x.AE+1->Hi (Ay.J6 a e C F ap s t) G:=by intro e C F t B;unfold Ay.J6;exact pS λ_ _=>pR λ_=>⟨x,t,M,by simp only;rw[AAK (by omega)],B⟩
 have j5:∀e n C F t b,(t.AE=x.AE/\(t.B5.length:Int)=y.B5/\(t.CA.length:Int)=y.B5)->(b=true->vZ y.Aw (y.Aw.length+1) n)->Hi (Ay.J5 c a e n C F t ap s b) G:=by
  intro e n C F t b B Q;unfold Ay.J5;have e1:Aq (t.AE+1)=x.AE+1:=by rw[B.1];exact CC (by omega) (by omega)
  refine pI (λh=>pE y1 (pB (iH d R (λx V=>(H.i x V).g) H.r.2 B.2.1 B.2.2 (Q h)) λu hu=>j6 _ _ _ _ (hu.trans e1))) λ_=>j6 _ _ _ _ e1
 have j3:∀e n C F b,(e.Kind≠16->e.Kind≠2->vZ y.Aw (y.Aw.length+1) n)->Hi (Ay.J3 c a e n C F ap s x z b) G:=by
  intro e n C F b hn;unfold Ay.J3 Ay.J4;have k:∀t,(t.AE=x.AE/\(t.B5.length:Int)=y.B5/\(t.CA.length:Int)=y.B5)->Hi (if(e.Kind != 16)=true then Ay.J5 c a e n C F t ap s (e.Kind != 2)else Ay.J5 c a e n C F t ap s false) G:=λt T=>pI (λO=>j5 _ _ _ _ _ _ T λh2=>hn (by simpa using O) (by simpa using h2)) λ_=>j5 _ _ _ _ _ _ T λh=>by cases h
  exact pI (λ_=>pS λ_ _=>pS λ_ _=>k _ ⟨rfl,by simpa using p2,by simpa using p3⟩) λ_=>k _ ⟨rfl,p2,p3⟩
 have p:∀C F e n,(e.Kind≠16->e.Kind≠2->vZ y.Aw (y.Aw.length+1) n)->Hi (Ay.J2 c a ap s x z C F e n) G:=by intro C F e n hn;unfold Ay.J2;exact pI (λ_=>j3 _ _ _ _ _ hn) λ_=>j3 _ _ _ _ _ hn
 have j1:∀b,(b=false->v.1.Kind≠1)->Hi (Ay.J1 c a v ap s x z b) G:=by
  intro b Q;unfold Ay.J1;refine pI (λ_=>p _ _ _ _ λ_ _=>W _ p1.1 p1.2) λh0=> ?_;have D:=X (Q h0);refine pI (λ_=>pS λ_ _=>p _ _ _ _ λ_ k=>D k) λ_=>pI (λ_=>pS λ_ _=>p _ _ _ _ λ_ k=>D k) λ_=>pI (λ_=>pS λ_ _=>pS λ_ _=>p _ _ _ _ λ_ k=>D k) λ_=>pI (λ_=>pS λ_ _=>pS λ_ _=>p _ _ _ _ λ_ k=>D k) λ_=>pI (λh5=>pS λ_ _=>pI (λ_=>p _ _ _ _ λ_ _=> ?_) λ_=>p _ _ _ _ λ_ k=>D k) λ_=>p _ _ _ _ λ_ k=>D k
  have:=(d _ z z2).2.2.1 (I.j (eq_of_beq h5));exact W _ this.1 this.2
 exact pI (λh=>j1 _ λN=>by rw[N]at h;cases h) λB=>pI (λh=>j1 _ λN=>by rw[N]at h;cases h) λ_=>j1 _ λ_=>by simpa using B
def Zj (e:AK):BJ:=⟨e.Thread,if e.Kind=18/\0≤e.Value/\e.Value<4 then e.Value else -1⟩
def l6 (c:BB):Ae->List AK->Ae->Prop
 |s,[],t=>s=t
 |s,e::r,t=>∃s',Ay c s (Zj e)=some (s',e,true)/\l6 c s' r t
structure GP (c:BB) (pre:List AK) (s:Ae):Prop where
 i:SI pre.length s
 l:LK c pre (pre.foldl (Fu c.World) (Ft c.World)) s
 k:∀(u:Nat) x,s.AA[u]? =some x->ix (pre.foldl (Fu c.World) (Ft c.World)).Count (u:Int)=x.AE
 n:s.AA.length=c.AA.length
theorem GP.step {c:BB} (C:CK c) (J:∀t∈c.AA,VS t) {b:List AK} {s G:Ae} {g:BJ} {e:AK} (h:GP c b s) (Q:b.length≤400) (E:Ay c s g=some (G,e,true)):GP c (b++[e]) G:=by
 obtain⟨r,B,I⟩:=Vk C h.i (by omega) g;rw[E]at B;obtain rfl:=AAJ B;obtain⟨⟨F,S⟩,d⟩:=I rfl;obtain⟨_,_,z⟩:=sim (by omega) h.i h.l d;obtain⟨x,T,w,j,O⟩:=wW C J h.i (by omega) h.l g _ E rfl;obtain⟨y,U,y1,y2,_⟩:=d.th;simp only at j y1 y2 F z;have D:(b++[e]).foldl (Fu c.World) (Ft c.World)=Fu c.World (b.foldl (Fu c.World) (Ft c.World)) e:=by rw[List.foldl_append];rfl
 have N:=h.i.2 x (AAS w);have R:=d.p.t;have q:e.Thread=g.Thread:=d.p.h;have hn:=d.p.f.n;have L:=d.p.f.v.n;refine⟨by rw[AAu];exact F,by rw[D];exact z,λu a o=> ?_,by rw[y2,List.length_set];exact h.n⟩;rw[D];show ix ((b.foldl (Fu c.World) (Ft c.World)).Count.set e.Thread.toNat (Aq (ix (b.foldl (Fu c.World) (Ft c.World)).Count e.Thread+1))) u=_;have K:=h.l.n;rw[q];by_cases M:(u:Int)=g.Thread
 . have m:g.Thread.toNat=u:=(by omega);rw[m]at w j ⊢;rw[o]at j;obtain rfl:=AAJ j
   have:=h.k u x w;rw[← M,this,O];have P:=N.e;rw[CC (by omega) (by omega)];unfold ix;have H:u<(b.foldl (Fu c.World) (Ft c.World)).Count.length:=(by omega);simp[H]
 . have m:g.Thread.toNat≠u:=(by omega);rw[y2,AAM m]at o;rw[← h.k u a o];unfold ix;rw[AAM (by omega)]
theorem GP.run {c:BB} (b:CK c) (a:∀t∈c.AA,VS t) {t:Ae}:∀{l pre s},GP c pre s->l6 c s l t->pre.length+l.length≤400->GP c (pre++l) t
 |[],pre,s,h,hr,_=>by cases hr;rw[ABV];exact h
 |e::r,pre,s,h,⟨s',h1,h2⟩,hp=>by
  simp only[AAx]at hp
  have:=GP.run b a (h.step b a (by omega) h1) h2 (by simp;omega);rwa [AA0]at this
end Go.Abs
namespace Go.Abs
open Go.Proofs Go.RowKit
set_option maxRecDepth 100000
set_option maxHeartbeats 4000000
theorem eY {b:Type} {e:b->List AV} {ok:b->Prop}:∀(rows:List (List AV)),(∀a∈rows,∃x:b,a=e x/\ok x)->∃l:List b,rows=l.map e/\∀x∈l,ok x
 |[],_=>⟨[],rfl,λ_ h=>by simp at h⟩
 |r::rs,h=>by
  obtain⟨l,f,g⟩:=eY rs (λa i=>h a (by simp[i]));obtain⟨x,j,c⟩:=h r (by simp);refine⟨x::l,by rw[j,f];rfl,λy d=> ?_⟩;rcases AAg.1 d with rfl|d
  . exact c
  . exact g y d
def Mo (x:Int):Prop:=(Lit.int .u8 x).wf=true
structure SY (x:List Int):Prop where
 len:x.length*1≤reachBytes
 all:∀y∈x,Mo y
theorem op5:Ps Tryz.prog 5 (λa=>∃x:Int,a=[.sc (.int .u8 x)]/\Mo x):=(fY Tryz.underlying5).mono λ_ ⟨n,h,b⟩=>⟨n,h,b⟩
theorem arg5 (a:AV):UA Tryz.prog 5 [a]=a:=by unfold UA;rw[Tryz.underlying5];rfl
theorem op22:Ps Tryz.prog 22 (λc=>∃x:List Int,c=[.sl false 1 (x.map WL)]/\SY x):=by
 refine(eJ (k:=1) Tryz.underlying22 (by kernel_rfl) (by omega) op5).mono ?_;rintro c ⟨rows,rfl,g,d⟩;obtain⟨l,rfl,f⟩:=eY (e:=WL) (ok:=Mo) rows λb h=>(g b h).1;have a:Tryz.prog.bytesOf 5=1:=by kernel_rfl
 rw[a,AAn]at d;exact⟨l,rfl,d,f⟩
theorem arg22 (a:AV):UA Tryz.prog 22 [a]=a:=by unfold UA;rw[Tryz.underlying22];rfl
def okI_i8 (x:Int):Prop:=(Lit.int .i8 x).wf=true
theorem op69:Ps Tryz.prog 69 (λa=>∃x:Int,a=[.sc (.int .i8 x)]/\okI_i8 x):=(fY Tryz.underlying69).mono λ_ ⟨n,h,b⟩=>⟨n,h,b⟩
theorem arg69 (a:AV):UA Tryz.prog 69 [a]=a:=by unfold UA;rw[Tryz.underlying69];rfl
theorem laid:laidOutB Tryz.prog=true:=by kernel_rfl
theorem own0:ownKnob Tryz.prog.godebug=none:=by kernel_rfl
abbrev eC:List (String×DataW Unit):=[("interleave/token.keywords",Go.Proofs.YtdadohkcmclilaaGreatDoor.Rows.laid_interleave_token_keywords)]
theorem gName:Tryz.prog.globalNamed "interleave/token.keywords" =some 0:=by kernel_rfl
theorem gType:(Tryz.prog.globals[0]?).map (·.type)=some 271:=by kernel_rfl
theorem sK:(Go.Proofs.YtdadohkcmclilaaGreatDoor.Rows.laid_interleave_token_keywords:DataW Unit)= .agg (Km.map λs=>.lit (.string s.data.toList)):=rfl
theorem kS {W:World} (h:laidMetH Tryz.prog eC W):GI W (Old W):=by
 rw[MakeChecks.laidMetH_plain _ _ _ (by kernel_rfl)]at h;obtain⟨I,⟨G,K,c,F,H,J,i,n,o,f,_,_⟩,_,_⟩:=h;obtain rfl:=AAJ (gName.symm.trans i);obtain rfl:=AAJ (gType.symm.trans n);obtain⟨w,m,rfl,p,t,hn,g⟩:=DataW.trod_array Tryz.underlying271 f;have ce:Tryz.prog.cellsOf 9=1:=by kernel_rfl
 rw[sK]at p;simp only[AAU,DataW.agg.injEq]at p;have r:∀(j:Nat) s,Km[j]? =some s->W.cell? ⟨0,j,none⟩=some (.string s):=by
  intro j s b;have k:j<22:=by have:=(AAI.1 b).1;exact this
  have a:(w.map (·.1))[j]? =some (.lit (.string s.data.toList)):=by rw[← p.1,AAR,b];rfl
  rw[AAR]at a;cases hxs:w[j]? with
  |none=>rw[hxs]at a;cases a
  |some y=>have u:=g j k;rw[hxs,ce]at u;obtain⟨e,B,D,_⟩:=DataW.trod_string Tryz.underlying9 u;rw[hxs]at a;simp only[AAk,AAG]at a;rw[D]at a;simp only[DataW.lit.injEq,Lit.string.injEq]at a;have l:e=s:=ByteArray.ext (Array.toList_inj.1 a);subst l;rw[World.var?_cell gName o j];have:(c.toList.drop (j*1)).take 1=[.string e]:=B;rw[Nat.mul_one]at this;have d:c.toList[j]? =some (.string e):=(by have C:((c.toList.drop j).take 1)[0]? =some (.string e):=(by rw[this];rfl);simpa using C);simpa using d
 intro x q;have:x=(0,Km.map Value.string):=by simpa[Gam]using q
 subst this;have d:=r 0 _ rfl;obtain⟨_,z⟩:=nF d;refine⟨z,?_⟩;unfold World.cell? at d;cases hb:W.heap[0]? with
 |none=>simp[hb]at d
 |some Lh=>
  cases Lh with
  |cells arr E fz=>
   refine⟨arr,E,fz,rfl,λj v b=> ?_⟩;rw[AAR]at b;cases hs:Km[j]? with
   |none=>rw[hs]at b;cases b
   |some s=>
    rw[hs]at b;simp only[AAk,AAG]at b;subst b
    have:=r j s hs;unfold World.cell? at this;simpa[hb]using this
  |_=>simp[hb]at d
end Go.Abs
namespace Go.Abs
theorem u8_of {x:Int} (h:Mo x):0≤x/\x<256:=by unfold Mo Lit.wf at h;simp only[AAH,AAZ]at h;have c:=h.1;have d:=h.2;have a:IntKind.u8.min=0:=rfl;have b:IntKind.u8.max=255:=rfl;omega
theorem WSpoils_law {p s:List Int} {i j c b d:Int} (f:SY p) (hi:Mo i) (e:Mo j) (a:Mo b):C1 p s i j c b d=some true:=pV (λx g=>u8_of (f.all x g)) (u8_of hi) (u8_of e) (u8_of a)
end Go.Abs
