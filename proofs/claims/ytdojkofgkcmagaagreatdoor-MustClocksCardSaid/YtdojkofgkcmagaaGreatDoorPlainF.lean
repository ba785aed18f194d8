/- What the typed programs give, in plain Lean. -/
import Derived.Test.YtdojkofgkcmagaaGreatDoorPlainE
import Derived.Test.YtdojkofgkcmagaaGreatDoorRows
import Derived.Test.YtdojkofgkcmagaaGreatDoorTie
import Derived.ProofKit
import Derived.LaidMore
import Derived.OpenShut
import Derived.Shelf.Slices.SearchI
set_option linter.all false
namespace Go.Abs
variable{g j:Int->Bool}{f:Jt}{b:Type}{i x:Int}{d:Nat}{l:Cu}{n:AH}
section
set_option maxHeartbeats 4000000
def IV(P:Int->Bool)(l:Int)(ord:iT):Int:=ord.foldl (λl x=>if P x=true then x else l) l
theorem uD(P:Int->Bool)(l:Int)(a:iT)(x:Int):IV P l (a++[x])=if P x=true then x else IV P l a:=by simp[IV,List.foldl_append]
theorem ZZ(P:Int->Bool):∀(a:iT)(l:Int),(IV P l a=l/\∀x∈a,P x=false)\/(IV P l a∈a/\P (IV P l a)):=by intro a;induction a with|nil=>exactλl=>.inl ⟨rfl,λx d=>by cases d⟩|cons x a ih=>intro l;have e:IV P l (x::a)=IV P (if P x=true then x else l) a:=rfl;rw[e];cases d:P x with|true=>(rw[AAQ rfl];rcases ih x with⟨b,c⟩|⟨b,c⟩);exact .inr ⟨by rw[b];simp,by rw[b];exact d⟩;exact .inr ⟨ABP _ b,c⟩|false=>(rw[AAP ak];rcases ih l with⟨b,c⟩|⟨b,c⟩);exact .inl ⟨b,λy f=>by rcases AAk.1 f with rfl|f;exact d;exact c y f⟩;exact .inr ⟨ABP _ b,c⟩
def lI(w:AF)(k o x:Int):Bool:=(ix w.AA x).da==k&&(ix w.AA x).di==o
theorem nT(h:∀x,g x=j x)(l:Int)(a:iT):IV g l a=IV j l a:=by have:g=j:=funext h;rw[this]
def Mh(w:AF)(c:Jt)(k:Nat):Prop:=∀x∈Dc w (ev w k).cT (ev w k).DL,ix c.JU x=true
structure CIw (w:AF) (c:Jt):Prop where
 o:∀q:Nat,q<w.AA.length->ix c.JU (q:Int)=true->(q:Int)∈c.dv
 ce:∀b,B4 b w.db.dg.length=true->(ix c.dg b).UK=true->(IV (lI w 4 b) (-1) c.dv= -1/\(ix c.dg b).dm=ix w.de.dg b)\/∃k:Nat,IV (lI w 4 b) (-1) c.dv=(k:Int)/\k<w.AA.length/\(ix c.dg b).dm=(ev w k).dm/\Mh w c k
 fu:∀b,B4 b w.db.AM.length=true->(ix c.AM b).UK=true->(IV (lI w 22 b) (-1) c.dv= -1/\(ix c.AM b).dm=ix w.de.AM b)\/∃k:Nat,IV (lI w 22 b) (-1) c.dv=(k:Int)/\k<w.AA.length/\(ix c.AM b).dm=(ev w k).dm/\Mh w c k
 xr:∀q:Nat,q<w.AA.length->ix c.JU (q:Int)=true->∃pre post,c.dv=pre++(q:Int)::post/\IV (λx=>Ho (ix w.AA x) (ev w q)) (-1) pre∈IZ w (q:Int)/\∀k:Nat,IV (λx=>Ho (ix w.AA x) (ev w q)) (-1) pre=(k:Int)->(k:Int)∈pre/\Mh w c k
theorem Mh.mono{w:AF}{c:Jt}{k:Nat}(b:∀q:Nat,q<w.AA.length->ix c.JU (q:Int)=true->ix f.JU (q:Int)=true)(h:Mh w c k):Mh w f k:=by intro x a;obtain⟨m,d,e,_⟩:=WM x a;rw[e];exact b m d (by have:=h x a;rw[e]at this;exact this)
theorem CIw.step{w:AF}(hw:WQ w){K:Nat}{c c':Jt}{i:Nat}{wake:Int}(g:GIw w K c)(hr:Reach w c)(s:StepR w c c' i wake)(h:CIw w c):CIw w c':=by
 have vX:=s.hi;have v:=(Y7 s.en).2.1;have G:∀q:Nat,q<w.AA.length->q≠i->ix c'.JU (q:Int)=ix c.JU (q:Int):=by
  intro q f Km;rcases s.fx with⟨b,e,_⟩|⟨_,_,e⟩
  rw[e];unfold ix;rw[show((q:Int)).toNat=q from by omega,AAY ah];rw[e]
 have U:∀q:Nat,q<w.AA.length->ix c.JU (q:Int)=true->ix c'.JU (q:Int)=true:=by intro q f a;rw[G q f λe=>s.no (e▸h.o q f a)];exact a
 have F:∀q:Nat,q<w.AA.length->ix c'.JU (q:Int)=true->ix c.JU (q:Int)=true\/q=i:=by intro q f a;by_cases e:q=i;exact .inr e;rw[G q f e]at a;exact .inl a
 have lst:∀(k b:Int),IV (lI w k b) (-1) c'.dv=if(ev w i).da=k/\(ev w i).di=b then(i:Int)else IV (lI w k b) (-1) c.dv:=by intro k b;rw[s.od,uD];unfold lI ev;by_cases e:(ix w.AA (i:Int)).da=k/\(ix w.AA (i:Int)).di=b;rw[AAQ e,AAQ (by simp[e])];rw[AAP e,AAP (by simpa using e)]
 have D:∀(k b:Int)(C B I:List LQ)(V:iT)(n:Nat),B4 b n->C.length=n->((ev w i).da=k/\(∃x:LQ,B=C.set (ev w i).di.toNat x/\(x.UK=true->x.dm=(ev w i).dm/\∀q∈Dc w (ev w i).cT (ev w i).DL,ix c.JU q=true))\/((ev w i).da≠k/\B=C))->((ev w i).da=k->B4 (ev w i).di n)->((ix C b).UK=true->(IV (lI w k b) (-1) c.dv= -1/\(ix C b).dm=ix V b)\/∃m:Nat,IV (lI w k b) (-1) c.dv=(m:Int)/\m<w.AA.length/\(ix C b).dm=(ev w m).dm/\Mh w c m)->(ix B b).UK->(IV (lI w k b) (-1) c'.dv= -1/\(ix B b).dm=ix V b)\/∃m:Nat,IV (lI w k b) (-1) c'.dv=(m:Int)/\m<w.AA.length/\(ix B b).dm=(ev w m).dm/\Mh w c' m:=by
  intro k b C B I V n j hl hC J hold t;have YH:=As.1 j;rw[lst k b];rcases hC with⟨E,x,H,X⟩|⟨E,H⟩
  have hO':=As.1 (J E);by_cases eo:(ev w i).di=b;rw[AAQ ⟨E,eo⟩];have hx:ix B b=x:=(by rw[H,eo];unfold ix;rw[AAR (by omega)];rfl);rw[hx]at t |-;obtain⟨d,g2⟩:=X t;exact .inr ⟨i,rfl,vX,d,Mh.mono U g2⟩;(rw[AAP λx=>eo x.2];have hx:ix B b=ix C b:=(by rw[H];unfold ix;rw[AAY (by omega)]);rw[hx]at t |-;rcases hold t with y|⟨m,y,z,M,N⟩);exact .inl y;exact .inr ⟨m,y,z,M,N.mono U⟩;(rw[AAP λx=>E x.1];rw[H]at t |-;rcases hold t with y|⟨m,y,z,M,N⟩);exact .inl y;exact .inr ⟨m,y,z,M,N.mono U⟩
 have hO4:(ev w i).da=4->B4 (ev w i).di w.db.dg.length:=λk=>by unfold A8 at v;rw[k]at v;simpa using v
 have O:(ev w i).da=22->B4 (ev w i).di w.db.AM.length:=λk=>by unfold A8 at v;rw[k]at v;simpa using v
 refine⟨λq f a=>?_,λb j t=>D 4 b c.dg c'.dg [] w.de.dg _ j g.l s.ce hO4 (h.ce b j) t,λb j t=>D 22 b c.AM c'.AM [] w.de.AM _ j g.u s.fu O (h.fu b j) t,λq f a=>?_⟩;(rw[s.od];rcases F q f a with a|rfl);exact AA4 _ (h.o q f a);exact ABi _ ak;by_cases T:q=i;(subst T;have eq:ix w.AA (q:Int)=ev w q:=rfl;have Lt:B4 (q:Int) w.AA.length:=As.2 ⟨ah,ah⟩;refine⟨c.dv,[],s.od,?_⟩;rcases s.fx with⟨b,e,j⟩|⟨_,_,e⟩);(have P:b=true:=by rw[e]at a;unfold ix at a;rw[show((q:Int)).toNat=q from by omega,AAR (by rw[g.x];exact f)]at a;exact a);(have mk:∀(k kd:Int)(o:Int),(ev w q).da=kd->(kd=3/\k=4\/kd=23/\k=22)->(ev w q).di=o->((IV (lI w k o) (-1) c.dv= -1/\La w (ev w q))\/∃m:Nat,IV (lI w k o) (-1) c.dv=(m:Int)/\m<w.AA.length/\(ev w q).dm=(ev w m).dm/\Mh w c m)->IV (λx=>Ho (ix w.AA x) (ev w q)) (-1) c.dv∈IZ w (q:Int)/\∀m:Nat,IV (λx=>Ho (ix w.AA x) (ev w q)) (-1) c.dv=(m:Int)->(m:Int)∈c.dv/\Mh w c' m:=by(intro k kd o Q R ho hl;have hP:∀x,Ho (ix w.AA x) (ev w q)=lI w k o x:=(by intro x;unfold Ho lI;rw[Q,ho];rcases R with⟨rfl,rfl⟩|⟨rfl,rfl⟩<;>cases(ix w.AA x).di==o<;>cases(ix w.AA x).da==4<;>cases(ix w.AA x).da==22<;>rfl);rw[nT hP];have xJ:(ix w.AA (q:Int)).da=3\/(ix w.AA (q:Int)).da=23:=by(rw[eq,Q];rcases R with⟨h,_⟩|⟨h,_⟩);exact .inl h;exact .inr h);(rcases hl with⟨y,z⟩|⟨m,y,z,M,N⟩);rw[y];refine⟨?_,λm hm=>ah⟩;unfold IZ;rw[AAQ ⟨Lt,xJ⟩,eq,AAQ z];exact AA4 _ (AAg.2 rfl);(rcases ZZ (lI w k o) c.dv (-1)with⟨d,_⟩|⟨d,g2⟩);omega;rw[y]at d g2 |-;refine⟨?_,λm' V3=>?_⟩;unfold IZ;rw[AAQ ⟨Lt,xJ⟩,eq];refine ABi _ ?_;have em:ev w m=w.AA[m]:=CH z;have eqq:ev w q=w.AA[q]:=CH f;have:=eR (w:=w) (n:=(q:Int)) (r:=ev w q) w.AA 0 m z ?_;simpa using this;unfold Mn;rw[<- em];have OT:Ho (ev w m) (ev w q):=(by have:=hP (m:Int);rw[this];exact g2);rw[OT,M];simp only[BEq.rfl,AAj,AA5,Bool.and_eq_false_iff,ABf,decide_eq_false_iff_not];by_cases ht:(ev w m).cT=(ev w q).cT;right;intro EU;refine s.no (g.p q m ah z ?_ d);rw[<- em,<- eqq];exact ht.symm;exact .inl ht;obtain rfl:m'=m:=ah;exact⟨d,N.mono U⟩);(rcases j with⟨k3,j⟩|⟨Z,j⟩);(obtain⟨b1,L⟩:=j P;have J:B4 (ev w q).di w.db.dg.length:=(by unfold A8 at v;rw[k3]at v;simpa using v);refine mk 4 3 _ k3 (.inl ⟨rfl,rfl⟩) rfl ?_;rcases h.ce _ J b1 with⟨d,g2⟩|⟨m,d,g2,g3,g4⟩);exact .inl ⟨d,by unfold La;rw[AAP ah,<- g2,L];simp⟩;exact .inr ⟨m,d,g2,by rw[<- L,g3],g4⟩;(obtain⟨b1,L⟩:=j P;have J:B4 (ev w q).di w.db.AM.length:=(by unfold A8 at v;rw[Z]at v;simpa using v);refine mk 22 23 _ Z (.inr ⟨rfl,rfl⟩) rfl ?_;rcases h.fu _ J b1 with⟨d,g2⟩|⟨m,d,g2,g3,g4⟩);(refine .inl ⟨d,?_⟩;have hd:ix c.dc.Bs (ev w q).di=true:=(by have hR:=(Y7 s.en).2.2.1;unfold Du at hR;rw[Z]at hR;simp at hR;exact hR.2);have Jy:∀m:Nat,(m:Int)∈c.dv->¬((ev w m).da=22/\(ev w m).di=(ev w q).di):=by(rcases ZZ (lI w 22 (ev w q).di) c.dv (-1)with⟨_,k2⟩|⟨k1,k2⟩);intro m hm S;have:=k2 _ hm;unfold lI at this;have E:(ix w.AA (m:Int))=ev w m:=rfl;rw[E,S.1,S.2]at this;simp at this;rw[d]at k1;obtain⟨m,_,hm⟩:=reach_ord hr _ k1;omega);rw[uW J hr Jy]at hd;unfold La;rw[AAQ Z,hd,<- g2,L];simp;exact .inr ⟨m,d,g2,by rw[<- L,g3],g4⟩;rw[e]at a;exact absurd (h.o q f a) s.no;have hf':ix c.JU (q:Int)=true:=(by rw[G q f T]at a;exact a);obtain⟨pre,W,E,H,X⟩:=h.xr q f hf';refine⟨pre,W++[(i:Int)],by rw[s.od,E];simp,H,λk t=>⟨(X k t).1,(X k t).2.mono U⟩⟩
instance:Inhabited KW:=⟨⟨0,0,[]⟩⟩
def accB(wv:AG)(e:AH):Bool:=(e.da==3||e.da==4)&& !(ix wv.dg e.di).Hh
def yA(wv:AG)(i:Int)(e:AH)(h:UL)(s:nr):List KW×List Int:=
 if accB wv e=true then
  let r:=PF (ix s.1 e.di) e.cT (e.da==4) h
  (s.1.set e.di.toNat r.1,if r.2=true/\ix s.2 e.di<0 then s.2.set e.di.toNat i else s.2)
 else s
def CE(wv:AG)(e:AH):Prop:=e.da=3\/e.da=4->B4 e.di wv.dg.length=true
structure WS (n:Nat) (s:List KW×List Int):Prop where
 a:s.1.length=n
 b:s.2.length=n
 e:∀x∈s.1,EI x
theorem ix_mem[Inhabited b]{l:List b}(h:B4 i l.length):ix l i∈l:=by have:=Bv h;unfold gt at this;split at this;exact AAZ this;cases this
theorem WS.step{n:Nat}{wv:AG}(hn:n=wv.dg.length){s:nr}(c:WS n s){e:AH}(g:CE wv e){h:UL}(j:HL h)(i:Int):WS n (yA wv i e h s):=by unfold yA;split;rename_i d;have k:e.da=3\/e.da=4:=(by unfold accB at d;simp at d;exact d.1);have hi:B4 e.di s.1.length:=(by rw[c.a,hn];exact g k);refine⟨by simpa using c.a,?_,λx f=>?_⟩;simp only;split<;>simpa using c.b;(rcases AA2 f with f|rfl);exact c.e x f;exact(c.e _ (ix_mem hi)).step j;exact c
theorem fill{L:Nat->List Int->Int->ABm b}{R:List Int->ABm b}(f:d<=1000)(c:∀(n i:Nat)(l:iT),i<d->l.length=d->L (n+1) l (i:Int)=L n (l.set i (-1)) ((i+1:Nat):Int))(a:∀n l,L (n+1) l (d:Int)=R l):∀(n i:Nat),i<=d->d<n+i->L n (List.replicate i (-1)++List.replicate (d-i) 0) (i:Int)=R (List.replicate d (-1))|0,i,h1,h2=>ah|n+1,i,h1,h2=>by by_cases hi:i<d;have N:d-i=(d-(i+1))+1:=ah;rw[c n i _ hi an,N,List.replicate_succ];have e:(List.replicate i (-1:Int)++(0:Int)::List.replicate (d-(i+1)) 0).set i (-1)=List.replicate (i+1) (-1)++List.replicate (d-(i+1)) 0:=(by have:=set_mid (List.replicate i (-1:Int)) 0 (-1) (List.replicate (d-(i+1)) 0);rw[ABh]at this;rw[this,ABk];simp);rw[e];exact fill f c a n (i+1) ah ah;obtain rfl:i=d:=ah;rw[a];simp
theorem AT.ce(h:AT l)(d:n∈l.AA):CE l.db n:=by intro a;obtain⟨i,hi,rfl⟩:=ABR d;have b:=h.poss hi;unfold ET CN at b;simp only[AAL]at b;have c:=b.2.2.1.2.2.1;unfold A8 at c;rcases a with a|a<;>simpa[a]using c
theorem ix_set_eq[Inhabited b]{l:List b}(h:B4 i l.length)(a:b):ix (l.set i.toNat a) i=a:=by have h:=As.1 h;unfold ix;rw[AAR ah];rfl
theorem fH[Inhabited b]{l:List b}(hi:0<=i)(c:0<=x)(h:i≠x)(a:b):ix (l.set i.toNat a) x=ix l x:=by unfold ix;rw[AAY ah]
def holdB(c k:Int)(x:AH×UL):Bool:= !((x.1.da==3||x.1.da==4)&&x.1.di==c)||(x.2.Re.contains k||(x.1.da==3&&x.2.rH.contains k))
def DI(c k:Int)(s:nr):Prop:=((ix s.1 c).ed=0\/(ix s.1 c).ed=1\/k∈(ix s.1 c).AK)/\ix s.2 c<0
theorem DI.step{wv:AG}{c k:Int}{s:nr}(h:DI c k s)(r:WS wv.dg.length s)(p:B4 c wv.dg.length){e:AH}{hd:UL}(q:CE wv e)(d:holdB c k (e,hd))(i:Int):DI c k (yA wv i e hd s):=by unfold yA;split;rename_i l;dsimp only;have f:e.da=3\/e.da=4:=(by unfold accB at l;simp at l;exact l.1);have hi:=q f;have t:=As.1 hi;have u:=As.1 p;by_cases b:e.di=c;(subst b;have m:k∈Ly (e.da==4) hd:=by(unfold holdB at d;simp only[ABK,Bool.and_true,AAo,AA5,AAL,AAp]at d;unfold Ly;rw[Kp];rcases f with f|f);simp[f]at d |-;exact d;simp[f]at d |-;exact d);(have n:(PF (ix s.1 e.di) e.cT (e.da==4) hd).2=false/\((PF (ix s.1 e.di) e.cT (e.da==4) hd).1.ed=1\/k∈(PF (ix s.1 e.di) e.cT (e.da==4) hd).1.AK):=by unfold PF;split;exact⟨rfl,.inl rfl⟩;(rename_i hn;have o:k∈(if(ix s.1 e.di).ed=1 then Ly (e.da==4) hd else(ix s.1 e.di).AK.filter (Ly (e.da==4) hd).contains):=by split;exact m;(rename_i j;rcases h.1 with g|g|g);exact absurd (.inl g) hn;exact absurd g j;exact List.mem_filter.2 ⟨g,by simpa using m⟩);(refine⟨?_,.inr o⟩;have:((if(ix s.1 e.di).ed=1 then Ly (e.da==4) hd else(ix s.1 e.di).AK.filter (Ly (e.da==4) hd).contains).length:Int)≠0:=by have:=List.length_pos_of_mem o;omega);simp only[Bool.and_eq_false_iff,ABf];exact .inr this);unfold DI;dsimp only;rw[ix_set_eq (by rw[r.a];exact hi),AAP (by rw[n.1];simp)];exact⟨n.2.elim (λg=>.inr (.inl g)) λg=>.inr (.inr g),h.2⟩;unfold DI;dsimp only;rw[fH ah ah b];refine⟨h.1,?_⟩;split;rw[fH ah ah b];exact h.2;exact h.2;exact h
end
variable{o:jj}
section
open Go.Proofs Go.RowKit
set_option maxRecDepth 100000
set_option maxHeartbeats 4000000
theorem Pd{e:b->List AV}{ok:b->Prop}:∀(rows:jh),(∀row∈rows,∃x:b,row=e x/\ok x)->∃l:List b,rows=l.map e/\∀x∈l,ok x
 |[],_=>⟨[],rfl,λ_ h=>by simp at h⟩
 |r::rs,h=>by
  obtain⟨l,d,f⟩:=Pd rs (λrow g=>h row (by simp[g]));obtain⟨x,i,a⟩:=h r ak;refine⟨x::l,by rw[i,d];rfl,λy c=>?_⟩;rcases AAk.1 c with rfl|c
  exact a;exact f y c
def Tm(x:Int):Prop:=(Lit.int .u8 x).wf=true
structure N4 (x:List Int):Prop where
 len:x.length*1<=reachBytes
 all:∀y∈x,Tm y
structure okView (x:O1):Prop where
 f0:N4 x.ez
 f1:N4 x.HU
 f2:N4 x.rC
 f3:Tm x.Ca
 f4:Tm x.qH
def op5:JM Tryz.prog 5 (λa=>∃x:Int,a=[.sc (.int .u8 x)]/\Tm x):=(lN Tryz.underlying5).mono λ_ ⟨n,h,b⟩=>⟨n,h,b⟩
theorem op22:JM Tryz.prog 22 (λb=>∃x:List Int,b=[vS 1 lG x]/\N4 x):=by
 refine(MH (k:=1) Tryz.underlying22 (by kernel_rfl) ah op5).mono ?_;rintro b ⟨rows,rfl,f,c⟩;obtain⟨l,rfl,d⟩:=Pd (e:=lG) (ok:=Tm) rows λrow h=>(f row h).1;have a:Tryz.prog.bytesOf 5=1:=by kernel_rfl
 rw[a,AAt]at c;exact⟨l,rfl,c,d⟩
theorem op24:JM Tryz.prog 24 (λa=>∃x:O1,a=lF x/\okView x):=by refine(Lo (Xs:=[λa=>∃x:List Int,a=[vS 1 lG x]/\N4 x,λa=>∃x:List Int,a=[vS 1 lG x]/\N4 x,λa=>∃x:List Int,a=[vS 1 lG x]/\N4 x,λa=>∃x:Int,a=[.sc (.int .u8 x)]/\Tm x,λa=>∃x:Int,a=[.sc (.int .u8 x)]/\Tm x]) Tryz.underlying24 ⟨by kernel_rfl,op22,⟨by kernel_rfl,op22,⟨by kernel_rfl,op22,⟨by kernel_rfl,op5,⟨by kernel_rfl,op5,trivial⟩⟩⟩⟩⟩ (by kernel_rfl)).mono ?_;rintro a ⟨a0,p,rfl,⟨g,rfl,b⟩,⟨l,q,rfl,⟨h,rfl,c⟩,⟨m,r,rfl,⟨i,rfl,d⟩,⟨n,s,rfl,⟨j,rfl,e⟩,⟨o,t,rfl,⟨k,rfl,f⟩,rfl⟩⟩⟩⟩⟩;exact⟨⟨g,h,i,j,k⟩,rfl,⟨b,c,d,e,f⟩⟩
theorem arg24(a:ji):gR Tryz.prog 24 a=.agg a:=by unfold gR;rw[Tryz.underlying24];rfl
theorem laid:laidOutB Tryz.prog:=by kernel_rfl
theorem own0:ownKnob Tryz.prog.godebug=none:=by kernel_rfl
abbrev nS:List (String×DataW Unit):=[("interleave/token.keywords",Go.Proofs.YtdojkofgkcmagaaGreatDoor.Rows.laid_interleave_token_keywords)]
theorem gName:Tryz.prog.globalNamed "interleave/token.keywords" =some 0:=by kernel_rfl
theorem gType:(Tryz.prog.globals[0]?).map (·.type)=some 293:=by kernel_rfl
theorem laidDatum:(Go.Proofs.YtdojkofgkcmagaaGreatDoor.Rows.laid_interleave_token_keywords:DataW Unit)=.agg (Mq.map λs=>.lit (.string s.data.toList)):=rfl
theorem sV(h:laidMetH Tryz.prog nS o):GI o (Old o):=by
 rw[MakeChecks.laidMetH_plain _ _ _ (by kernel_rfl)]at h;obtain⟨G,⟨g0,I,c,f0,F,H,i,n,W,f,_,_⟩,_,_⟩:=h;obtain rfl:=AAO (gName.symm.trans i);obtain rfl:=AAO (gType.symm.trans n);obtain⟨w,m,rfl,p,t,hn,g⟩:=DataW.trod_array Tryz.underlying293 f;have ce:Tryz.prog.cellsOf 9=1:=by kernel_rfl
 rw[laidDatum]at p;simp only[AAa,DataW.agg.injEq]at p;have r:∀(j:Nat) s,Mq[j]? =some s->o.cell? ⟨0,j,none⟩=some (.string s):=by
  intro j s b;have k:j<22:=by have:=(AAN.1 b).1;exact this
  have a:(w.map (·.1))[j]? =some (.lit (.string s.data.toList)):=by rw[<- p.1,AAX,b];rfl
  rw[AAX]at a;cases hxs:w[j]? with|none=>rw[hxs]at a;cases a|some y=>have u:=g j k;rw[hxs,ce]at u;obtain⟨e,B,D,_⟩:=DataW.trod_string Tryz.underlying9 u;rw[hxs]at a;simp only[AAv,AAM]at a;rw[D]at a;simp only[DataW.lit.injEq,Lit.string.injEq]at a;have l:e=s:=ByteArray.ext (Array.toList_inj.1 a);subst l;rw[World.var?_cell gName W j];have:(c.toList.drop (j*1)).take 1=[.string e]:=B;rw[Nat.mul_one]at this;have d:c.toList[j]? =some (.string e):=(by have C:((c.toList.drop j).take 1)[0]? =some (.string e):=(by rw[this];rfl);simpa using C);simpa using d
 intro x q;have:x=(0,Mq.map Value.string):=by simpa[Gam]using q
 subst this;have d:=r 0 _ rfl;obtain⟨_,z⟩:=wM d;refine⟨z,?_⟩;unfold World.cell? at d;cases hb:o.heap[0]? with|none=>simp[hb]at d|some NT=>cases NT with|cells arr E fz=>(refine⟨arr,E,fz,rfl,λj v b=>?_⟩;rw[AAX]at b;cases hs:Mq[j]? with|none=>rw[hs]at b;cases b|some s=>rw[hs]at b;simp only[AAv,AAM]at b;subst b;have:=r j s hs;unfold World.cell? at this;simpa[hb]using this)|_=>simp[hb]at d
end
theorem u8_of(h:Tm x):0<=x/\x<256:=by unfold Tm Lit.wf at h;simp only[AAL,AAe]at h;have c:=h.1;have d:=h.2;have a:IntKind.u8.min=0:=rfl;have b:IntKind.u8.max=255:=rfl;omega
variable{m:ABm Bool}
theorem true_of(h:CX m λb=>b=true):m=some true:=by obtain⟨b,h,rfl⟩:=h;exact h
variable{c:iT}
def uK(h:N4 c):eC c:=λx a=>u8_of (h.all x a)
theorem len_in(h:N4 c):c.length<=4000000000000000000:=by have:=h.len;unfold reachBytes at this;omega
variable{a:O1}
def view_in(h:okView a):ViewOK a:=⟨uK h.f0,uK h.f1,uK h.f2,u8_of h.f3,u8_of h.f4⟩
def MClocks_law(h:okView a):HJ a=some true:=true_of (MClocks_tot (view_in h) (len_in h.f0))
end Go.Abs
