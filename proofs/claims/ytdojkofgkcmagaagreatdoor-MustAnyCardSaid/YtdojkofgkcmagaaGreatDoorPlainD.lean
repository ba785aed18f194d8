/- What the typed programs give, in plain Lean. -/
import Derived.Test.YtdojkofgkcmagaaGreatDoorPlainC
import Derived.Test.YtdojkofgkcmagaaGreatDoorRows
import Derived.Test.YtdojkofgkcmagaaGreatDoorTie
import Derived.ProofKit
import Derived.LaidMore
import Derived.OpenShut
import Derived.Shelf.Slices.SearchI
set_option linter.all false
namespace Go.Abs
variable{w:AF}{c c':Jt}{o i:Int}{d e:Int->Bool}{b:Type}{f:Cu}{k:AH}
section
set_option maxHeartbeats 4000000
theorem reach_ord(h:Reach w c):∀x∈c.dv,∃m:Nat,m<w.AA.length/\x=(m:Int):=by
 induction h with
 |start=>intro x a;cases a
 |step g h s ih=>
  intro x a;rw[s.od]at a;rcases AAc.1 a with a|a
  exact ih x a;exact⟨_,s.hi,AAg.1 a⟩
theorem uW(e:B4 o w.db.AM.length)(h:Reach w c):(∀i:Nat,(i:Int)∈c.dv->¬((ev w i).da=22/\(ev w i).di=o))->ix c.dc.Bs o=ix w.de.dc.Bs o:=by induction h with|start=>intro _;rfl| @step K c c' i wake g h s ih=>intro a;have b:=ih λm d=>a m (by rw[s.od];exact AA4 _ d);rw[s.sy,AAH s.en e,AAP (a i (by rw[s.od];simp))];exact b
def IV(P:Int->Bool)(l:Int)(ord:iT):Int:=ord.foldl (λl x=>if P x=true then x else l) l
theorem uD(P:Int->Bool)(l:Int)(a:iT)(x:Int):IV P l (a++[x])=if P x=true then x else IV P l a:=by simp[IV,List.foldl_append]
theorem ZZ(P:Int->Bool):∀(a:iT)(l:Int),(IV P l a=l/\∀x∈a,P x=false)\/(IV P l a∈a/\P (IV P l a)):=by intro a;induction a with|nil=>exactλl=>.inl ⟨rfl,λx d=>by cases d⟩|cons x a ih=>intro l;have e:IV P l (x::a)=IV P (if P x=true then x else l) a:=rfl;rw[e];cases d:P x with|true=>(rw[AAQ rfl];rcases ih x with⟨b,c⟩|⟨b,c⟩);exact .inr ⟨by rw[b];simp,by rw[b];exact d⟩;exact .inr ⟨ABP _ b,c⟩|false=>(rw[AAP ak];rcases ih l with⟨b,c⟩|⟨b,c⟩);exact .inl ⟨b,λy f=>by rcases AAk.1 f with rfl|f;exact d;exact c y f⟩;exact .inr ⟨ABP _ b,c⟩
def lI(w:AF)(k o x:Int):Bool:=(ix w.AA x).da==k&&(ix w.AA x).di==o
theorem nT(h:∀x,d x=e x)(l:Int)(a:iT):IV d l a=IV e l a:=by have:d=e:=funext h;rw[this]
def Mh(w:AF)(c:Jt)(k:Nat):Prop:=∀x∈Dc w (ev w k).cT (ev w k).DL,ix c.JU x=true
structure CIw (w:AF) (c:Jt):Prop where
 o:∀q:Nat,q<w.AA.length->ix c.JU (q:Int)=true->(q:Int)∈c.dv
 ce:∀b,B4 b w.db.dg.length=true->(ix c.dg b).UK=true->(IV (lI w 4 b) (-1) c.dv= -1/\(ix c.dg b).dm=ix w.de.dg b)\/∃k:Nat,IV (lI w 4 b) (-1) c.dv=(k:Int)/\k<w.AA.length/\(ix c.dg b).dm=(ev w k).dm/\Mh w c k
 fu:∀b,B4 b w.db.AM.length=true->(ix c.AM b).UK=true->(IV (lI w 22 b) (-1) c.dv= -1/\(ix c.AM b).dm=ix w.de.AM b)\/∃k:Nat,IV (lI w 22 b) (-1) c.dv=(k:Int)/\k<w.AA.length/\(ix c.AM b).dm=(ev w k).dm/\Mh w c k
 xr:∀q:Nat,q<w.AA.length->ix c.JU (q:Int)=true->∃pre post,c.dv=pre++(q:Int)::post/\IV (λx=>Ho (ix w.AA x) (ev w q)) (-1) pre∈IZ w (q:Int)/\∀k:Nat,IV (λx=>Ho (ix w.AA x) (ev w q)) (-1) pre=(k:Int)->(k:Int)∈pre/\Mh w c k
theorem Mh.mono{k:Nat}(b:∀q:Nat,q<w.AA.length->ix c.JU (q:Int)=true->ix c'.JU (q:Int)=true)(h:Mh w c k):Mh w c' k:=by intro x a;obtain⟨m,d,e,_⟩:=WM x a;rw[e];exact b m d (by have:=h x a;rw[e]at this;exact this)
theorem CIw.step{w:AF}(hw:WQ w){K:Nat}{c c':Jt}{i:Nat}{wake:Int}(g:GIw w K c)(hr:Reach w c)(s:StepR w c c' i wake)(h:CIw w c):CIw w c':=by
 have vX:=s.hi;have v:=(Y7 s.en).2.1;have G:∀q:Nat,q<w.AA.length->q≠i->ix c'.JU (q:Int)=ix c.JU (q:Int):=by
  intro q f Km;rcases s.fx with⟨b,e,_⟩|⟨_,_,e⟩
  rw[e];unfold ix;rw[show((q:Int)).toNat=q from by omega,AAY ah];rw[e]
 have U:∀q:Nat,q<w.AA.length->ix c.JU (q:Int)=true->ix c'.JU (q:Int)=true:=by intro q f a;rw[G q f λe=>s.no (e▸h.o q f a)];exact a
 have F:∀q:Nat,q<w.AA.length->ix c'.JU (q:Int)=true->ix c.JU (q:Int)=true\/q=i:=by intro q f a;by_cases e:q=i;exact .inr e;rw[G q f e]at a;exact .inl a
 have lst:∀(k b:Int),IV (lI w k b) (-1) c'.dv=if(ev w i).da=k/\(ev w i).di=b then(i:Int)else IV (lI w k b) (-1) c.dv:=by intro k b;rw[s.od,uD];unfold lI ev;by_cases e:(ix w.AA (i:Int)).da=k/\(ix w.AA (i:Int)).di=b;rw[AAQ e,AAQ (by simp[e])];rw[AAP e,AAP (by simpa using e)]
 have D:∀(k b:Int)(C B I:List LQ)(V:iT)(n:Nat),B4 b n->C.length=n->((ev w i).da=k/\(∃x:LQ,B=C.set (ev w i).di.toNat x/\(x.UK=true->x.dm=(ev w i).dm/\∀q∈Dc w (ev w i).cT (ev w i).DL,ix c.JU q=true))\/((ev w i).da≠k/\B=C))->((ev w i).da=k->B4 (ev w i).di n)->((ix C b).UK=true->(IV (lI w k b) (-1) c.dv= -1/\(ix C b).dm=ix V b)\/∃m:Nat,IV (lI w k b) (-1) c.dv=(m:Int)/\m<w.AA.length/\(ix C b).dm=(ev w m).dm/\Mh w c m)->(ix B b).UK->(IV (lI w k b) (-1) c'.dv= -1/\(ix B b).dm=ix V b)\/∃m:Nat,IV (lI w k b) (-1) c'.dv=(m:Int)/\m<w.AA.length/\(ix B b).dm=(ev w m).dm/\Mh w c' m:=by
  intro k b C B I V n j hl hC J hold t;have YH:=As.1 j;rw[lst k b];rcases hC with⟨E,x,H,X⟩|⟨E,H⟩
  have hO':=As.1 (J E);by_cases eo:(ev w i).di=b;rw[AAQ ⟨E,eo⟩];have hx:ix B b=x:=(by rw[H,eo];unfold ix;rw[AAR (by omega)];rfl);rw[hx]at t |-;obtain⟨d,g2⟩:=X t;exact .inr ⟨i,rfl,vX,d,Mh.mono U g2⟩;(rw[AAP λx=>eo x.2];have hx:ix B b=ix C b:=(by rw[H];unfold ix;rw[AAY (by omega)]);rw[hx]at t |-;rcases hold t with y|⟨m,y,z,M,N⟩);exact .inl y;exact .inr ⟨m,y,z,M,N.mono U⟩;(rw[AAP λx=>E x.1];rw[H]at t |-;rcases hold t with y|⟨m,y,z,M,N⟩);exact .inl y;exact .inr ⟨m,y,z,M,N.mono U⟩
 have hO4:(ev w i).da=4->B4 (ev w i).di w.db.dg.length:=λk=>by unfold A8 at v;rw[k]at v;simpa using v
 have O:(ev w i).da=22->B4 (ev w i).di w.db.AM.length:=λk=>by unfold A8 at v;rw[k]at v;simpa using v
 refine⟨λq f a=>?_,λb j t=>D 4 b c.dg c'.dg [] w.de.dg _ j g.l s.ce hO4 (h.ce b j) t,λb j t=>D 22 b c.AM c'.AM [] w.de.AM _ j g.u s.fu O (h.fu b j) t,λq f a=>?_⟩;(rw[s.od];rcases F q f a with a|rfl);exact AA4 _ (h.o q f a);exact ABi _ ak;by_cases T:q=i;(subst T;have eq:ix w.AA (q:Int)=ev w q:=rfl;have Lt:B4 (q:Int) w.AA.length:=As.2 ⟨ah,ah⟩;refine⟨c.dv,[],s.od,?_⟩;rcases s.fx with⟨b,e,j⟩|⟨_,_,e⟩);(have P:b=true:=by rw[e]at a;unfold ix at a;rw[show((q:Int)).toNat=q from by omega,AAR (by rw[g.x];exact f)]at a;exact a);(have mk:∀(k kd:Int)(o:Int),(ev w q).da=kd->(kd=3/\k=4\/kd=23/\k=22)->(ev w q).di=o->((IV (lI w k o) (-1) c.dv= -1/\La w (ev w q))\/∃m:Nat,IV (lI w k o) (-1) c.dv=(m:Int)/\m<w.AA.length/\(ev w q).dm=(ev w m).dm/\Mh w c m)->IV (λx=>Ho (ix w.AA x) (ev w q)) (-1) c.dv∈IZ w (q:Int)/\∀m:Nat,IV (λx=>Ho (ix w.AA x) (ev w q)) (-1) c.dv=(m:Int)->(m:Int)∈c.dv/\Mh w c' m:=by(intro k kd o Q R ho hl;have hP:∀x,Ho (ix w.AA x) (ev w q)=lI w k o x:=(by intro x;unfold Ho lI;rw[Q,ho];rcases R with⟨rfl,rfl⟩|⟨rfl,rfl⟩<;>cases(ix w.AA x).di==o<;>cases(ix w.AA x).da==4<;>cases(ix w.AA x).da==22<;>rfl);rw[nT hP];have xJ:(ix w.AA (q:Int)).da=3\/(ix w.AA (q:Int)).da=23:=by(rw[eq,Q];rcases R with⟨h,_⟩|⟨h,_⟩);exact .inl h;exact .inr h);(rcases hl with⟨y,z⟩|⟨m,y,z,M,N⟩);rw[y];refine⟨?_,λm hm=>ah⟩;unfold IZ;rw[AAQ ⟨Lt,xJ⟩,eq,AAQ z];exact AA4 _ (AAg.2 rfl);(rcases ZZ (lI w k o) c.dv (-1)with⟨d,_⟩|⟨d,g2⟩);omega;rw[y]at d g2 |-;refine⟨?_,λm' V3=>?_⟩;unfold IZ;rw[AAQ ⟨Lt,xJ⟩,eq];refine ABi _ ?_;have em:ev w m=w.AA[m]:=CH z;have eqq:ev w q=w.AA[q]:=CH f;have:=eR (w:=w) (n:=(q:Int)) (r:=ev w q) w.AA 0 m z ?_;simpa using this;unfold Mn;rw[<- em];have OT:Ho (ev w m) (ev w q):=(by have:=hP (m:Int);rw[this];exact g2);rw[OT,M];simp only[BEq.rfl,AAj,AA5,Bool.and_eq_false_iff,ABf,decide_eq_false_iff_not];by_cases ht:(ev w m).cT=(ev w q).cT;right;intro EU;refine s.no (g.p q m ah z ?_ d);rw[<- em,<- eqq];exact ht.symm;exact .inl ht;obtain rfl:m'=m:=ah;exact⟨d,N.mono U⟩);(rcases j with⟨k3,j⟩|⟨Z,j⟩);(obtain⟨b1,L⟩:=j P;have J:B4 (ev w q).di w.db.dg.length:=(by unfold A8 at v;rw[k3]at v;simpa using v);refine mk 4 3 _ k3 (.inl ⟨rfl,rfl⟩) rfl ?_;rcases h.ce _ J b1 with⟨d,g2⟩|⟨m,d,g2,g3,g4⟩);exact .inl ⟨d,by unfold La;rw[AAP ah,<- g2,L];simp⟩;exact .inr ⟨m,d,g2,by rw[<- L,g3],g4⟩;(obtain⟨b1,L⟩:=j P;have J:B4 (ev w q).di w.db.AM.length:=(by unfold A8 at v;rw[Z]at v;simpa using v);refine mk 22 23 _ Z (.inr ⟨rfl,rfl⟩) rfl ?_;rcases h.fu _ J b1 with⟨d,g2⟩|⟨m,d,g2,g3,g4⟩);(refine .inl ⟨d,?_⟩;have hd:ix c.dc.Bs (ev w q).di=true:=(by have hR:=(Y7 s.en).2.2.1;unfold Du at hR;rw[Z]at hR;simp at hR;exact hR.2);have Jy:∀m:Nat,(m:Int)∈c.dv->¬((ev w m).da=22/\(ev w m).di=(ev w q).di):=by(rcases ZZ (lI w 22 (ev w q).di) c.dv (-1)with⟨_,k2⟩|⟨k1,k2⟩);intro m hm S;have:=k2 _ hm;unfold lI at this;have E:(ix w.AA (m:Int))=ev w m:=rfl;rw[E,S.1,S.2]at this;simp at this;rw[d]at k1;obtain⟨m,_,hm⟩:=reach_ord hr _ k1;omega);rw[uW J hr Jy]at hd;unfold La;rw[AAQ Z,hd,<- g2,L];simp;exact .inr ⟨m,d,g2,by rw[<- L,g3],g4⟩;rw[e]at a;exact absurd (h.o q f a) s.no;have hf':ix c.JU (q:Int)=true:=(by rw[G q f T]at a;exact a);obtain⟨pre,W,E,H,X⟩:=h.xr q f hf';refine⟨pre,W++[(i:Int)],by rw[s.od,E];simp,H,λk t=>⟨(X k t).1,(X k t).2.mono U⟩⟩
instance:Inhabited KW:=⟨⟨0,0,[]⟩⟩
def accB(wv:AG)(e:AH):Bool:=(e.da==3||e.da==4)&& !(ix wv.dg e.di).Hh
def yA(wv:AG)(i:Int)(e:AH)(h:UL)(s:nr):List KW×List Int:=
 if accB wv e=true then
  let r:=PF (ix s.1 e.di) e.cT (e.da==4) h
  (s.1.set e.di.toNat r.1,if r.2=true/\ix s.2 e.di<0 then s.2.set e.di.toNat i else s.2)
 else s
def CE(wv:AG)(e:AH):Prop:=e.da=3\/e.da=4->B4 e.di wv.dg.length=true
structure WS (n:Nat) (s:List KW×List Int):Prop where
 a:s.1.length=n
 b:s.2.length=n
 e:∀x∈s.1,EI x
theorem ix_mem[Inhabited b]{l:List b}(h:B4 i l.length):ix l i∈l:=by have:=Bv h;unfold gt at this;split at this;exact AAZ this;cases this
theorem WS.step{n:Nat}{wv:AG}(hn:n=wv.dg.length){s:nr}(c:WS n s){e:AH}(g:CE wv e){h:UL}(j:HL h)(i:Int):WS n (yA wv i e h s):=by unfold yA;split;rename_i d;have k:e.da=3\/e.da=4:=(by unfold accB at d;simp at d;exact d.1);have hi:B4 e.di s.1.length:=(by rw[c.a,hn];exact g k);refine⟨by simpa using c.a,?_,λx f=>?_⟩;simp only;split<;>simpa using c.b;(rcases AA2 f with f|rfl);exact c.e x f;exact(c.e _ (ix_mem hi)).step j;exact c
theorem fill{L:Nat->List Int->Int->ABm b}{N:Nat}{R:List Int->ABm b}(f:N<=1000)(c:∀(n i:Nat)(l:iT),i<N->l.length=N->L (n+1) l (i:Int)=L n (l.set i (-1)) ((i+1:Nat):Int))(a:∀n l,L (n+1) l (N:Int)=R l):∀(n i:Nat),i<=N->N<n+i->L n (List.replicate i (-1)++List.replicate (N-i) 0) (i:Int)=R (List.replicate N (-1))|0,i,h1,h2=>ah|n+1,i,h1,h2=>by by_cases hi:i<N;have d:N-i=(N-(i+1))+1:=ah;rw[c n i _ hi an,d,List.replicate_succ];have e:(List.replicate i (-1:Int)++(0:Int)::List.replicate (N-(i+1)) 0).set i (-1)=List.replicate (i+1) (-1)++List.replicate (N-(i+1)) 0:=(by have:=set_mid (List.replicate i (-1:Int)) 0 (-1) (List.replicate (N-(i+1)) 0);rw[ABh]at this;rw[this,ABk];simp);rw[e];exact fill f c a n (i+1) ah ah;obtain rfl:i=N:=ah;rw[a];simp
theorem AT.ce(h:AT f)(d:k∈f.AA):CE f.db k:=by intro a;obtain⟨i,hi,rfl⟩:=ABR d;have b:=h.poss hi;unfold ET CN at b;simp only[AAL]at b;have c:=b.2.2.1.2.2.1;unfold A8 at c;rcases a with a|a<;>simpa[a]using c
theorem ix_set_eq[Inhabited b]{l:List b}(h:B4 i l.length)(a:b):ix (l.set i.toNat a) i=a:=by have h:=As.1 h;unfold ix;rw[AAR ah];rfl
theorem fH[Inhabited b]{l:List b}(hi:0<=i)(c:0<=o)(h:i≠o)(a:b):ix (l.set i.toNat a) o=ix l o:=by unfold ix;rw[AAY ah]
def holdB(c k:Int)(x:AH×UL):Bool:= !((x.1.da==3||x.1.da==4)&&x.1.di==c)||(x.2.Re.contains k||(x.1.da==3&&x.2.rH.contains k))
def DI(c k:Int)(s:nr):Prop:=((ix s.1 c).ed=0\/(ix s.1 c).ed=1\/k∈(ix s.1 c).AK)/\ix s.2 c<0
theorem DI.step{wv:AG}{c k:Int}{s:nr}(h:DI c k s)(r:WS wv.dg.length s)(p:B4 c wv.dg.length){e:AH}{hd:UL}(q:CE wv e)(d:holdB c k (e,hd))(i:Int):DI c k (yA wv i e hd s):=by unfold yA;split;rename_i l;dsimp only;have f:e.da=3\/e.da=4:=(by unfold accB at l;simp at l;exact l.1);have hi:=q f;have t:=As.1 hi;have u:=As.1 p;by_cases b:e.di=c;(subst b;have m:k∈Ly (e.da==4) hd:=by(unfold holdB at d;simp only[ABK,Bool.and_true,AAo,AA5,AAL,AAp]at d;unfold Ly;rw[Kp];rcases f with f|f);simp[f]at d |-;exact d;simp[f]at d |-;exact d);(have n:(PF (ix s.1 e.di) e.cT (e.da==4) hd).2=false/\((PF (ix s.1 e.di) e.cT (e.da==4) hd).1.ed=1\/k∈(PF (ix s.1 e.di) e.cT (e.da==4) hd).1.AK):=by unfold PF;split;exact⟨rfl,.inl rfl⟩;(rename_i hn;have o:k∈(if(ix s.1 e.di).ed=1 then Ly (e.da==4) hd else(ix s.1 e.di).AK.filter (Ly (e.da==4) hd).contains):=by split;exact m;(rename_i j;rcases h.1 with g|g|g);exact absurd (.inl g) hn;exact absurd g j;exact List.mem_filter.2 ⟨g,by simpa using m⟩);(refine⟨?_,.inr o⟩;have:((if(ix s.1 e.di).ed=1 then Ly (e.da==4) hd else(ix s.1 e.di).AK.filter (Ly (e.da==4) hd).contains).length:Int)≠0:=by have:=List.length_pos_of_mem o;omega);simp only[Bool.and_eq_false_iff,ABf];exact .inr this);unfold DI;dsimp only;rw[ix_set_eq (by rw[r.a];exact hi),AAP (by rw[n.1];simp)];exact⟨n.2.elim (λg=>.inr (.inl g)) λg=>.inr (.inr g),h.2⟩;unfold DI;dsimp only;rw[fH ah ah b];refine⟨h.1,?_⟩;split;rw[fH ah ah b];exact h.2;exact h.2;exact h
end
variable{l:jj}
section
open Go.Proofs Go.RowKit
set_option maxRecDepth 100000
set_option maxHeartbeats 4000000
theorem Pd{e:b->List AV}{ok:b->Prop}:∀(rows:jh),(∀row∈rows,∃x:b,row=e x/\ok x)->∃l:List b,rows=l.map e/\∀x∈l,ok x
 |[],_=>⟨[],rfl,λ_ h=>by simp at h⟩
 |r::rs,h=>by
  obtain⟨l,d,f⟩:=Pd rs (λrow g=>h row (by simp[g]));obtain⟨x,i,a⟩:=h r ak;refine⟨x::l,by rw[i,d];rfl,λy c=>?_⟩;rcases AAk.1 c with rfl|c
  exact a;exact f y c
def Tm(x:Int):Prop:=(Lit.int .u8 x).wf=true
structure N4 (x:List Int):Prop where
 len:x.length*1<=reachBytes
 all:∀y∈x,Tm y
def op5:JM Tryz.prog 5 (λa=>∃x:Int,a=[.sc (.int .u8 x)]/\Tm x):=(lN Tryz.underlying5).mono λ_ ⟨n,h,b⟩=>⟨n,h,b⟩
theorem op22:JM Tryz.prog 22 (λb=>∃x:List Int,b=[vS 1 lG x]/\N4 x):=by
 refine(MH (k:=1) Tryz.underlying22 (by kernel_rfl) ah op5).mono ?_;rintro b ⟨rows,rfl,f,c⟩;obtain⟨l,rfl,d⟩:=Pd (e:=lG) (ok:=Tm) rows λrow h=>(f row h).1;have a:Tryz.prog.bytesOf 5=1:=by kernel_rfl
 rw[a,AAt]at c;exact⟨l,rfl,c,d⟩
def JQ(x:Int):Prop:=(Lit.int .i64 x).wf=true
structure Rr (x:List Int):Prop where
 len:x.length*8<=reachBytes
 all:∀y∈x,JQ y
def op3:JM Tryz.prog 3 (λa=>∃x:Int,a=[si x]/\JQ x):=(lN Tryz.underlying3).mono λ_ ⟨n,h,b⟩=>⟨n,h,b⟩
theorem arg3(a:AV):gR Tryz.prog 3 [a]=a:=by unfold gR;rw[Tryz.underlying3];rfl
theorem op38:JM Tryz.prog 38 (λb=>∃x:List Int,b=[vS 1 eI x]/\Rr x):=by
 refine(MH (k:=1) Tryz.underlying38 (by kernel_rfl) ah op3).mono ?_;rintro b ⟨rows,rfl,f,c⟩;obtain⟨l,rfl,d⟩:=Pd (e:=eI) (ok:=JQ) rows λrow h=>(f row h).1;have a:Tryz.prog.bytesOf 3=8:=by kernel_rfl
 rw[a,AAt]at c;exact⟨l,rfl,c,d⟩
def okS(x:ABn):Prop:=x.size<=reachBytes
def okB(_:Bool):Prop:=True
structure okCell (x:Dy):Prop where
 f0:okS x.dq
 f1:JQ x.d6
 f2:JQ x.Ca
 f3:okB x.Hh
 f4:JQ x.de
structure okL_Cell (x:List Dy):Prop where
 len:x.length*48<=reachBytes
 all:∀y∈x,okCell y
structure okLock (x:KH):Prop where
 f0:okS x.dq
 f1:okB x.RW
structure okL_Lock (x:List KH):Prop where
 len:x.length*24<=reachBytes
 all:∀y∈x,okLock y
structure okCond (x:Rf):Prop where
 f0:okS x.dq
 f1:JQ x.dn
structure okL_Cond (x:List Rf):Prop where
 len:x.length*24<=reachBytes
 all:∀y∈x,okCond y
structure okL_S (x:List ABn):Prop where
 len:x.length*16<=reachBytes
 all:∀y∈x,okS y
structure okSite (x:EF):Prop where
 f0:JQ x.cT
 f1:JQ x.ew
 f2:JQ x.Fq
structure okL_Site (x:List EF):Prop where
 len:x.length*24<=reachBytes
 all:∀y∈x,okSite y
structure okWorld (x:AG):Prop where
 f0:okL_Cell x.dg
 f1:okL_Lock x.AK
 f2:okL_Cond x.Aj
 f3:okL_S x.AM
 f4:okL_S x.AB
 f5:okL_Site x.Bu
structure okLockState (x:AQ):Prop where
 f0:JQ x.Bw
 f1:Rr x.Ae
structure yF (x:List AQ):Prop where
 len:x.length*32<=reachBytes
 all:∀y∈x,okLockState y
structure okL_B (x:List Bool):Prop where
 len:x.length*1<=reachBytes
 all:∀y∈x,okB y
structure okThreadSync (x:AL):Prop where
 f0:JQ x.dh
 f1:JQ x.DS
 f2:okB x.dy
structure uN (x:List AL):Prop where
 len:x.length*24<=reachBytes
 all:∀y∈x,okThreadSync y
structure okSync (x:AP):Prop where
 f0:yF x.AK
 f1:JQ x.Tx
 f2:okL_B x.Bs
 f3:uN x.AB
structure okSnapshot (x:AD):Prop where
 f0:okSync x.dc
 f1:Rr x.dg
 f2:Rr x.AM
 f3:Rr x.df
structure okEvent (x:AH):Prop where
 f0:JQ x.cT
 f1:JQ x.da
 f2:JQ x.di
 f3:JQ x.dm
 f4:JQ x.d8
 f5:Rr x.D4
 f6:Rr x.DL
structure okL_Event (x:List AH):Prop where
 len:x.length*88<=reachBytes
 all:∀y∈x,okEvent y
structure okWindow (x:AF):Prop where
 f0:okWorld x.db
 f1:JQ x.eu
 f2:okSnapshot x.de
 f3:okL_Event x.AA
def op9:JM Tryz.prog 9 (λa=>∃x:ABn,a=eS x/\okS x):=(opens_string Tryz.underlying9).mono λ_ ⟨s,h,b⟩=>⟨s,h,b⟩
def op4:JM Tryz.prog 4 (λa=>∃x:Bool,a=eB x/\okB x):=(opens_bool Tryz.underlying4).mono λ_ ⟨b,h⟩=>⟨b,h,trivial⟩
def op2:JM Tryz.prog 2 (λa=>∃x:Int,a=[si x]/\JQ x):=(lN Tryz.underlying2).mono λ_ ⟨n,h,b⟩=>⟨n,h,b⟩
theorem op168:JM Tryz.prog 168 (λa=>∃x:Dy,a=G5 x/\okCell x):=by refine(Lo (Xs:=[λa=>∃x:ABn,a=eS x/\okS x,λa=>∃x:Int,a=[si x]/\JQ x,λa=>∃x:Int,a=[si x]/\JQ x,λa=>∃x:Bool,a=eB x/\okB x,λa=>∃x:Int,a=[si x]/\JQ x]) Tryz.underlying168 ⟨by kernel_rfl,op9,⟨by kernel_rfl,op3,⟨by kernel_rfl,op3,⟨by kernel_rfl,op4,⟨by kernel_rfl,op2,trivial⟩⟩⟩⟩⟩ (by kernel_rfl)).mono ?_;rintro a ⟨a0,p,rfl,⟨g,rfl,b⟩,⟨l,q,rfl,⟨h,rfl,c⟩,⟨m,r,rfl,⟨i,rfl,d⟩,⟨n,s,rfl,⟨j,rfl,e⟩,⟨o,t,rfl,⟨k,rfl,f⟩,rfl⟩⟩⟩⟩⟩;exact⟨⟨g,h,i,j,k⟩,rfl,⟨b,c,d,e,f⟩⟩
theorem op25:JM Tryz.prog 25 (λb=>∃x:List Dy,b=[vS 5 G5 x]/\okL_Cell x):=by
 refine(MH (k:=5) Tryz.underlying25 (by kernel_rfl) ah op168).mono ?_;rintro b ⟨rows,rfl,f,c⟩;obtain⟨l,rfl,d⟩:=Pd (e:=G5) (ok:=okCell) rows λrow h=>(f row h).1;have a:Tryz.prog.bytesOf 168=48:=by kernel_rfl
 rw[a,AAt]at c;exact⟨l,rfl,c,d⟩
theorem op158:JM Tryz.prog 158 (λa=>∃x:KH,a=IE x/\okLock x):=by refine(Lo (Xs:=[λa=>∃x:ABn,a=eS x/\okS x,λa=>∃x:Bool,a=eB x/\okB x]) Tryz.underlying158 ⟨by kernel_rfl,op9,⟨by kernel_rfl,op4,trivial⟩⟩ (by kernel_rfl)).mono ?_;rintro a ⟨a0,g,rfl,⟨d,rfl,b⟩,⟨f,h,rfl,⟨e,rfl,c⟩,rfl⟩⟩;exact⟨⟨d,e⟩,rfl,⟨b,c⟩⟩
theorem op26:JM Tryz.prog 26 (λb=>∃x:List KH,b=[vS 2 IE x]/\okL_Lock x):=by
 refine(MH (k:=2) Tryz.underlying26 (by kernel_rfl) ah op158).mono ?_;rintro b ⟨rows,rfl,f,c⟩;obtain⟨l,rfl,d⟩:=Pd (e:=IE) (ok:=okLock) rows λrow h=>(f row h).1;have a:Tryz.prog.bytesOf 158=24:=by kernel_rfl
 rw[a,AAt]at c;exact⟨l,rfl,c,d⟩
theorem op149:JM Tryz.prog 149 (λa=>∃x:Rf,a=ID x/\okCond x):=by refine(Lo (Xs:=[λa=>∃x:ABn,a=eS x/\okS x,λa=>∃x:Int,a=[si x]/\JQ x]) Tryz.underlying149 ⟨by kernel_rfl,op9,⟨by kernel_rfl,op3,trivial⟩⟩ (by kernel_rfl)).mono ?_;rintro a ⟨a0,g,rfl,⟨d,rfl,b⟩,⟨f,h,rfl,⟨e,rfl,c⟩,rfl⟩⟩;exact⟨⟨d,e⟩,rfl,⟨b,c⟩⟩
theorem op27:JM Tryz.prog 27 (λb=>∃x:List Rf,b=[vS 2 ID x]/\okL_Cond x):=by
 refine(MH (k:=2) Tryz.underlying27 (by kernel_rfl) ah op149).mono ?_;rintro b ⟨rows,rfl,f,c⟩;obtain⟨l,rfl,d⟩:=Pd (e:=ID) (ok:=okCond) rows λrow h=>(f row h).1;have a:Tryz.prog.bytesOf 149=24:=by kernel_rfl
 rw[a,AAt]at c;exact⟨l,rfl,c,d⟩
theorem op28:JM Tryz.prog 28 (λb=>∃x:List ABn,b=[vS 1 eS x]/\okL_S x):=by
 refine(MH (k:=1) Tryz.underlying28 (by kernel_rfl) ah op9).mono ?_;rintro b ⟨rows,rfl,f,c⟩;obtain⟨l,rfl,d⟩:=Pd (e:=eS) (ok:=okS) rows λrow h=>(f row h).1;have a:Tryz.prog.bytesOf 9=16:=by kernel_rfl
 rw[a,AAt]at c;exact⟨l,rfl,c,d⟩
theorem op164:JM Tryz.prog 164 (λa=>∃x:EF,a=GP x/\okSite x):=by refine(Lo (Xs:=[λa=>∃x:Int,a=[si x]/\JQ x,λa=>∃x:Int,a=[si x]/\JQ x,λa=>∃x:Int,a=[si x]/\JQ x]) Tryz.underlying164 ⟨by kernel_rfl,op3,⟨by kernel_rfl,op3,⟨by kernel_rfl,op3,trivial⟩⟩⟩ (by kernel_rfl)).mono ?_;rintro a ⟨a0,j,rfl,⟨e,rfl,b⟩,⟨h,k,rfl,⟨f,rfl,c⟩,⟨i,l,rfl,⟨g,rfl,d⟩,rfl⟩⟩⟩;exact⟨⟨e,f,g⟩,rfl,⟨b,c,d⟩⟩
theorem op29:JM Tryz.prog 29 (λb=>∃x:List EF,b=[vS 3 GP x]/\okL_Site x):=by
 refine(MH (k:=3) Tryz.underlying29 (by kernel_rfl) ah op164).mono ?_;rintro b ⟨rows,rfl,f,c⟩;obtain⟨l,rfl,d⟩:=Pd (e:=GP) (ok:=okSite) rows λrow h=>(f row h).1;have a:Tryz.prog.bytesOf 164=24:=by kernel_rfl
 rw[a,AAt]at c;exact⟨l,rfl,c,d⟩
theorem op31:JM Tryz.prog 31 (λa=>∃x:AG,a=A0 x/\okWorld x):=by refine(Lo (Xs:=[λa=>∃x:List Dy,a=[vS 5 G5 x]/\okL_Cell x,λa=>∃x:List KH,a=[vS 2 IE x]/\okL_Lock x,λa=>∃x:List Rf,a=[vS 2 ID x]/\okL_Cond x,λa=>∃x:List ABn,a=[vS 1 eS x]/\okL_S x,λa=>∃x:List ABn,a=[vS 1 eS x]/\okL_S x,λa=>∃x:List EF,a=[vS 3 GP x]/\okL_Site x]) Tryz.underlying31 ⟨by kernel_rfl,op25,⟨by kernel_rfl,op26,⟨by kernel_rfl,op27,⟨by kernel_rfl,op28,⟨by kernel_rfl,op28,⟨by kernel_rfl,op29,trivial⟩⟩⟩⟩⟩⟩ (by kernel_rfl)).mono ?_;rintro a ⟨a0,s,rfl,⟨h,rfl,b⟩,⟨n,t,rfl,⟨i,rfl,c⟩,⟨o,u,rfl,⟨j,rfl,d⟩,⟨p,v,rfl,⟨k,rfl,e⟩,⟨q,w,rfl,⟨l,rfl,f⟩,⟨r,y,rfl,⟨m,rfl,g⟩,rfl⟩⟩⟩⟩⟩⟩;exact⟨⟨h,i,j,k,l,m⟩,rfl,⟨b,c,d,e,f,g⟩⟩
theorem op155:JM Tryz.prog 155 (λa=>∃x:AQ,a=C5 x/\okLockState x):=by refine(Lo (Xs:=[λa=>∃x:Int,a=[si x]/\JQ x,λa=>∃x:List Int,a=[vS 1 eI x]/\Rr x]) Tryz.underlying155 ⟨by kernel_rfl,op3,⟨by kernel_rfl,op38,trivial⟩⟩ (by kernel_rfl)).mono ?_;rintro a ⟨a0,g,rfl,⟨d,rfl,b⟩,⟨f,h,rfl,⟨e,rfl,c⟩,rfl⟩⟩;exact⟨⟨d,e⟩,rfl,⟨b,c⟩⟩
theorem op32:JM Tryz.prog 32 (λb=>∃x:List AQ,b=[vS 2 C5 x]/\yF x):=by
 refine(MH (k:=2) Tryz.underlying32 (by kernel_rfl) ah op155).mono ?_;rintro b ⟨rows,rfl,f,c⟩;obtain⟨l,rfl,d⟩:=Pd (e:=C5) (ok:=okLockState) rows λrow h=>(f row h).1;have a:Tryz.prog.bytesOf 155=32:=by kernel_rfl
 rw[a,AAt]at c;exact⟨l,rfl,c,d⟩
theorem op33:JM Tryz.prog 33 (λb=>∃x:List Bool,b=[vS 1 eB x]/\okL_B x):=by
 refine(MH (k:=1) Tryz.underlying33 (by kernel_rfl) ah op4).mono ?_;rintro b ⟨rows,rfl,f,c⟩;obtain⟨l,rfl,d⟩:=Pd (e:=eB) (ok:=okB) rows λrow h=>(f row h).1;have a:Tryz.prog.bytesOf 4=1:=by kernel_rfl
 rw[a,AAt]at c;exact⟨l,rfl,c,d⟩
theorem op153:JM Tryz.prog 153 (λa=>∃x:AL,a=Ax x/\okThreadSync x):=by refine(Lo (Xs:=[λa=>∃x:Int,a=[si x]/\JQ x,λa=>∃x:Int,a=[si x]/\JQ x,λa=>∃x:Bool,a=eB x/\okB x]) Tryz.underlying153 ⟨by kernel_rfl,op3,⟨by kernel_rfl,op3,⟨by kernel_rfl,op4,trivial⟩⟩⟩ (by kernel_rfl)).mono ?_;rintro a ⟨a0,j,rfl,⟨e,rfl,b⟩,⟨h,k,rfl,⟨f,rfl,c⟩,⟨i,l,rfl,⟨g,rfl,d⟩,rfl⟩⟩⟩;exact⟨⟨e,f,g⟩,rfl,⟨b,c,d⟩⟩
theorem op34:JM Tryz.prog 34 (λb=>∃x:List AL,b=[vS 3 Ax x]/\uN x):=by
 refine(MH (k:=3) Tryz.underlying34 (by kernel_rfl) ah op153).mono ?_;rintro b ⟨rows,rfl,f,c⟩;obtain⟨l,rfl,d⟩:=Pd (e:=Ax) (ok:=okThreadSync) rows λrow h=>(f row h).1;have a:Tryz.prog.bytesOf 153=24:=by kernel_rfl
 rw[a,AAt]at c;exact⟨l,rfl,c,d⟩
theorem op36:JM Tryz.prog 36 (λa=>∃x:AP,a=HI x/\okSync x):=by refine(Lo (Xs:=[λa=>∃x:List AQ,a=[vS 2 C5 x]/\yF x,λa=>∃x:Int,a=[si x]/\JQ x,λa=>∃x:List Bool,a=[vS 1 eB x]/\okL_B x,λa=>∃x:List AL,a=[vS 3 Ax x]/\uN x]) Tryz.underlying36 ⟨by kernel_rfl,op32,⟨by kernel_rfl,op3,⟨by kernel_rfl,op33,⟨by kernel_rfl,op34,trivial⟩⟩⟩⟩ (by kernel_rfl)).mono ?_;rintro a ⟨a0,m,rfl,⟨f,rfl,b⟩,⟨j,n,rfl,⟨g,rfl,c⟩,⟨k,o,rfl,⟨h,rfl,d⟩,⟨l,p,rfl,⟨i,rfl,e⟩,rfl⟩⟩⟩⟩;exact⟨⟨f,g,h,i⟩,rfl,⟨b,c,d,e⟩⟩
theorem op37:JM Tryz.prog 37 (λb=>∃x:List Int,b=[vS 1 eI x]/\Rr x):=by
 refine(MH (k:=1) Tryz.underlying37 (by kernel_rfl) ah op2).mono ?_;rintro b ⟨rows,rfl,f,c⟩;obtain⟨l,rfl,d⟩:=Pd (e:=eI) (ok:=JQ) rows λrow h=>(f row h).1;have a:Tryz.prog.bytesOf 2=8:=by kernel_rfl
 rw[a,AAt]at c;exact⟨l,rfl,c,d⟩
theorem op40:JM Tryz.prog 40 (λa=>∃x:AD,a=Bc x/\okSnapshot x):=by refine(Lo (Xs:=[λa=>∃x:AP,a=HI x/\okSync x,λa=>∃x:List Int,a=[vS 1 eI x]/\Rr x,λa=>∃x:List Int,a=[vS 1 eI x]/\Rr x,λa=>∃x:List Int,a=[vS 1 eI x]/\Rr x]) Tryz.underlying40 ⟨by kernel_rfl,op36,⟨by kernel_rfl,op37,⟨by kernel_rfl,op37,⟨by kernel_rfl,op38,trivial⟩⟩⟩⟩ (by kernel_rfl)).mono ?_;rintro a ⟨a0,m,rfl,⟨f,rfl,b⟩,⟨j,n,rfl,⟨g,rfl,c⟩,⟨k,o,rfl,⟨h,rfl,d⟩,⟨l,p,rfl,⟨i,rfl,e⟩,rfl⟩⟩⟩⟩;exact⟨⟨f,g,h,i⟩,rfl,⟨b,c,d,e⟩⟩
theorem op68:JM Tryz.prog 68 (λa=>∃x:AH,a=Am x/\okEvent x):=by refine(Lo (Xs:=[λa=>∃x:Int,a=[si x]/\JQ x,λa=>∃x:Int,a=[si x]/\JQ x,λa=>∃x:Int,a=[si x]/\JQ x,λa=>∃x:Int,a=[si x]/\JQ x,λa=>∃x:Int,a=[si x]/\JQ x,λa=>∃x:List Int,a=[vS 1 eI x]/\Rr x,λa=>∃x:List Int,a=[vS 1 eI x]/\Rr x]) Tryz.underlying68 ⟨by kernel_rfl,op3,⟨by kernel_rfl,op3,⟨by kernel_rfl,op3,⟨by kernel_rfl,op2,⟨by kernel_rfl,op3,⟨by kernel_rfl,op38,⟨by kernel_rfl,op38,trivial⟩⟩⟩⟩⟩⟩⟩ (by kernel_rfl)).mono ?_;rintro a ⟨a0,v,rfl,⟨i,rfl,b⟩,⟨p,w,rfl,⟨j,rfl,c⟩,⟨q,y,rfl,⟨k,rfl,d⟩,⟨r,z,rfl,⟨l,rfl,e⟩,⟨s,B,rfl,⟨m,rfl,f⟩,⟨t,C,rfl,⟨n,rfl,g⟩,⟨u,D,rfl,⟨o,rfl,h⟩,rfl⟩⟩⟩⟩⟩⟩⟩;exact⟨⟨i,j,k,l,m,n,o⟩,rfl,⟨b,c,d,e,f,g,h⟩⟩
theorem op41:JM Tryz.prog 41 (λb=>∃x:List AH,b=[vS 7 Am x]/\okL_Event x):=by
 refine(MH (k:=7) Tryz.underlying41 (by kernel_rfl) ah op68).mono ?_;rintro b ⟨rows,rfl,f,c⟩;obtain⟨l,rfl,d⟩:=Pd (e:=Am) (ok:=okEvent) rows λrow h=>(f row h).1;have a:Tryz.prog.bytesOf 68=88:=by kernel_rfl
 rw[a,AAt]at c;exact⟨l,rfl,c,d⟩
theorem op43:JM Tryz.prog 43 (λa=>∃x:AF,a=A5 x/\okWindow x):=by refine(Lo (Xs:=[λa=>∃x:AG,a=A0 x/\okWorld x,λa=>∃x:Int,a=[si x]/\JQ x,λa=>∃x:AD,a=Bc x/\okSnapshot x,λa=>∃x:List AH,a=[vS 7 Am x]/\okL_Event x]) Tryz.underlying43 ⟨by kernel_rfl,op31,⟨by kernel_rfl,op3,⟨by kernel_rfl,op40,⟨by kernel_rfl,op41,trivial⟩⟩⟩⟩ (by kernel_rfl)).mono ?_;rintro a ⟨a0,m,rfl,⟨f,rfl,b⟩,⟨j,n,rfl,⟨g,rfl,c⟩,⟨k,o,rfl,⟨h,rfl,d⟩,⟨l,p,rfl,⟨i,rfl,e⟩,rfl⟩⟩⟩⟩;exact⟨⟨f,g,h,i⟩,rfl,⟨b,c,d,e⟩⟩
theorem arg43(a:ji):gR Tryz.prog 43 a=.agg a:=by unfold gR;rw[Tryz.underlying43];rfl
theorem laid:laidOutB Tryz.prog:=by kernel_rfl
theorem own0:ownKnob Tryz.prog.godebug=none:=by kernel_rfl
abbrev nS:List (String×DataW Unit):=[("interleave/token.keywords",Go.Proofs.YtdojkofgkcmagaaGreatDoor.Rows.laid_interleave_token_keywords)]
theorem gName:Tryz.prog.globalNamed "interleave/token.keywords" =some 0:=by kernel_rfl
theorem gType:(Tryz.prog.globals[0]?).map (·.type)=some 293:=by kernel_rfl
theorem laidDatum:(Go.Proofs.YtdojkofgkcmagaaGreatDoor.Rows.laid_interleave_token_keywords:DataW Unit)=.agg (Mq.map λs=>.lit (.string s.data.toList)):=rfl
theorem sV(h:laidMetH Tryz.prog nS l):GI l (Old l):=by
 rw[MakeChecks.laidMetH_plain _ _ _ (by kernel_rfl)]at h;obtain⟨G,⟨g0,I,c,f0,F,H,i,n,o,f,_,_⟩,_,_⟩:=h;obtain rfl:=AAO (gName.symm.trans i);obtain rfl:=AAO (gType.symm.trans n);obtain⟨w,m,rfl,p,t,hn,g⟩:=DataW.trod_array Tryz.underlying293 f;have ce:Tryz.prog.cellsOf 9=1:=by kernel_rfl
 rw[laidDatum]at p;simp only[AAa,DataW.agg.injEq]at p;have r:∀(j:Nat) s,Mq[j]? =some s->l.cell? ⟨0,j,none⟩=some (.string s):=by
  intro j s b;have k:j<22:=by have:=(AAN.1 b).1;exact this
  have a:(w.map (·.1))[j]? =some (.lit (.string s.data.toList)):=by rw[<- p.1,AAX,b];rfl
  rw[AAX]at a;cases hxs:w[j]? with|none=>rw[hxs]at a;cases a|some y=>have u:=g j k;rw[hxs,ce]at u;obtain⟨e,B,D,_⟩:=DataW.trod_string Tryz.underlying9 u;rw[hxs]at a;simp only[AAv,AAM]at a;rw[D]at a;simp only[DataW.lit.injEq,Lit.string.injEq]at a;have W:e=s:=ByteArray.ext (Array.toList_inj.1 a);subst W;rw[World.var?_cell gName o j];have:(c.toList.drop (j*1)).take 1=[.string e]:=B;rw[Nat.mul_one]at this;have d:c.toList[j]? =some (.string e):=(by have C:((c.toList.drop j).take 1)[0]? =some (.string e):=(by rw[this];rfl);simpa using C);simpa using d
 intro x q;have:x=(0,Mq.map Value.string):=by simpa[Gam]using q
 subst this;have d:=r 0 _ rfl;obtain⟨_,z⟩:=wM d;refine⟨z,?_⟩;unfold World.cell? at d;cases hb:l.heap[0]? with|none=>simp[hb]at d|some NT=>cases NT with|cells arr E fz=>(refine⟨arr,E,fz,rfl,λj v b=>?_⟩;rw[AAX]at b;cases hs:Mq[j]? with|none=>rw[hs]at b;cases b|some s=>rw[hs]at b;simp only[AAv,AAM]at b;subst b;have:=r j s hs;unfold World.cell? at this;simpa[hb]using this)|_=>simp[hb]at d
end
variable{j:jo}
theorem evOK_in(h:okL_Event j):∀e∈j,K3 e:=by intro e c;have:=h.all e c;have a:=this.f5.len;have b:=this.f6.len;unfold reachBytes at a b;exact⟨ah,ah⟩
theorem true_of{o:ABm Bool}(h:CX o λb=>b=true):o=some true:=by obtain⟨b,h,rfl⟩:=h;exact h
variable{g:AP}
theorem RB_in27(h:okSync g):RB 4611686018427387904 g:=by intro x b;have a:=(h.f0.all x b).f1.len;unfold reachBytes at a;omega
def MAny_law(h:okWindow w):GA w i o=some true:=true_of (MAny_tot (evOK_in h.f3) (RB_in27 h.f2.f0) i o)
end Go.Abs
