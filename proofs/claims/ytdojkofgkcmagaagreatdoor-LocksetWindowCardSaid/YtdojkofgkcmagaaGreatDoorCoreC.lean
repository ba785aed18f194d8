/- A calculus of abstract states of Go memory, and that it is sound. -/
import Derived.Test.YtdojkofgkcmagaaGreatDoorCoreB
import Derived.Scope
import Derived.Laws.Sem
import Derived.Sort.Grow
import Derived.Lib.SlicesCompact
import Derived.Shelf.Slices.SearchI
import Derived.IntWalk
import Derived.MapKept
import Derived.Lib.OthersKept
set_option linter.defProp false
set_option linter.unusedSimpArgs false
set_option linter.unusedVariables false
namespace Go.Abs
variable{l M L:dF}{n f:Nat}{o:Oper}{ops:Array Oper}{io:BP}{v i:AV}{b:Bool}{rows r:dn}{args row:dm}{p:di}{σ σ' τ:Sg}{x y:Ar}{d:Dp}
section
variable{G:Gi}{P:Program}{w:World}
def msk(l:dF):Nat:=l.foldr (λs m=>m |||2^s) 0
theorem s6(h:n∈l):(msk l).testBit n=true:=by
 induction l with
 |nil=>cases h
 |cons a l ih=>
  simp only[msk,List.foldr_cons,Nat.testBit_or,AAk];simp only[AAn]at h;rcases h with rfl|h
  . simp_all
  . exact .inl (ih h)
theorem aX(h:msk M &&& msk l=0)(c:n∈M)(d:n∈l):False:=by
 have:(msk M &&& msk l).testBit n=true:=by rw[Nat.testBit_and,s6 c,s6 d];rfl
 simp_all
def bef(M:dF)(o:Oper):Nat:=o.after.toList.foldr (λe s=>if Region.binds .any e=true then s |||2^e.on |||M.getD e.on 0 else s) 0
theorem bef_bit(h:(bef M o).testBit n=true):∃e∈o.after.toList,Region.binds .any e=true/\(e.on=n\/(M.getD e.on 0).testBit n=true):=by
 unfold bef at h;generalize o.after.toList=l at h;induction l with
 |nil=>simp at h
 |cons e l ih=>grind
def VR:List Oper->List Nat->List Nat
 |[],M=>M
 |o::os,M=>VR os (M++[bef M o])
def SS(M Ws Rs:dF)(j:Nat):Nat->Bool
 |0=>true
 |i+1=>((Ws.getD i 0 &&& Rs.getD j 0==0&&Rs.getD i 0 &&& Ws.getD j 0==0)||(M.getD j 0).testBit i)&&SS M Ws Rs j i
theorem Y8(h:SS M l L f n=true):∀i,i<n->(l.getD i 0 &&& L.getD f 0=0/\L.getD i 0 &&& l.getD f 0=0)\/(M.getD f 0).testBit i=true:=by
 induction n with
 |zero=>omega
 |succ n ih=>simp only[SS,AAD,AAk,AAR]at h;grind
def WN(M Ws Rs:dF):Nat->List Oper->Bool
 |_,[]=>true
 |j,o::os=>M.getD j 0==bef M o&&(o.after.toList.all λe=> !Region.binds .any e||decide (e.on<j))&&SS M Ws Rs j j&&WN M Ws Rs (j+1) os
theorem dZ(os:List Oper):∀{j0:Nat},WN M l L j0 os=true->∀i o,os[i]? =some o->M.getD (j0+i) 0=bef M o/\(∀e∈o.after.toList,Region.binds .any e=true->e.on<j0+i)/\∀x,x<j0+i->(l.getD x 0 &&& L.getD (j0+i) 0=0/\L.getD x 0 &&& l.getD (j0+i) 0=0)\/(M.getD (j0+i) 0).testBit x=true:=by
 induction os with
 |nil=>simp_all
 |cons o os ih=>
  intro j0 h i o' a;simp only[WN,AAD,AAR,AAH,AAk,ABP,AAV]at h;obtain⟨⟨⟨d,f⟩,g⟩,j⟩:=h;cases i with
  |zero=>simp only[AAt,AAC]at a;subst a;refine⟨d,λe c k=>(f e c).resolve_left (by simp[k]),Y8 g⟩
  |succ i=>
   simp only[AAu]at a
   have:=ih j i o' a;grind
def wOf(G:Gi)(Dj:eP)(j:Nat):List Nat:=match Dj[j]? with|some o=>SB G o|none=>[]
theorem vQ(os:List Oper):∀{a:eP},Lb P G n ops os a=true->os.length=a.length/\∀(i:Nat) o io,os[i]? =some o->a[i]? =some io->G0 P G n ops o io=true:=by
 induction os with
 |nil=>intro a h;cases a<;>simp[Lb]at h |-
 |cons o os ih=>
  intro a h;cases a with
  |nil=>simp[Lb]at h
  |cons io a=>simp only[Lb,AAD]at h;grind
theorem vW{p p':e8}(h:∀j,p' j=true->p j=true){i:Nat}(a:p i=true)(b:p' i=false):∀N,i<N->(List.range N).countP p'<(List.range N).countP p:=by
 have le:∀N,(List.range N).countP p'<=(List.range N).countP p:=λN=>List.countP_mono_left (λj _=>h j);intro N;induction N with
 |zero=>omega
 |succ N ih=>intro hi;rw[List.range_succ,List.countP_append,List.countP_append];grind
theorem W4(h:G0 P G n ops o io=true):∀d,io.dst=some d->d.rs=G.Gv d.d:=by
 intro d hd;simp only[G0,AAD]at h;have a:=h.1.1;rw[hd]at a;cases ho:o.dst with
 |none=>rw[ho]at a;simp[Dy]at a
 |some t=>rw[ho]at a;simp only[Dy,AAD,AAR]at a;grind
mutual
def OC:AV->AV
 | .sc _=>.un
 | .own b k rows=>.own b k (zB rows)
 | .agg cs=>.agg (qU cs)
 | .BQ cs=>.BQ (qU cs)
 |a=>a
def qU:List AV->List AV
 |[]=>[]
 |a::r=>OC a::qU r
def zB:List (List AV)->List (List AV)
 |[]=>[]
 |a::r=>qU a::zB r
end
theorem qV(l:dm):qU l=l.map OC:=by
 induction l with
 |nil=>rfl
 |cons a r ih=>simp[qU,ih]
theorem eO(l:dn):zB l=l.map qU:=by
 induction l with
 |nil=>rfl
 |cons a r ih=>simp[zB,ih]
def IQ:AV->AV
 | .sc v=>.sc v
 |a=>OC a
theorem Tp(h:IQ i=IQ v):OC i=OC v:=by cases v<;>cases i<;>simp only[IQ,OC]at h |- <;>first|rfl|exact h|cases h
theorem Mf(h:IQ i=IQ v)(c:match v with| .own .. | .agg _| .BQ _=>False|_=>True):i=v:=by cases v<;>first|exact c.elim| (cases i<;>simp only[IQ,OC]at h<;>first|rfl|exact h|cases h)
theorem To(h:OC v= .own b n rows):∃c,v= .own b n c/\zB c=rows:=by cases v<;>simp only[OC]at h<;>first|simp_all|simp_all
theorem skC_sl(h:OC v= .sl b n rows):v= .sl b n rows:=by cases v<;>simp only[OC]at h<;>first|exact h|cases h
theorem tW(h:zB rows=zB r):rows.length=r.length:=by have:=congrArg List.length h;simpa[eO]using this
theorem skR_at(h:zB rows=zB r)(i:Nat):(rows[i]?).map qU=(r[i]?).map qU:=by have:=congrArg (·[i]?) h;simpa[eO]using this
theorem skL_at(h:qU row=qU args)(i:Nat):(row[i]?).map OC=(args[i]?).map OC:=by have:=congrArg (·[i]?) h;simpa[qV]using this
theorem sub_sk(p:di):∀{a d:AV},OC d=OC a->(sub d p).map OC=(sub a p).map OC:=by
 induction p with
 |nil=>intro a d h;simp[sub,h]
 |cons s p ih=>
  obtain⟨i,j,t⟩:=s;intro a d h;have f:∀{g e:dm},qU e=qU g->(match e[j]? with|some c=>sub c p|none=>none).map OC=(match g[j]? with|some c=>sub c p|none=>none).map OC:=by
   intro g e q
   have:=skL_at q j;cases h1:g[j]? with
   |none=>rw[h1]at this;simp at this;simp[this]
   |some c=>rw[h1]at this;simp only[Option.map_some]at this;obtain⟨c',l,m⟩:=Option.map_eq_some_iff.1 this;simp only[l];exact ih m
  cases a with
  |own b k rows=>
   obtain⟨n,rfl,r⟩:=To h;simp only[sub]
   have:=skR_at r i;cases h1:rows[i]? with
   |none=>rw[h1]at this;simp at this;simp[this]
   |some row=>rw[h1]at this;simp only[Option.map_some]at this;obtain⟨o,l,m⟩:=Option.map_eq_some_iff.1 this;simp only[l];exact f m
  |agg g=>cases d<;>simp only[OC,AV.agg.injEq,reduceCtorEq]at h;simp only[sub];exact f h
  |BQ g=>cases d<;>simp only[OC,AV.BQ.injEq,reduceCtorEq]at h;simp only[sub];exact f h
  |_=>cases d<;>simp only[OC]at h<;>first|rfl|cases h
theorem put_sk(q:di):∀{a t:AV}{h u:Value},sub a q=some (.sc h)->put a q (.sc u)=some t->OC t=OC a:=by
 induction q with
 |nil=>intro a t h u e d;simp only[sub,Option.some.injEq]at e;simp only[put,Option.some.injEq]at d;subst e;subst d;rfl
 |cons s q ih=>
  obtain⟨i,j,n⟩:=s;have g:∀{f:dm}{c c':AV},f[j]? =some c->OC c'=OC c->qU (f.set j c')=qU f:=by
   intro f c c' e d;rw[qV,qV,List.map_set,d];obtain⟨l,rfl⟩:=List.getElem?_eq_some_iff.1 e;apply List.ext_getElem?;intro m;rw[List.getElem?_set];split
   . grind
   . rfl
  intro a t h u e d;cases a with
  |own b k rows=>
   simp only[sub]at e;simp only[put]at d;cases hr:rows[i]? with
   |none=>simp_all
   |some row=>
    rw[hr]at e d;simp only at e d;cases hc:row[j]? with
    |none=>simp_all
    |some c=>
     rw[hc]at e d;simp only at e d;cases hp:put c q (.sc u)with
     |none=>simp_all
     |some c'=>rw[hp]at d;obtain rfl:=Option.some.inj d;simp only[OC,AV.own.injEq,true_and];rw[eO,eO,List.map_set,g hc (ih e hp)];obtain⟨hi,rfl⟩:=List.getElem?_eq_some_iff.1 hr;apply List.ext_getElem?;grind
  |agg f=>
   simp only[sub]at e;simp only[put]at d;cases hc:f[j]? with
   |none=>simp_all
   |some c=>
    rw[hc]at e d;simp only at e d;cases hp:put c q (.sc u)with
    |none=>simp_all
    |some c'=>rw[hp]at d;obtain rfl:=Option.some.inj d;simp only[OC,AV.agg.injEq];grind
  |BQ f=>
   simp only[sub]at e;simp only[put]at d;cases hc:f[j]? with
   |none=>simp_all
   |some c=>
    rw[hc]at e d;simp only at e d;cases hp:put c q (.sc u)with
    |none=>simp_all
    |some c'=>rw[hp]at d;obtain rfl:=Option.some.inj d;simp only[OC,AV.BQ.injEq];grind
  |_=>simp[sub]at e
theorem sub_snoc(p:di):∀{a:AV}{b:Bool}{k:Nat}{rows:dn}{row:dm}{c:AV}{i j d:Nat},sub a p=some (.own b k rows)->rows[i]? =some row->row[j]? =some c->sub a (p++[(i,j,d)])=some c:=by
 induction p with
 |nil=>intro a b k rows row c i j d h e f;simp only[sub,Option.some.injEq]at h;subst h;simp[sub,e,f]
 |cons s p ih=>
  obtain⟨i0,j0,g⟩:=s;intro a b k rows row c i j d h e f;cases a with
  |own b0 k1 K0=>
   simp only[List.cons_append,sub]at h |-;cases hr:K0[i0]? with
   |none=>simp_all
   |some r0=>grind
  |agg cs=>
   simp only[List.cons_append,sub]at h |-;cases hc:cs[j0]? with
   |none=>simp_all
   |some c0=>grind
  |BQ cs=>
   simp only[List.cons_append,sub]at h |-;cases hc:cs[j0]? with
   |none=>simp_all
   |some c0=>grind
  |_=>simp[sub]at h
def SkA(G:Gi)(σ σ':Sg):Ar->Prop
 | .t s=>(∀r∈F9 G (.t s),IQ (σ' r)=IQ (σ r))/\Fj (G.Gv s) (σ s)=true
 | .c _=>True
theorem eV(h:IQ i=IQ v)(g:sub v p=some (.own b n rows)):∃d,sub i p=some (.own b n d)/\zB d=zB rows:=by have:=sub_sk p (Tp h);rw[g]at this;simp only[Option.map_some,OC]at this;obtain⟨c,e,f⟩:=Option.map_eq_some_iff.1 this;obtain⟨d,rfl,j⟩:=To f;simp_all
theorem sub_slS(h:IQ i=IQ v)(g:sub v p=some (.sl b n rows)):sub i p=some (.sl b n rows):=by have:=sub_sk p (Tp h);rw[g]at this;simp only[Option.map_some,OC]at this;obtain⟨c,e,f⟩:=Option.map_eq_some_iff.1 this;rw[skC_sl f]at e;exact e
theorem gC(h:SkA G σ σ' x){v:Nat×List Step×Nat×Nat×Nat}(a:EE σ x=some v):EE σ' x=some v/\IQ (σ' v.1)=IQ (σ v.1):=by
 cases x with
 |c=>cases a
 |t s=>
  obtain⟨l,f⟩:=h;have g:=l s (by simp[F9]);simp only[EE]at a |-;cases hs:σ s with
  |own b k rows=>rw[hs]at a g;obtain⟨d,o,_⟩:=To (show OC (σ' s)= .own b k (zB rows)from by have:=Tp g;simpa[OC]using this);grind
  |al r p=>
   rw[hs]at a g f;have e:=Mf g trivial;rw[e];simp only[KB,List.contains_iff_mem]at f;have m:=l r (by simp[F9,f]);simp only at a |-;split at a
   . rename_i k rows n;obtain⟨d,q,_⟩:=eV m n;grind
   . cases a
  |Kk r p i j k=>rw[hs]at a g f;have e:=Mf g trivial;rw[e];simp only[WR,List.contains_iff_mem]at f;have m:=l r (by simp[F9,f]);grind
  |_=>simp_all
theorem sk_fad(h:SkA G σ σ' x)(a:valOf (.Ul n x) σ=some v):valOf (.Ul n x) σ'=some v:=by
 cases x with
 |c=>cases a
 |t s=>
  have b:=h.1 s (by simp[F9]);simp only[valOf]at a |-;cases hs:σ s with
  |fp d=>rw[hs]at a b;rw[Mf b trivial];exact a
  |vb q o f=>rw[hs]at a b;rw[Mf b trivial];exact a
  |_=>
   rw[hs]at a;simp only at a;cases ha:EE σ (.t s)with
   |none=>simp_all
   |some q=>rw[ha]at a;obtain⟨i,_⟩:=gC h ha;have hn:∀d,σ' s≠ .fp d:=λd e=>(by rw[e,hs]at b;simp[IQ,OC]at b);have g:∀q o f,σ' s≠ .vb q o f:=λq o f e=>(by rw[e,hs]at b;simp[IQ,OC]at b);simp_all
theorem sk_lda(h:SkA G σ σ' x)(a:valOf (.Xn x) σ=some v):valOf (.Xn x) σ'=some v:=by
 simp only[valOf]at a |-;split at a
 . rename_i r p i j k s;obtain⟨g,g2⟩:=gC h s;rw[g];simp only at g2 |-;split at a
   . rename_i b B rows f;obtain⟨c,l,m⟩:=eV g2 f;rw[l];simp only;split at a
     . rename_i row u
       have:=skR_at m i;rw[u]at this;obtain⟨e,n,o⟩:=Option.map_eq_some_iff.1 this;rw[n];simp only;split at a
       . rename_i y C w t
         have:=skL_at o j;rw[t]at this;simp only[Option.map_some,OC]at this;obtain⟨c',z,q⟩:=Option.map_eq_some_iff.1 this;obtain⟨d,rfl,_⟩:=To q;simp_all
       . cases a
     . cases a
   . cases a
 . cases a
theorem sk_iad(h:SkA G σ σ' x)(B:SkA G σ σ' y)(q:valOf (.WX n x y) σ=some v):valOf (.WX n x y) σ'=some v:=by
 simp only[valOf]at q |-;have hi:∀k,nJ (ar σ y)=some k->nJ (ar σ' y)=some k:=by
  intro k hn;cases y with
  |c=>exact hn
  |t s=>
   have f:=B.1 s (by simp[F9]);simp only[ar]at hn |-;cases hs:σ s with
   |sc u=>rw[hs]at hn f;rw[Mf f trivial];exact hn
   |_=>rw[hs]at hn;cases hn
 split at q
 . rename_i w rows r p k e hn;rw[hi k hn];have:∃d,hd σ' x=some (.own false w d,some (r,p))/\d.length=rows.length:=by
    cases x with
    |c a=>cases a<;>simp[hd]at e
    |t s=>
     have f:=h.1 s (by simp[F9]);have g:=h.2;simp only[hd]at e |-;cases hs:σ s with
     |own b0 k0 K0=>rw[hs]at e f;simp only[Option.some.injEq,Prod.mk.injEq,AV.own.injEq]at e;obtain⟨⟨rfl,rfl,rfl⟩,rfl,rfl⟩:=e;obtain⟨d,i,C⟩:=To (show OC (σ' s)= .own false k0 (zB K0)from by have:=Tp f;simpa[OC]using this);rw[i];exact⟨d,rfl,tW C⟩
     |al r0 p0=>
      rw[hs]at e f g;rw[Mf f trivial];simp only[KB,List.contains_iff_mem]at g;have l:=h.1 r0 (by simp[F9,g]);simp only at e |-;split at e
      . rename_i m j;simp only[Option.some.injEq,Prod.mk.injEq]at e;obtain⟨rfl,rfl,rfl⟩:=e;obtain⟨d,z,g2⟩:=eV l j;rw[z];exact⟨d,rfl,tW g2⟩
      . cases e
     |_=>simp_all
   grind
 . rename_i b w rows o k e hn;rw[hi k hn];have:∃o',hd σ' x=some (.sl b w rows,o'):=by
    cases x with
    |c a=>cases a<;>simp[hd]at e
    |t s=>
     have f:=h.1 s (by simp[F9]);have g:=h.2;simp only[hd]at e |-;cases hs:σ s with
     |sl b0 k0 K0=>rw[hs]at e f;rw[Mf f trivial];simp_all
     |al r0 p0=>
      rw[hs]at e f g;rw[Mf f trivial];simp only[KB,List.contains_iff_mem]at g;have l:=h.1 r0 (by simp[F9,g]);simp only at e |-;split at e
      . rename_i m j;simp only[Option.some.injEq,Prod.mk.injEq]at e;obtain⟨rfl,_⟩:=e;rw[sub_slS l j];simp_all
      . cases e
     |_=>simp_all
   grind
 . cases q
def W2(G:Gi)(o:BP):List Nat:=match o.op,o.guard,o.dst with
 | .WU a _,none,none=>(F9 G a).map λs=>2*s+1
 |_,_,_=>(SB G o).flatMap λs=>[2*s,2*s+1]
def R2(G:Gi)(o:BP):List Nat:=W2 G o++(match o.op,o.guard,o.dst with
 | .WU _ v,none,none=>(F9 G v).map λs=>2*s+1
 | .Ul _ x,none,some _=>(F9 G x).map λs=>2*s
 | .Xn x,none,some _=>(F9 G x).map λs=>2*s
 | .WX _ x i,none,some _=>(F9 G x++F9 G i).map λs=>2*s
 |_,_,_=>(eG G o).map λs=>2*s+1)
def dR:2*n+1∈(l.flatMap λn=>[2*n,2*n+1])↔n∈l:=bg
theorem QI(s:Nat):JW M n σ s=if s∈M then Df n (σ s)else σ s:=by unfold JW;cases M<;>simp
theorem wr_both(f:∀s∈d.kl,σ' s=σ s)(c:wr d v σ=some τ):∃a,wr d v σ'=some a/\(∀s∈d.d::d.kl,a s=τ s)/\∀s,s∉d.d::d.kl->a s=σ' s:=by
 unfold wr at c |-;split at c
 . rename_i g;obtain rfl:=Option.some.inj c;rw[if_pos g];refine⟨_,rfl,λs b=> ?_,λs b=> ?_⟩
   . by_cases e:s=d.d
     . subst e;simp[DZ]
     . have:s∈d.kl:=(by simpa[e]using b);rw[Ba _ _ e,Ba _ _ e,QI,QI,f s this]
   . simp only[List.mem_cons,not_or]at b;rw[Ba _ _ b.1,QI,if_neg b.2]
 . cases c
theorem mZ(E:O7 io=true)(X:∀d,io.dst=some d->d.rs=G.Gv d.d)(D:∀s,Fj (G.Gv s) (σ s)=true)(C:∀s,2*s+1∈R2 G io->σ' s=σ s)(S:∀s,2*s∈R2 G io->IQ (σ' s)=IQ (σ s))(l:Kl P G io (· =τ) σ):
 ∃b,Kl P G io (· =b) σ'/\(∀s,2*s+1∈W2 G io->b s=τ s)/\∀s,2*s+1∉W2 G io->b s=σ' s:=by
 have q:W2 G io=((SB G io).flatMap λs=>[2*s,2*s+1])->(∀s,s∈eG G io->2*s+1∈R2 G io)->∃b,Kl P G io (· =b) σ'/\(∀s,2*s+1∈W2 G io->b s=τ s)/\∀s,2*s+1∉W2 G io->b s=σ' s:=by
  intro B J;obtain⟨b,I,g2⟩:=Zs E X (⟨λs e=>C s (J s e),λs _=>D s⟩:Ag G (· ∈eG G io) σ σ') l;refine⟨b,I,λs e=> ?_,λs e=> ?_⟩
  . rw[B,dR]at e;exact g2.ag.eq s e
  . rw[B,dR]at e;exact(g2.off s e).1
 have f:∀d op,io=⟨some d,op,none⟩->takes op=[]->W2 G io=((SB G io).flatMap λs=>[2*s,2*s+1])->(∀K σ,ED P G ⟨some d,op,none⟩ K σ=match(match valOf op σ with|some v=>wr d v σ|none=>none)with|some τ=>K τ|none=>False)->
  (∀v,valOf op σ=some v->valOf op σ'=some v)->∃b,Kl P G io (· =b) σ'/\(∀s,2*s+1∈W2 G io->b s=τ s)/\∀s,2*s+1∉W2 G io->b s=σ' s:=by
  intro d op L T V N Bg;have F:SB G io=d.d::d.kl:=by subst L;simp[SB,T]
  subst L;simp only[Kl]at l |-;rw[N]at l;cases m:valOf op σ with
  |none=>simp_all
  |some v=>
   rw[m]at l;simp only at l;cases hwv:wr d v σ with
   |none=>simp_all
   |some Z=>
    rw[hwv]at l;simp only at l;subst l;obtain⟨b,I,g2,g3⟩:=wr_both (σ':=σ') (λs e=>C s (by simp only[R2,List.mem_append];grind)) hwv;refine⟨b,?_,λs e=> ?_,λs e=> ?_⟩
    . simp_all
    . rw[V,dR,F]at e;grind
    grind
 obtain⟨dst,op,guard⟩:=io;have n:∀x:Ar,(∀s∈F9 G x,2*s∈R2 G ⟨dst,op,guard⟩)->SkA G σ σ' x:=by
  intro x W;cases x with
  |c=>trivial
  |t s=>exact⟨λr w=>S r (W r w),D s⟩
 cases guard with
 |some g=>exact q (by cases op<;>rfl) (λs e=>by cases op<;>(simp only[R2,List.mem_append,List.mem_map];grind))
 |none=>
  cases dst with
  |none=>
   cases op with
   |WU a v=>
    simp only[Kl,ED]at l |-;have m:ar σ' v=ar σ v:=by
     cases v with
     |c=>rfl
     |t s=>exact C s (by simp[R2,F9])
    have z:∀s∈F9 G a,σ' s=σ s:=λs e=>C s (by simp only[R2,W2,List.mem_append,List.mem_map];grind);have y:Ag G (· ∈F9 G a) σ σ':=⟨z,λs _=>D s⟩;have O:cOK a=true:=(by simp only[O7,takes,Bool.and_eq_true,List.all_eq_true]at E;exact E.1 a (by simp));have M:VM G (· ∈F9 G a) a:=by
     cases a with
     |c c=>exact O
     |t s=>exact⟨by simp[F9],λr w=>by simp[F9,w]⟩
    split at l
    . rename_i Z h;subst l;simp only[GO]at h |-;rw[m,y.EE M];split at h
      . rename_i u U;split at h
        . rename_i r p i j k Q;have w:r∈F9 G a:=y.Ng M Q;rw[z r w];split at h
          . rename_i b0 k0 rows Bw;split at h
            . rename_i row D1;split at h
              . rename_i u0 R;split at h
                . rename_i t CP;cases h;refine⟨DZ σ' r t,rfl,λs e=> ?_,λs e=> ?_⟩
                  . have H:s∈F9 G a:=(by simp only[W2,List.mem_map]at e;obtain⟨x,B,J⟩:=e;have:x=s:=ah;exact this▸B);simp only[DZ];simp_all
                  . have H:s≠r:=(by rintro rfl;apply e;simp only[W2,List.mem_map];exact⟨s,w,rfl⟩);rw[Ba _ _ H]
                . cases h
              . cases h
            . cases h
          . cases h
        . cases h
      . cases h
    simp_all
   |_=>exact q rfl (λs e=>by simp only[R2,List.mem_append,List.mem_map];grind)
  |some d=>
   cases op with
   |Ul off x=>exact f d _ rfl rfl rfl (λK σ=>rfl) (λv m=>sk_fad (n x λs e=>by simp only[R2,List.mem_append,List.mem_map];grind) m)
   |Xn x=>exact f d _ rfl rfl rfl (λK σ=>rfl) (λv m=>sk_lda (n x λs e=>by simp only[R2,List.mem_append,List.mem_map];grind) m)
   |WX k x i=>exact f d _ rfl rfl rfl (λK σ=>rfl) (λv m=>sk_iad (n x λs e=>by simp only[R2,List.mem_append,List.mem_map];grind) (n i λs e=>by simp only[R2,List.mem_append,List.mem_map];grind) m)
   |_=>exact q rfl (λs e=>by simp only[R2,List.mem_append,List.mem_map];grind)
theorem Wn(q:O7 io=true)(L:∀d,io.dst=some d->d.rs=G.Gv d.d)(z:∀s,Fj (G.Gv s) (σ s)=true)(m:Kl P G io (· =τ) σ):
 (∀s,2*s+1∉W2 G io->τ s=σ s)/\(∀s,2*s∉W2 G io->IQ (τ s)=IQ (σ s))/\∀s,Fj (G.Gv s) (τ s)=true:=by
 have C:=aop_off q L z m;have f:W2 G io=((SB G io).flatMap λs=>[2*s,2*s+1])->(∀s,2*s+1∉W2 G io->τ s=σ s)/\(∀s,2*s∉W2 G io->IQ (τ s)=IQ (σ s))/\∀s,Fj (G.Gv s) (τ s)=true:=by
  intro l;refine⟨λs y=> ?_,λs y=> ?_,C.2⟩
  . grind
  . grind
 obtain⟨dst,op,guard⟩:=io;cases guard with
 |some g=>exact f (by cases op<;>rfl)
 |none=>
  cases dst with
  |some d=>exact f (by cases op<;>rfl)
  |none=>
   cases op with
   |WU a v=>
    simp only[Kl,ED]at m;split at m
    . rename_i Q b;subst m;simp only[GO]at b;split at b
      . rename_i u J;split at b
        . rename_i r p i j k I;have H:cOK a=true:=(by simp only[O7,takes,Bool.and_eq_true,List.all_eq_true]at q;exact q.1 a (by simp));have n:Ag G (· ∈F9 G a) σ σ:=⟨λ_ _=>rfl,λs _=>z s⟩;have K:VM G (· ∈F9 G a) a:=by
           cases a with
           |c c=>exact H
           |t s=>exact⟨by simp[F9],λr D=>by simp[F9,D]⟩
          have D:r∈F9 G a:=n.Ng K I;split at b
          . rename_i M N rows h;split at b
            . rename_i row F;split at b
              . rename_i O w;split at b
                . rename_i t E;cases b;refine⟨λs y=> ?_,λs _=> ?_,C.2⟩
                  . rw[Ba];rintro rfl;apply y;simp only[W2,List.mem_map];grind
                  . by_cases e:s=r
                    . subst e;rw[BM];have l:=put_sk _ (sub_snoc p h F w) E;have B:∀u,σ s≠ .sc u:=λu e=>by
                       rw[e]at h;cases p with
                       |nil=>simp[sub]at h
                       |cons=>simp[sub]at h
                      have x:∀u,t≠ .sc u:=λu e=>by subst e;cases hσ:σ s<;>rw[hσ]at l h<;>first|exact absurd hσ (B _)| (cases p<;>simp[sub]at h;done)| (simp[OC]at l;done)
                      cases hσ:σ s<;>first|exact absurd hσ (B _)| (rw[hσ]at l;cases t<;>first|exact absurd rfl (x _)|exact l)
                    . rw[Ba _ _ e]
                . cases b
              . cases b
            . cases b
          . cases b
        . cases b
      . cases b
    simp_all
   |_=>exact f rfl
def La(G:Gi)(ops:List Oper)(Dj:eP):Bool:=
 Dj.all O7&&WN (VR ops []) (Dj.map λo=>msk (W2 G o)) (Dj.map λo=>msk (R2 G o)) 0 ops
def Gm(G:Gi)(Dj:eP)(j:Nat):List Nat:=match Dj[j]? with|some o=>W2 G o|none=>[]
def Vj(G:Gi)(Dj:eP)(j:Nat):List Nat:=match Dj[j]? with|some o=>R2 G o|none=>[]
end
variable{w0:World}{S0 U0 F:de}{K:dg}{X:eP}{a:Act}{N:e8}{H:ip}{δ:dy}{Fr:dh}{D:DV}{u:Value}{J q:Act->World->Prop}
section
variable{G:Gi}{P:Program}{w:World}
theorem SY(Q:Exit->Act->World->Prop){w:World}(h:Rel G n w0 S0 U0 a w σ)(hN:X.length=ops.size)(B:∀(i:Nat)(o:Oper)(io:BP),ops.toList[i]? =some o->X[i]? =some io->∀d:Dp,io.dst=some d->d.rs=G.Gv d.d)(hd:La G ops.toList X=true)(q:Nat->Sg)(hq0:q 0=σ)(Gw:∀i io,X[i]? =some io->Kl P G io (· =q (i+1)) (q i))(hK:K (q X.length))(J:(Nat->Bool)->Act->World->Prop)(hQ:∀(L:e8) a w σ,(∀j,j<ops.size->L j=true)->J L a w->Rel G n w0 S0 U0 a w σ->K σ->Q .normal a w)(hJ0:J (λj=>(Array.replicate ops.size false).getD j true) a w)(hS:∀(L:e8)(i:Nat) o io a w σ F,ops[i]? =some o->X[i]? =some io->i<ops.size->L i=false->(∀x,((VR ops.toList []).getD i 0).testBit x=true->L x=true)->(∀j,j<ops.size->L j=true->∀x,((VR ops.toList []).getD j 0).testBit x=true->L x=true)->
  J L a w->Rel G n w0 S0 U0 a w σ->Kl P G io (· =F) σ->(∀s,F s=q (FE (λj=>(L j||j==i)) (Gm G X) (2*s+1) ops.size) s)->wpOp P ops Q i (λa' w'=>(∃σ',Rel G n w0 S0 U0 a' w' σ'/\σ'=F)/\J (λj=>(L j||j==i)) a' w') a w):
 wpAny P .any ops Q ops.size (Array.replicate ops.size false) a w:=by
 simp only[La,AAD,AAH]at hd;obtain⟨Fv,KL⟩:=hd;generalize hM:VR ops.toList []=M at KL hS;have Us:=dZ _ KL;simp only[ABM]at Us;have O:∀i,i<ops.size->∃o io,ops[i]? =some o/\ops.toList[i]? =some o/\X[i]? =some io:=by intro i hi;refine⟨ops[i],X[i]' ah,?_,?_,?_⟩<;>simp[hi,hN]
 -- the states of the text's order
 have hwf:∀i,i<=ops.size->∀s,Fj (G.Gv s) (q i s)=true:=by
  intro i;induction i with
  |zero=>intro _ s;rw[hq0];obtain⟨S,δ,Fr,_,_,_,rfl,CP,_⟩:=h;exact CP.rt s
  |succ i ih=>intro hi;obtain⟨o,io,t,u,k⟩:=O i ah;exact(Wn (Fv io (AAP k)) (B i o io u k) (ih ah) (Gw i io k)).2.2
 have hofff:∀j s,j<ops.size->2*s+1∉Gm G X j->q (j+1) s=q j s:=by intro j s l r;obtain⟨o,io,t,u,k⟩:=O j l;exact(Wn (Fv io (AAP k)) (B j o io u k) (hwf j ah) (Gw j io k)).1 s (by simpa[Gm,k]using r)
 have z:∀j s,j<ops.size->2*s∉Gm G X j->IQ (q (j+1) s)=IQ (q j s):=by intro j s l r;obtain⟨o,io,t,u,k⟩:=O j l;exact(Wn (Fv io (AAP k)) (B j o io u k) (hwf j ah) (Gw j io k)).2.1 s (by simpa[Gm,k]using r)
 -- the states with their skeletons beside them
 let Q2:Nat->Sg:=λj x=>if x%2=1 then q j (x/2)else IQ (q j (x/2))
 have Zo:∀j s,Q2 j (2*s+1)=q j s:=λj s=>by
  show(if(2*s+1)%2=1 then q j ((2*s+1)/2)else IQ (q j ((2*s+1)/2)))=q j s
  rw[AAL ah,show(2*s+1)/2=s from by omega]
 have cF:∀j s,Q2 j (2*s)=IQ (q j s):=λj s=>by
  show(if(2*s)%2=1 then q j ((2*s)/2)else IQ (q j ((2*s)/2)))=IQ (q j s)
  simp_all
 have Sk:∀j x,j<ops.size->x∉Gm G X j->Q2 (j+1) x=Q2 j x:=by
  intro j x l H;obtain⟨s,rfl|rfl⟩:∃s,x=2*s\/x=2*s+1:=⟨x/2,ah⟩
  . rw[cF,cF];exact z j s l H
  . rw[Zo,Zo];exact hofff j s l H
 have hWs:∀j,j<ops.size->(X.map λo=>msk (W2 G o)).getD j 0=msk (Gm G X j):=by intro j l;obtain⟨o,io,t,u,k⟩:=O j l;simp[List.getD_eq_getElem?_getD,Gm,k]
 have hRs:∀j,j<ops.size->(X.map λo=>msk (R2 G o)).getD j 0=msk (Vj G X j):=by intro j l;obtain⟨o,io,t,u,k⟩:=O j l;simp[List.getD_eq_getElem?_getD,Vj,k]
 have hWR:∀j s,s∈Gm G X j->s∈Vj G X j:=by
  intro j s r;cases k:X[j]? with
  |none=>simp[Gm,k]at r
  |some io=>simp only[Gm,Vj,k]at r |-;simp only[R2,AAW];grind
 have U:∀j s,2*s∈Gm G X j->2*s+1∈Gm G X j:=by
  intro j s r;cases k:X[j]? with
  |none=>simp[Gm,k]at r
  |some io=>simp only[Gm,k]at r |-;unfold W2 at r |-;grind
 -- pairs that meet are ordered
 have y:∀i j s,i<j->j<ops.size->(s∈Gm G X i/\s∈Vj G X j)\/(s∈Vj G X i/\s∈Gm G X j)->(M.getD j 0).testBit i=true:=by
  intro i j s I8 l r;obtain⟨o,io,t,u,k⟩:=O j l;rcases(Us j o u).2.2 i I8 with⟨g1,g2⟩|g
  . rw[hWs i ah,hRs j l]at g1;rw[hRs i ah,hWs j l]at g2;rcases r with r|r
    . exact(aX g1 r.1 r.2).elim
    . exact(aX g2 r.1 r.2).elim
  . exact g
 -- any order
 have main:∀(fuel:Nat)(b:Array Bool)(a:Act)(w:World),b.size=ops.size->(List.range ops.size).countP (λi=> !b.getD i true)<=fuel->
  (∀j,j<ops.size->b.getD j true=true->∀i,(M.getD j 0).testBit i=true->b.getD i true=true)->
  (∃σ,Rel G n w0 S0 U0 a w σ/\∀s,σ s=q (FE (λj=>b.getD j true) (Gm G X) (2*s+1) ops.size) s)->J (λj=>b.getD j true) a w->wpAny P .any ops Q fuel b a w:=by
  have done:∀(b:Array Bool)(a:Act)(w:World),(∀j,j<ops.size->b.getD j true=true)->J (λj=>b.getD j true) a w->(∃σ,Rel G n w0 S0 U0 a w σ/\∀s,σ s=q (FE (λj=>b.getD j true) (Gm G X) (2*s+1) ops.size) s)->Q .normal a w:=by
   rintro b a w W hJ ⟨σ,t,u⟩;have:σ=q ops.size:=by
    funext s;rw[u s]
    have:=xV W Sk (2*s+1) _ (AAe _);rw[Zo,Zo]at this;exact this
   subst this;exact hQ _ a w _ W hJ t (by rw[<- hN];exact hK)
  intro fuel;induction fuel with
  |zero=>
   intro b a w PQ hcnt MM CP hJ;have W:∀j,j<ops.size->b.getD j true=true:=by
    intro j l;have f:(List.range ops.size).countP (λi=> !b.getD i true)=0:=ah;rw[List.countP_eq_zero]at f
    have:=f j (by simp[l]);simpa using this
   refine⟨?_,done b a w W hJ CP⟩;simp only[Region.ready,List.filter_eq_nil_iff,List.mem_range];intro j l;simp[W j l]
  |succ fuel ih=>
   intro b a w PQ hcnt MM CP hJ;refine⟨λhnil=> ?_,λi hi=> ?_⟩
   . refine done b a w ?_ hJ CP;intro j;induction j using Nat.strongRecOn with
     |_ j ihj=>
      intro l;cases v:b.getD j true with
      |true=>rfl
      |false=>
       exfalso;obtain⟨o,io,t,u,k⟩:=O j l;have:j∈Region.ready .any ops b:=by
        simp only[Region.ready,List.mem_filter,List.mem_range];refine⟨l,?_⟩;simp only[v,Bool.not_false,AAY,t,AAf,Option.getD_some,Array.all_eq_true'];intro e he;cases hb:Region.binds .any e with
        |false=>rfl
        |true=>have Dz:=(Us j o u).2.1 e (by simpa using he) hb;have hl':=ihj e.on Dz ah;have r:e.on<b.size:=ah;simp only[AAZ,Array.getElem?_eq_getElem r,Option.getD_some]at hl' |-;simp[hl']
       rw[hnil]at this;cases this
   . simp only[Region.ready,List.mem_filter,List.mem_range,AAD,ABP]at hi;obtain⟨C,N,SF⟩:=hi;obtain⟨o,io,t,u,k⟩:=O i C;simp only[t,AAf,Option.getD_some,Array.all_eq_true',AAk,ABP]at SF;obtain⟨hsp1,hsp2,_⟩:=Us i o u;obtain⟨σ,Hv,hσ⟩:=CP
     -- all that is ahead of i is listed
     have KT:∀x,(M.getD i 0).testBit x=true->b.getD x true=true:=by
      intro x H;rw[hsp1]at H;obtain⟨e,he,hb,hor⟩:=bef_bit H;have Dz:=hsp2 e he hb;have hle:b.getD e.on true=true:=(by have:=(SF e (by simpa using he)).resolve_left (by simp[hb]);have r:e.on<b.size:=ah;simp only[AAZ,Array.getElem?_eq_getElem r,Option.getD_some]at this |-;exact this);rcases hor with rfl|hor
      . exact hle
      . exact MM e.on ah hle x hor
     have I:∀j,(b.setIfInBounds i true).getD j true=(b.getD j true||j==i):=by
      intro j;simp only[AAZ,ABB];by_cases e:i=j
      . subst e;simp;split<;>simp
      . have e':¬j=i:=λx=>e x.symm;simp[e,e']
     have ZH:∀j s,j<i->s∈Gm G X j->s∈Vj G X i->b.getD j true=true:=λj s l r Gu=>KT j (y j i s l C (.inl ⟨r,Gu⟩));have NK:∀j s,i<j->j<ops.size->s∈Gm G X j->s∈Vj G X i->b.getD j true=true->b.getD i true=true:=λj s l D r Gu v=>MM j D v i (y i j s l D (.inr ⟨Gu,r⟩));have hA:∀x,x∈Vj G X i->Q2 (FE (λj=>b.getD j true) (Gm G X) x ops.size) x=Q2 i x:=λx H=>
      lastW_at (L:=λj=>b.getD j true) (R:=Vj G X) N C Sk ZH NK H
     have hf:∀s,2*s+1∈R2 G io->σ s=q i s:=λs r=>by
      rw[hσ s]
      have:=hA (2*s+1) (by simpa[Vj,k]using r);rw[Zo,Zo]at this;exact this
     -- writers of one slot are ordered
     have hord:∀j m s,j<m->m<ops.size->2*s+1∈Gm G X j->2*s+1∈Gm G X m->b.getD m true=true->b.getD j true=true:=
      λj m s hjm hm t u v=>MM m hm v j (y j m (2*s+1) hjm hm (.inl ⟨t,hWR m _ u⟩))
     have W:∀s m,m<=ops.size->(∀j,j<m->2*s∈Gm G X j->b.getD j true=true)->IQ (q (FE (λj=>b.getD j true) (Gm G X) (2*s) m) s)=IQ (q m s):=by
      intro s m;induction m with
      |zero=>intro _ _;rfl
      |succ m ihm=>
       intro hm v;simp only[FE];by_cases h:2*s∈Gm G X m
       . rw[AAL ⟨v m ah h,h⟩]
       . rw[AAK (λx=>h x.2),ihm ah (λj l=>v j ah),z m s ah h]
     have Z:∀s m,m<=ops.size->IQ (q (FE (λj=>b.getD j true) (Gm G X) (2*s+1) m) s)=IQ (q (FE (λj=>b.getD j true) (Gm G X) (2*s) m) s):=by
      intro s m;induction m with
      |zero=>intro _;rfl
      |succ m ihm=>
       intro hm;simp only[FE];by_cases E:b.getD m true=true
       . by_cases f:2*s∈Gm G X m
         . rw[AAL ⟨E,U m s f⟩,AAL ⟨E,f⟩]
         . rw[AAK (c:=_/\2*s∈_) (λx=>f x.2)];by_cases t:2*s+1∈Gm G X m
           . rw[AAL ⟨E,t⟩,z m s ah f];exact(W s m ah λj l hw=>hord j m s l ah (U j s hw) t E).symm
           . rw[AAK (λx=>t x.2)];exact ihm ah
       . rw[AAK (λx=>E x.1),AAK (λx=>E x.1)];exact ihm ah
     have hk:∀s,2*s∈R2 G io->IQ (σ s)=IQ (q i s):=λs r=>by
      rw[hσ s,Z s _ (AAe _)]
      have:=hA (2*s) (by simpa[Vj,k]using r);rw[cF,cF]at this;exact this
     obtain⟨F,hτ,hmv1,hmv2⟩:=mZ (Fv io (AAP k)) (B i o io u k) (hwf i ah) hf hk (Gw i io k);have T:(λj=>(b.setIfInBounds i true).getD j true)=λj=>(b.getD j true||j==i):=funext I;have V:∀s,F s=q (FE (λj=>(b.getD j true||j==i)) (Gm G X) (2*s+1) ops.size) s:=by
      intro s;by_cases r:2*s+1∈Gm G X i
      . rw[lastW_in (L:=λj=>b.getD j true) C (λj=>rfl) N (λj s l D t u k=>NK j s l D t (hWR i s u) k) r];exact hmv1 s (by simpa[Gm,k]using r)
      . rw[xW (L:=λj=>b.getD j true) (i:=i) (λj=>rfl) r,<- hσ s];exact hmv2 s (by simpa[Gm,k]using r)
     refine wpOp_mono ?_ (hS (λj=>b.getD j true) i o io a w σ F t k C N KT MM hJ Hv hτ V)
     . rintro a' w' ⟨⟨σ2,aH,rfl⟩,hJ'⟩;refine ih _ a' w' (by simp[PQ]) ?_ ?_ ⟨σ2,aH,?_⟩ (by rw[T];exact hJ')
       . have:=vW (p:=λi=> !b.getD i true) (p':=λj=> !(b.setIfInBounds i true).getD j true) (λj l=>by simp only[I]at l;simp at l |-;exact l.1) (i:=i) (by simp[N]) (by simp[I]) ops.size C;omega
       . intro j D v x H;rw[I]at v |-;simp only[AAk,AAR]at v |-;rcases v with v|rfl
         . exact .inl (MM j D v x H)
         . exact .inl (KT x H)
       . intro s;rw[T];exact V s
 refine main ops.size _ a w ak (by exact AA5 (List.countP_le_length) (by simp)) ?_ ⟨σ,h,λs=> ?_⟩ hJ0
 . intro j l v;simp[AAZ,l]at v
 . have:∀m,m<=ops.size->FE (λj=>(Array.replicate ops.size false).getD j true) (Gm G X) (2*s+1) m=0:=by
    intro m;induction m with
    |zero=>intro _;rfl
    |succ m ih=>intro hm;simp only[FE];rw[AAK,ih ah];rintro⟨t,_⟩;have PL:m<ops.size:=ah;simp[AAZ,PL]at t
   rw[this _ (AAe _),hq0]
theorem Uu:∀m,(∀j,j<m->N j=true->j<f)->FE N H n m<=f
 |0,_=>Nat.zero_le _
 |m+1,h=>by
  simp only[FE];split
  . grind
  . exact Uu m λj a=>h j ah
theorem Te(hn:a.tmps.size=n)(q:a.defers=[])(i:Rd δ a)(g:St G w S0 δ Fr)(r:Nx w0 F U0 w S0 (BJ Fr))(l:∀b,S0 b->b<w.heap.size)(hd:I5 G a o (some d))(E:Ok w S0 D (λ_=>False))(u:Dc δ D)(z:wr d D.er (λs=>(δ s).er)=some τ):Rel G n w0 F U0 (a.put o.dst D.A0) w τ:=by
 obtain⟨c,g2,B,C⟩:=hd;obtain⟨f,t,y,v,p,m⟩:=g.wr (D:=D) (Ff:=λ_=>False) g2 B (λ_ _=>rfl) (λ_ _ _=>rfl) (λ_ h=>h) (λs x e=>(g.ok s).Et x e) E (λ_ _ _ h=>h) u z;refine⟨S0,f,t,?_,?_,?_,v,y,r.trans (Nx.less λx e=>(m x e).elim id False.elim),l⟩
 . rw[c];simpa[Act.put]using hn
 . rw[c];simpa[Act.put]using q
 . intro s;rw[c,Ik a d.d D.A0 C s,p s];split
   . rfl
   . exact i s
def Z7:Yv->Bool
 | .cp _| .Ul .. | .ld .. | .Xn _| .WX .. | .mkf .. =>true
 |_=>false
def W3(P:Program)(G:Gi)(n:Nat)(f:zV)(ops:Array Oper)(M:dF)(i:Nat)(o:Oper)(io:BP):Bool:=
 Dy G n o.dst io.dst&&o.guard.isNone&&io.guard.isNone&&
 (if i=f.i0 then(match io.op,io.dst with| .fl,some d=>d.d==f.d0|_,_=>false)&&(match o.op with
  | .fieldAddr t (.tmp s) fi=>s==f.r&&(match P.underlying t with
   |some (.struct fs)=>match fs[fi]? with
    |some fd=>fd.offset==f.off&&(match Ga P fd.type with|some m=>m != 0|none=>false)
    |none=>false
   |_=>false)
  |_=>false)
  else if i=f.i1 then(match io.op,io.dst with| .fl,some d=>d.d==f.d1|_,_=>false)&&(match o.op with
   | .load t (.tmp s)=>s==f.d0&&Ga P t==some 1&&JK P t==some false
   |_=>false)&&(M.getD i 0).testBit f.i0
  else(match io.dst with|some d=>d.d != f.r&&d.d != f.d0&&d.d != f.d1|none=>true)&&
   (if i=f.i2 then(match io.op,o.op,io.dst with
    | .jQ r off kb k j,.indexAddr t (.tmp s) x,some _=>r==f.r&&off==f.off&&kb==f.kb&&s==f.d1&&(match P.underlying t with|some (.slice e)=>Ga P e==some k|_=>false)&&CR x j
    |_,_,_=>false)&&(M.getD i 0).testBit f.i1&&(M.getD i 0).testBit f.i0
   else G0 P G n ops o io&&(if i<f.i2 then Z7 io.op||(match io.op with| .call _ _ 4=>true|_=>false)else(M.getD i 0).testBit f.i2)))
def oF(P:Program)(G:Gi)(n:Nat)(f:zV)(ops:Array Oper)(Dj:eP):Bool:=
 decide (Dj.length=ops.size)&&decide (f.d0≠f.r)&&decide (f.d1≠f.r)&&decide (f.d0≠f.d1)&&decide (f.i0≠f.i1)&&decide (f.i0<f.i2)&&decide (f.i1<f.i2)&&decide (f.i2<ops.size)&&La G ops.toList Dj&&
 (List.range ops.size).all λi=>match ops[i]?,Dj[i]? with
  |some o,some io=>W3 P G n f ops (VR ops.toList []) i o io
  |_,_=>false
variable{Q:Exit->Act->World->Prop}
theorem P3(hi:ops[n]? =some o)(c:o.guard=none)(b:(execOp a.eval o).run P w= .ok (.value u) w)(h:J (a.put o.dst u) w):wpOp P ops Q n J a w:=by unfold wpOp;rw[hi];simp only[Region.wanted,c,AAi];refine .inl ?_;unfold Oper.wp;rw[b];exact h
theorem mA(hi:ops[n]? =some o)(e:o.guard=none)(c:(execOp a.eval o).run P w= .ok (.value u) w)(d:J (a.put o.dst u) w)(h:wpOp P ops Q n q a w):wpOp P ops Q n (λb w'=>q b w'/\J b w') a w:=by unfold wpOp at h |-;rw[hi]at h |-;simp only[Region.wanted,e,AAi]at h |-;refine h.imp (λh=> ?_) id;unfold Oper.wp at h |-;rw[c]at h |-;exact⟨h,d⟩
theorem fl_run(h:Rel G n w0 F U0 a w σ)(b:JR P o.op io.op=true)(s:Z7 io.op=true)(d:valOf io.op σ=some v):∃u,(execOp a.eval o).run P w= .ok (.value u) w:=by
 obtain⟨S,δ,Fr,hn,L,l,rfl,i,M,K⟩:=h;have E:Gives P w S δ a o v->∃u,(execOp a.eval o).run P w= .ok (.value u) w:=λ⟨u,h,_⟩=>⟨u,h⟩;apply E;obtain⟨dst,I,g⟩:=io;simp only at b s d;cases I with
 |cp y=>cases ho:o.op<;>rw[ho]at b<;>first| (simp[JR]at b;done)|exact Sd i l (.inl ho) b d|exact Sd i l (.inr ho) b d
 |Ul off y=>
  cases ho:o.op<;>rw[ho]at b<;>first| (simp[JR]at b;done)|skip
  rename_i t x Q;simp only[JR,AAD]at b;obtain⟨c,p⟩:=b;split at c
  . rename_i R r;split at c
    . rename_i O q;simp only[AAD,AAR]at c;obtain⟨D,g2⟩:=c;split at g2
      . rename_i m H;simp only[bne_iff_ne]at g2;exact aB i l ho r q D H g2 p d
      . cases g2
    . cases c
  . cases c
 |ld gg m y=>
  cases ho:o.op<;>rw[ho]at b<;>first| (simp[JR]at b;done)|skip
  simp only[JR,AAD,AAk,AAR]at b;exact Se i l ho b.1.1.1 b.1.1.2 b.1.2 b.2 d
 |Xn y=>
  cases ho:o.op<;>rw[ho]at b<;>first| (simp[JR]at b;done)|skip
  simp only[JR,AAD,AAR]at b;exact Se i l ho b.1.1 b.1.2 (.inr rfl) b.2 (lda_ld d)
 |WX k y j=>
  cases ho:o.op<;>rw[ho]at b<;>first| (simp[JR]at b;done)|skip
  simp only[JR,AAD]at b;obtain⟨⟨c,p⟩,z⟩:=b;split at c
  . rename_i e r;exact aC i l ho r (UO c) p z d
  . cases c
 |mkf f ys=>
  cases ho:o.op<;>rw[ho]at b<;>first| (simp[JR]at b;done)|skip
  rename_i C first N
  cases C with
  |func f'=>simp only[JR,AAD,AAR]at b;obtain⟨⟨rfl,c⟩,p⟩:=b;exact aD i l ho am p d
  |_=>simp[JR]at b
 |_=>cases s
theorem iR(t:Y2 w0 F U0)(Q:Exit->Act->World->Prop)(v:∀a w σ,Rel G n w0 F U0 a w σ->K σ->Q .normal a w){w:World}(h:Rel G n w0 F U0 a w σ)(x:Lb P G n ops ops.toList X=true)(hd:La G ops.toList X=true)(y:Nh P G X K σ):wpAny P .any ops Q ops.size (Array.replicate ops.size false) a w:=by
 obtain⟨m,l⟩:=vQ _ x;obtain⟨q,g,r,u⟩:=RF X y;refine SY Q h am (λi o io e f=>W4 (l i o io e f)) hd q g r u (λ_ _ _=>True) (λ_ a w σ _ _ h k=>v a w σ h k) trivial ?_;intro L i o io a w σ z e f _ _ _ _ _ s p _;exact wpOp_mono (λB w' h=>⟨h,trivial⟩) (IZ t s (l i o io am f) p Q e)
end
variable{B:eP}
section
variable{G:Gi}{P:Program}{w:World}
def FJ(f:zV)(b:Nat)(h:Value)(L:e8)(a:Act)(w:World):Prop:=
 L f.i2=false->a.tmps.getD f.r undef= .pointer (some ⟨b,0,none⟩)/\w.cell? ⟨b,f.off,none⟩=some h/\(L f.i0=true->a.tmps.getD f.d0 undef= .pointer (some ⟨b,f.off,none⟩))/\(L f.i1=true->a.tmps.getD f.d1 undef=h)
theorem jT(h:dN n f v=true):∃row,v= .own true n [row]/\f<row.length:=by
 unfold dN at h;split at h
 . rename_i k row;simp only[AAD,AAR,AAV]at h;exact⟨row,by rw[h.1],h.2⟩
 . cases h
theorem box_at(h:St G w F δ Fr)(a:(δ n).er= .own true f [row]):∃b e,δ n= .own (.pointer (some ⟨b,0,none⟩)) true f [e]/\e.map DV.er=row/\
 (∀(j:Nat) d,e[j]? =some d->w.cell? ⟨b,j,none⟩=some d.A0/\∃S,Ok w F d S):=by
 have kb:=h.ok n;cases hδ:δ n with
 |lf x v=>rw[hδ]at a kb;simp at a;subst a;cases kb with|lf _ _ _ hl _=>simp[Hc]at hl
 |agg=>rw[hδ]at a;simp at a
 |BQ=>rw[hδ]at a;simp at a
 |own hh bx k0 Ao=>
  rw[hδ]at a kb;simp only[Eg,AV.own.injEq]at a;obtain⟨rfl,rfl,i⟩:=a;obtain⟨e,rfl,k⟩:=ABJ.1 i;cases kb with
  |own _ _ _ b c arr E Fs _ hb hk D3 LJ hv hrr hd Bg KE hF=>
   refine⟨b,e,by simp[JT],k,λj d g=>⟨?_,Fs 0 j,hrr 0 j e d rfl g⟩⟩
   have:=hv 0 j e d rfl g;simp only[Nat.zero_mul,ABM]at this;simp[World.cell?,hb,this]
theorem wF(hG:Y2 w0 S0 U0)(Q:Exit->Act->World->Prop)(hQ:∀a w σ,Rel G n w0 S0 U0 a w σ->K σ->Q .normal a w){w:World}{f:zV}(h:Rel G n w0 S0 U0 a w σ)(hc:oF P G n f ops X=true)(q:Nat->Sg)(hq0:q 0=σ)(Gw:∀i io,X[i]? =some io->Kl P G io (· =q (i+1)) (q i))(hK:K (q X.length))(hbx:∀m,m<=f.i2->dN f.kb f.off (q m f.r)=true):
 wpAny P .any ops Q ops.size (Array.replicate ops.size false) a w:=by
 simp only[oF,AAD,AAV,AAH]at hc;obtain⟨⟨⟨⟨⟨⟨⟨⟨⟨hN,n1⟩,n2⟩,n3⟩,n4⟩,n5⟩,n6⟩,n7⟩,jB⟩,IH⟩:=hc;have FB:∀i o io,ops[i]? =some o->X[i]? =some io->W3 P G n f ops (VR ops.toList []) i o io=true:=by
  intro i o io M h2;have hi:i<ops.size:=(AAs.1 M).1
  have:=IH i (by simpa using hi);rw[M,h2]at this;exact this
 -- the beginning
 obtain⟨N,hL,hJ0⟩:∃N hL,FJ f N hL (λj=>(Array.replicate ops.size false).getD j true) a w:=by
  obtain⟨S,δ,Fr,hn,EG,ha,rfl,CP,Eh,C7⟩:=h;obtain⟨row,hr,Z⟩:=jT (hbx 0 (Nat.zero_le _));rw[hq0]at hr;obtain⟨b,Im,M,h2,h3⟩:=box_at CP hr;have hl:f.off<Im.length:=by rw[<- h2]at Z;simpa using Z
  refine⟨b,(Im[f.off]).A0,λ_=>⟨?_,(h3 f.off _ (AAJ hl)).1,?_,?_⟩⟩
  . rw[ha f.r,M];simp
  . intro z;simp[AAZ,show f.i0<ops.size by omega]at z
  . intro z;simp[AAZ,show f.i1<ops.size by omega]at z
 refine SY Q h hN ?_ jB q hq0 Gw hK (FJ f N hL) (λ_ a w σ _ _ h k=>hQ a w σ h k) hJ0 ?_
 . intro i o io M h2 d hd
   have:=FB i o io (by simpa using M) h2;simp only[W3,AAD]at this;have h3:=this.1.1.1;rw[hd]at h3;cases ho:o.dst with
   |none=>rw[ho]at h3;simp[Dy]at h3
   |some t=>rw[ho]at h3;simp only[Dy,AAD,AAR]at h3;exact h3.1.2
 . intro L i o io a w σ J M h2 hiN hLi KT MM hJ Hv p hτs;have C:=FB i o io M h2;simp only[W3,AAD,AA0]at C;obtain⟨⟨⟨Kq,pG⟩,NJ⟩,C⟩:=C;obtain⟨dst,sU,g⟩:=io;simp only at NJ;subst NJ;simp only at Kq C;by_cases e0:i=f.i0
   . -- the address
     subst e0;rw[AAL rfl]at C;simp only[AAD]at C;obtain⟨I,F⟩:=C;split at I
     . rename_i d;simp only[AAR]at I;split at F
       . rename_i t s fi ho;simp only[AAD,AAR]at F;obtain⟨rfl,F⟩:=F;split at F
         . rename_i fs hu;split at F
           . rename_i fd hff;simp only[AAD,AAR]at F;obtain⟨g1,g2⟩:=F;split at g2
             . rename_i m hm;simp only[bne_iff_ne]at g2;obtain⟨S,δ,Fr,hn,EG,ha,rfl,CP,Eh,C7⟩:=Hv;have hd:=EV (a:=a) Kq hn;have U:∀u s,(a.put o.dst u).tmps.getD s undef=if s=d.d then u else a.tmps.getD s undef:=λu s=>by rw[hd.1,Ik a d.d u hd.2.2.2 s]
               have Lx:wr d (DV.lf .dead (.pointer (some ⟨N,f.off,none⟩))).er (λs=>(δ s).er)=some J:=by
                simp only[Kl,ED,GO,valOf]at p;split at p
                . rename_i υ y;rw[EY,y,p]
                . exact p.elim
               by_cases T:L f.i2=true
               . exact absurd (MM f.i2 n7 T f.i0 (by
                  obtain⟨W,B,q1,q2⟩:∃W B,ops[f.i2]? =some W/\X[f.i2]? =some B:=⟨ops[f.i2],X[f.i2]' ah,by simp[n7],by simp[hN,n7]⟩
                  have:=FB f.i2 W B q1 q2;simp only[W3,AAD]at this;rw[AAK ah,AAK ah]at this;simp only[AAi,AAD]at this;exact this.2.2.2)) (by rw[hLi];decide)
               . have O:L f.i2=false:=(by simpa using T);obtain⟨j1,j2,j3,j4⟩:=hJ O;refine P3 (u:=.pointer (some ⟨N,f.off,none⟩)) M pG ?_ ⟨⟨J,Te (D:=.lf .dead (.pointer (some ⟨N,f.off,none⟩))) hn EG ha CP Eh C7 hd (.lf _ _ _ trivial (λ_ h=>h)) (Dc.dead _) Lx,rfl⟩,λz=> ?_⟩
                 . have he:a.eval (.tmp f.r)= .pointer (some ⟨N,0,none⟩):=(by simpa[Act.eval]using j1);simp only[execOp,ho,he,Sem.run_bind,Md hu hff hm g2,Result.andThen_ok,Sem.run_pure,g1,ABM]
                 . simp only[KN];refine⟨by rw[U,AAK (by rw[I];exact Ne.symm n1)];exact j1,j2,λ_=>by rw[U,AAL I.symm],λhx1=> ?_⟩;rw[U,AAK (by rw[I];exact Ne.symm n3)];exact j4 (by simpa[Ne.symm n4]using hx1)
             . cases g2
           . cases F
         . cases F
       . cases F
     . cases I
   rw[AAK e0]at C;by_cases e1:i=f.i1
   . -- the load
     subst e1;rw[AAL rfl]at C;simp only[AAD]at C;obtain⟨⟨I,F⟩,k3⟩:=C;split at I
     . rename_i d;simp only[AAR]at I;split at F
       . rename_i t s ho;simp only[AAD,AAR]at F;obtain⟨⟨rfl,F⟩,k4⟩:=F;obtain⟨S,δ,Fr,hn,EG,ha,rfl,CP,Eh,C7⟩:=Hv;have hd:=EV (a:=a) Kq hn;have U:∀u s,(a.put o.dst u).tmps.getD s undef=if s=d.d then u else a.tmps.getD s undef:=λu s=>by rw[hd.1,Ik a d.d u hd.2.2.2 s]
         have Lx:wr d (DV.lf .dead hL).er (λs=>(δ s).er)=some J:=by
          simp only[Kl,ED,GO,valOf]at p;split at p
          . rename_i υ y;rw[EY,y,p]
          . exact p.elim
         by_cases T:L f.i2=true
         . exact absurd (MM f.i2 n7 T f.i1 (by
            obtain⟨W,B,q1,q2⟩:∃W B,ops[f.i2]? =some W/\X[f.i2]? =some B:=⟨ops[f.i2],X[f.i2]' ah,by simp[n7],by simp[hN,n7]⟩
            have:=FB f.i2 W B q1 q2;simp only[W3,AAD]at this;rw[AAK ah,AAK ah]at this;simp only[AAi,AAD]at this;exact this.2.2.1.2)) (by rw[hLi];decide)
         . have O:L f.i2=false:=(by simpa using T);obtain⟨j1,j2,j3,j4⟩:=hJ O;have j3':=j3 (KT f.i0 k3);refine P3 (u:=hL) M pG ?_ ⟨⟨J,Te (D:=.lf .dead hL) hn EG ha CP Eh C7 hd (.lf _ _ _ trivial (λ_ h=>h)) (Dc.dead _) Lx,rfl⟩,λz=> ?_⟩
           . have he:a.eval (.tmp f.d0)= .pointer (some ⟨N,f.off,none⟩):=by simpa[Act.eval]using j3'
             have:=K1 (P:=P) (w:=w) (b:=N) (off:=f.off) (vs:=[hL]) F k4 (.inr rfl) rfl (λj v H=>by
              cases j with
              |zero=>simp only[AAt,AAC]at H;subst H;exact j2
              |succ j=>simp at H)
             simp only[execOp,ho,he,Instr.loadAt,Instr.sureAddr,Sem.run_bind,Sem.run_pure,Result.andThen_ok,this];rfl
           . simp only[KN];refine⟨by rw[U,AAK (by rw[I];exact Ne.symm n2)];exact j1,j2,λhx0=> ?_,λ_=>by rw[U,AAL I.symm]⟩;rw[U,AAK (by rw[I];exact n3)];exact j3'
       . cases F
     . cases I
   rw[AAK e1]at C;simp only[AAD]at C;obtain⟨Lw,C⟩:=C;by_cases e2:i=f.i2
   . -- the index
     subst e2;rw[AAL rfl]at C;simp only[AAD]at C;obtain⟨⟨I,F⟩,k3⟩:=C;split at I
     . rename_i r off kb k j t s x d ho;simp only[AAD,AAR]at I;obtain⟨⟨⟨⟨⟨rfl,rfl⟩,rfl⟩,rfl⟩,k4⟩,k5⟩:=I;split at k4
       . rename_i e hu;have hk:=UO k4;obtain⟨S,δ,Fr,hn,EG,ha,rfl,CP,Eh,C7⟩:=Hv;have hd:=EV (a:=a) Kq hn;obtain⟨j1,j2,j3,j4⟩:=hJ hLi;have j4':=j4 (KT f.i1 F);obtain⟨hj,hej⟩:=Am k5 ha;simp only[Kl,ED,GO]at p;cases H:valOf (.jQ f.r f.off f.kb k j) (λs=>(δ s).er)with
         |none=>rw[H]at p;exact p.elim
         |some v=>
          rw[H]at p;simp only at p;have hwv:wr d v (λs=>(δ s).er)=some J:=by
           split at p
           . rename_i υ y;rw[y,p]
           . exact p.elim
          simp only[valOf]at H;split at H
          . rename_i kb' row n0 hr hn0;split at H
            . rename_i k' rows Bp;split at H
              . rename_i FQ;obtain⟨rfl,rfl,h0,Z⟩:=FQ;obtain rfl:=AAG H;obtain⟨b,Im,g1,g2,g3⟩:=box_at CP hr;have hb:b=N:=(by have:=ha f.r;rw[j1,g1]at this;simpa using this.symm);subst hb;rw[<- g2,AAN,AAc]at Bp;obtain⟨D,hD,FP⟩:=Bp;obtain⟨g4,FD,g5⟩:=g3 f.off D hD;rw[j2,AAC]at g4;obtain⟨kk,hn0⟩:=Ni hn0;obtain⟨ei,_⟩:=CP.Ew hj hn0;have Bw:Au (δ f.r) [(0,f.off,f.kb)]=some D:=(by rw[g1];simp[Au,hD]);have he1:a.eval (.tmp f.d1)=hL:=(by simpa[Act.eval]using j4');cases hDD:D with
                |lf x1 v1=>rw[hDD]at FP g5;simp at FP;subst FP;cases g5 with|lf _ _ _ hl _=>simp[Hc]at hl
                |agg=>rw[hDD]at FP;simp at FP
                |BQ=>rw[hDD]at FP;simp at FP
                |own hh bx k0 Ao=>
                 rw[hDD]at FP g5 g4 Bw;simp only[Eg,AV.own.injEq]at FP;obtain⟨rfl,rfl,KL⟩:=FP;simp only[Kf]at g4;have V:Ao.length=rows.length:=(by rw[<- KL];simp);cases g5 with
                 |nil=>simp at V;rw[<- V]at Z;simp at Z;omega
                 |own _ _ _ bb c arr E Fs _ iY fH D3 LJ pQ dI hdd' Bg KE hF=>
                  have hLf:Lf w S δ (.Kk f.r [(0,f.off,f.kb)] n0.toNat 0 k0) (.pointer (some ⟨bb,n0.toNat*k0+0,none⟩)):=Lf.Kk Bw ak;obtain⟨D2,q1,q2,q3,q4⟩:=hLf;refine P3 (u:=D2.A0) M pG ?_ ⟨⟨J,Te (D:=D2) hn EG ha CP Eh C7 hd q3 q4 (by rw[q1];exact hwv),rfl⟩,λz=> ?_⟩
                  . rw[q2];simp only[execOp,ho,he1,g4,hej,ei,JT,Sem.run_bind,AAM,AAT,run_indexAt_slice hu hk h0 (show n0<(Ao.length:Nat)by rw[V];exact Z),Result.andThen_ok,Sem.run_pure];simp
                  . simp at z
              . cases H
            . cases H
          . cases H
       . cases k4
     . cases I
   rw[AAK e2,AAD]at C;obtain⟨Hm,R⟩:=C;have hJn:∀(u:Value) w',(L f.i2=false->w'.cell? ⟨N,f.off,none⟩=w.cell? ⟨N,f.off,none⟩)->FJ f N hL (λj=>(L j||j==i)) (a.put o.dst u) w':=by
    intro u w' hw' z;have SH:L f.i2=false:=(by simp only[Bool.or_eq_false_iff]at z;exact z.1);obtain⟨j1,j2,j3,j4⟩:=hJ SH;have U:∀s,s=f.r\/s=f.d0\/s=f.d1->(a.put o.dst u).tmps.getD s undef=a.tmps.getD s undef:=by
     intro s hs;obtain⟨S,δ,Fr,hn,_⟩:=Hv;cases dst with
     |none=>have h0:o.dst=none:=EV (a:=a) Kq hn;rw[h0];rfl
     |some d=>
      have hd:=EV (a:=a) Kq hn;rw[hd.1,Ik a d.d u hd.2.2.2 s,AAK];simp only[AAD,bne_iff_ne]at Lw;rintro rfl;rcases hs with hs|hs|hs
      . exact Lw.1.1 hs
      . exact Lw.1.2 hs
      . exact Lw.2 hs
    refine⟨by rw[U _ (.inl rfl)];exact j1,by rw[hw' SH];exact j2,λh0=> ?_,λh0=> ?_⟩
    . rw[U _ (.inr (.inl rfl))];exact j3 (by simpa[Ne.symm e0]using h0)
    . rw[U _ (.inr (.inr rfl))];exact j4 (by simpa[Ne.symm e1]using h0)
   by_cases Z:i<f.i2
   . rw[AAL Z]at R;simp only[AAk]at R;rcases R with R|R
     . -- a value
       have hop':JR P o.op sU=true:=by
        simp only[G0,AAD]at Hm
        have:=Hm.2;cases sU<;>first|exact this|cases R
       have H:∃v,valOf sU σ=some v:=by
        simp only[Kl,ED]at p;cases sU<;>first| (cases R;done)|skip
        all_goals
         cases dst with
         |none=>simp[GO]at p
         |some d=>
          simp only[GO]at p;split at p
          . rename_i υ y;split at y
            . exact⟨_,bm⟩
            . cases y
          . exact p.elim
       obtain⟨v,H⟩:=H;obtain⟨u,hu⟩:=fl_run (io:=⟨dst,sU,none⟩) Hv hop' R H;exact mA M pG hu (hJn u w λ_=>rfl) (IZ hG Hv Hm p Q M)
     . -- the call
       split at R
       . rename_i fn args;have hcall:Ji P o.op fn args 4=true:=(by simp only[G0,AAD]at Hm;exact Hm.2);by_cases T:L f.i2=true
         . refine wpOp_mono ?_ (IZ hG Hv Hm p Q M);intro a' w' hr;exact⟨hr,λz=>by simp[T]at z⟩
         have O:L f.i2=false:=(by simpa using T);have hLf:∀j,j<ops.size->(L j||j==i)=true->j<f.i2:=by
          intro j hj z;simp only[AAk,AAR]at z;rcases z with z|rfl
          . rcases Nat.lt_trichotomy j f.i2 with h|h|h
            . exact h
            . subst h;exact absurd z T
            . exfalso;refine T (MM j hj z f.i2 ?_);obtain⟨W,B,q1,q2⟩:∃W B,ops[j]? =some W/\X[j]? =some B:=⟨ops[j],X[j]' ah,by simp[hj],by simp[hN,hj]⟩
              have:=FB j W B q1 q2;simp only[W3,AAD]at this;rw[AAK ah,AAK ah,AAK ah]at this;simp only[AAD]at this
              have:=this.2.2.2;rw[AAK ah]at this;exact this
          . exact Z
         obtain⟨row,l,_⟩:∃row,J f.r= .own true f.kb [row]/\f.off<row.length:=(by rw[hτs f.r];exact jT (hbx _ (Uu _ hLf)));obtain⟨S,δ,Fr,hn,_⟩:=id Hv;have hd:I5 G a o dst:=EV (a:=a) Kq hn;unfold wpOp;rw[M];simp only[Region.wanted,pG,AAi];refine .inl (Oper.wp_mono ?_ (gW (io:=⟨dst,.call fn args 4,none⟩) hG Hv rfl hcall hd (K:=(· =J)) p (rr:=f.r) (kb:=f.kb) ?_ Q))
         . rintro a' w' ⟨hr,It,u,rfl⟩;refine⟨hr,hJn u w' λz=> ?_⟩;obtain⟨j1,_⟩:=hJ z;simp only[World.cell?,It N j1]
         . intro aZ9 τ1 Jc;simp only[Kl,ED]at p;rw[Jc]at p;obtain⟨res,_,FU⟩:=p;split at FU
           . rename_i v H;cases dst with
             |none=>simp only[C2]at FU;rw[FU];exact⟨_,l⟩
             |some d=>
              simp only[C2]at FU;split at FU
              . rename_i υ y;subst FU;unfold wr at y;split at y
                . obtain rfl:=AAG y;simp only[AAD,bne_iff_ne]at Lw;rw[Ba _ _ (Ne.symm Lw.1.1),QI]at l;split at l
                  . cases z:τ1 f.r with
                    |own b0 k0 K0=>rw[z]at l;simp only[Df]at l;cases l;exact⟨_,rfl⟩
                    |_=>rw[z]at l;simp only[Df]at l;first| (split at l<;>cases l;done)|cases l
                  . exact⟨_,l⟩
                . cases y
              . exact FU.elim
           . exact FU.elim
       . cases R
   . -- behind the index
     rw[AAK Z]at R;have T:L f.i2=true:=KT f.i2 R;refine wpOp_mono ?_ (IZ hG Hv Hm p Q M);intro a' w' hr;exact⟨hr,λz=>by simp[T]at z⟩
theorem gG{f:zV}(a:eP):∀{σ:Sg}{K:dg},Qp P G f a K σ->∃q:Nat->Sg,q 0=σ/\(∀i io,a[i]? =some io->Kl P G io (· =q (i+1)) (q i))/\(∀i,i<a.length->dN f.kb f.off (q i f.r)=true)/\K (q a.length):=by
 induction a with
 |nil=>intro σ K h;exact⟨λ_=>σ,rfl,λi io hi=>by simp at hi,λi hi=>by simp at hi,h⟩
 |cons o os ih=>
  intro σ K h;obtain⟨d,h⟩:=h;obtain⟨τ,b,c⟩:=O6.1 h;obtain⟨q,e,g,j,k⟩:=ih c;refine⟨λi=>match i with|0=>σ|i+1=>q i,rfl,λi io hi=> ?_,λi hi=> ?_,by simpa using k⟩
  . cases i with
    |zero=>simp only[AAt,AAC]at hi;subst hi;simp only[e];exact b
    |succ i=>exact g i io (by simpa using hi)
  . cases i with
    |zero=>exact d
    |succ i=>exact j i (by simpa using hi)
theorem floRun{f:zV}(h:Qp P G f X (Nh P G B K) σ):∃q:Nat->Sg,q 0=σ/\(∀i io,(X++B)[i]? =some io->Kl P G io (· =q (i+1)) (q i))/\(∀i,i<X.length->dN f.kb f.off (q i f.r)=true)/\K (q (X++B).length):=by
 obtain⟨q,j,m,n,o⟩:=gG X h;obtain⟨p,g,k,l⟩:=RF B o;refine⟨λi=>if i<X.length then q i else p (i-X.length),?_,λi io hi=> ?_,λi hi=> ?_,?_⟩
 . simp only;split
   . exact j
   . rename_i s;have:X.length=0:=ah;rw[this,Nat.sub_zero,g,this];exact j
 . by_cases c:i<X.length
   . rw[AAg c]at hi
     have:=m i io hi;simp only[c,AAi];by_cases d:i+1<X.length
     . simp only[d,AAi];exact this
     . have e:i+1=X.length:=ah;simp only[d,AAT];rw[e,Nat.sub_self,g,<- e];exact this
   . rw[AAa ah]at hi
     have:=k _ io hi;simp only[c,AAT,show¬i+1<X.length by omega];rw[show i+1-X.length=i-X.length+1 by omega];exact this
 . simp only[hi,AAi];exact n i hi
 . simp only[AAr,show¬X.length+B.length<X.length by omega,AAT,Nat.add_sub_cancel_left];exact l
end
section
variable{G:Gi}{P:Program}{w:World}
variable{Q:Exit->Act->World->Prop}
theorem bX{J:Array Value->Prop}(hi:ops[n]? =some o)(c:∀(b:Act) v,b.tmps=a.tmps->J (b.put o.dst v).tmps)(h:wpOp P ops Q n q a w):
 wpOp P ops Q n (λk w'=>q k w'/\J k.tmps) a w:=by
 unfold wpOp at h |-;rw[hi]at h |-;simp only at h |-;by_cases l:Region.wanted o (yielded ops a.tmps)=true
 . simp only[l,AAi]at h |-;refine h.imp (λh=> ?_) id;unfold Oper.wp at*;generalize (execOp a.eval o).run P w=r at*;cases r with
   |ok x w'=>
    cases x with
    |value v=>exact⟨h,c _ _ rfl⟩
    |skip=>exact⟨h,c _ _ rfl⟩
    |defer d=>exact⟨h,c _ _ rfl⟩
    |enter f args=>
     simp only[Oper.upon]at h |-;refine Calls.mono h λe j g=> ?_;cases e with
     |returned v=>exact⟨g,c _ _ rfl⟩
     |panicked chain=>exact g
     |outgrown=>exact g
    |row row args=>simp only[Oper.upon]at h |-;exact Rows.mono h λv j g=>⟨g,c _ _ rfl⟩
    |_=>simp only[Oper.upon]at h
   |halt x w'=>
    cases x with
    |panic v=>exact h
    |_=>simp only[Oper.upon]at h
 . simp only[l]at h |-;exact⟨h,c _ _ rfl⟩
def rnX(d r:Nat):Operand->Operand
 | .tmp s=>if s=d then .tmp r else .tmp s
 |x=>x
def qQ(d r:Nat):Op->Op
 | .indexAddr t x y=>.indexAddr t (rnX d r x) y
 | .nilCheck x=>.nilCheck (rnX d r x)
 | .extract x k=>.extract (rnX d r x) k
 | .call ⟨.value f,xs,ts⟩=>.call ⟨.value f,xs.map (rnX d r),ts⟩
 |o=>o
theorem Tf(h:a.tmps.getD n undef=a.tmps.getD f undef)(x:Operand):a.eval (rnX n f x)=a.eval x:=by
 cases x with
 |tmp s=>
  simp only[rnX];split
  . rename_i e;subst e;simp only[Act.eval];exact h.symm
  . rfl
 |_=>rfl
theorem yT(h:a.tmps.getD n undef=a.tmps.getD f undef)(o:Oper):execOp a.eval {o with op:=qQ n f o.op}=execOp a.eval o:=by
 have e:a.eval ∘ rnX n f=a.eval:=funext λx=>Tf h x;obtain⟨dst,op,ty,i,b,g⟩:=o;cases op with
 |indexAddr t x y=>simp only[execOp,qQ,Tf h]
 |nilCheck x=>simp only[execOp,qQ,Tf h]
 |extract x k=>simp only[execOp,qQ,Tf h]
 |call c=>
  obtain⟨cl,l,j⟩:=c;cases cl with
  |value r=>simp only[execOp,qQ,resolve,Array.map_map,e]
  |_=>rfl
 |_=>rfl
def Un(Dj:eP)(i1:Nat):ABd Nat:=match Dj[i1]? with
 |some ⟨_,.flk _ k,_⟩=>some k
 |_=>none
def arO(o:im)(v:Value):Prop:=match o with
 |some k=>∃vs:Array Value,v= .tuple vs/\k<vs.size
 |none=>True
def rU(P:Program)(G:Gi)(n:Nat)(fs:fF)(ops:Array Oper)(Dj:eP)(M:dF)(i:Nat)(o:Oper)(io:BP):Bool:=
 Dy G n o.dst io.dst&&
 (match fs.find? (·.2.1==i)with
  |some (r,_,_,d1)=>o.guard.isNone&&io.guard.isNone&&(match io.op,io.dst with| .fl,some d=>d.d==d1| .flk (.t x) _,some d=>d.d==d1&&x==r|_,_=>false)&&(match o.op with| .move (.tmp s)=>s==r|_=>false)&&
   fs.all λf=>f.1 != d1&&(if f.2.1==i then f.1==r&&f.2.2.2==d1 else f.2.2.2 != d1)
  |none=>(match io.dst with|some d=>fs.all λf=>(f.1 != d.d||(M.getD f.2.1 0).testBit i)&&f.2.2.2 != d.d|none=>true)&&
   (match io.op with
   | .fl=>o.guard.isNone&&io.guard.isNone&&io.dst.isSome&&(match o.op with
    | .extract (.tmp t) k=>fs.any λf=>f.2.2.2==t&&(M.getD i 0).testBit f.2.1&&(match Un Dj f.2.1 with|some m=>decide (k<=m)|none=>false)
    |_=>false)
   |_=>match fs.find? (·.2.2.1==i)with
    |some (r,i1,_,d1)=>o.guard.isNone&&(M.getD i 0).testBit i1&&G0 P G n (ops.setIfInBounds i {o with op:=qQ d1 r o.op}) {o with op:=qQ d1 r o.op} io
    |none=>G0 P G n ops o io))
def oE(P:Program)(G:Gi)(n:Nat)(fs:fF)(ops:Array Oper)(Dj:eP):Bool:=
 decide (Dj.length=ops.size)&&(fs.all λf=>decide (f.2.1<ops.size))&&La G ops.toList Dj&&
 (List.range ops.size).all λi=>match ops[i]?,Dj[i]? with
  |some o,some io=>rU P G n fs ops Dj (VR ops.toList []) i o io
  |_,_=>false
theorem tup_ar(h:St G w F δ Fr)(b:(δ n).er= .BQ args)(e:f<args.length):∃vs:Array Value,(δ n).A0= .tuple vs/\f<vs.size:=by
 have c:=(h.ok n).Kt;cases hδ:δ n with
 |lf a v=>rw[hδ]at c b;cases c with|lf _ _ c=>simp only[EY]at b;subst b;simp[C8]at c
 |own=>rw[hδ]at b;simp at b
 |agg=>rw[hδ]at b;simp at b
 |BQ ds=>rw[hδ]at b;simp only[JG,AV.BQ.injEq]at b;subst b;exact⟨_,LF _,by simpa using e⟩
theorem wE(hG:Y2 w0 S0 U0)(Q:Exit->Act->World->Prop)(hQ:∀a w σ,Rel G n w0 S0 U0 a w σ->K σ->Q .normal a w){w:World}{W:fF}(h:Rel G n w0 S0 U0 a w σ)(hc:oE P G n W ops X=true)(Cg:Nh P G X K σ):
 wpAny P .any ops Q ops.size (Array.replicate ops.size false) a w:=by
 simp only[oE,AAD,AAV]at hc;obtain⟨⟨⟨hN,n2⟩,jB⟩,IH⟩:=hc;rw[AAH]at n2 IH;obtain⟨q,hq0,Gw,hK⟩:=RF X Cg;have FB:∀i o io,ops[i]? =some o->X[i]? =some io->rU P G n W ops X (VR ops.toList []) i o io=true:=by
  intro i o io z O;have hi:i<ops.size:=(AAs.1 z).1
  have:=IH i (by simpa using hi);rw[z,O]at this;exact this
 refine SY Q h hN ?_ jB q hq0 Gw hK (λL a _=>∀f∈W,L f.2.1=true->a.tmps.getD f.2.2.2 undef=a.tmps.getD f.1 undef/\arO (Un X f.2.1) (a.tmps.getD f.2.2.2 undef)) (λ_ a w σ _ _ h k=>hQ a w σ h k) ?_ ?_
 . intro i o io z O d hd
   have:=FB i o io (by simpa using z) O;simp only[rU,AAD]at this;have I:=this.1;rw[hd]at I;cases E:o.dst with
   |none=>rw[E]at I;simp[Dy]at I
   |some t=>rw[E]at I;simp only[Dy,AAD,AAR]at I;exact I.1.2
 . intro f y l
   have:=n2 f y;simp only[AAV]at this;simp[AAZ,this]at l
 . intro L i o io a w σ M z O hiN hLi KT MM hJ Hv j hτs;have c:=FB i o io z O;simp only[rU,AAD]at c;obtain⟨H,c⟩:=c;split at c
   . rename_i r _ _ d1 B;simp only[AAD,AA0,AAH,bne_iff_ne]at c;obtain⟨⟨⟨⟨pG,NJ⟩,p⟩,k2⟩,k3⟩:=c;obtain⟨dst,sU,g⟩:=io;simp only at NJ H p;subst NJ;split at k2
     . rename_i s E;simp only[AAR]at k2;subst k2;obtain⟨S,δ,Fr,hn,EG,ha,rfl,CP,Eh,C7⟩:=Hv;have key:∃d,dst=some d/\d.d=d1/\wr d .dead (λs=>(δ s).er)=some M/\arO (Un X i) (a.tmps.getD s undef):=by
        split at p
        . rename_i d;refine⟨d,rfl,by simpa using p,?_,by simp[Un,O,arO]⟩;simp only[Kl,ED,GO,valOf]at j;split at j
          . rename_i υ C;rw[C,j]
          . exact j.elim
        . rename_i x k d;simp only[AAD,AAR]at p;obtain⟨p,rfl⟩:=p;simp only[Kl,ED,GO,valOf]at j;cases l:(δ x).er with
          |BQ cs=>
           simp only[l]at j;by_cases U:k<cs.length
           . simp only[U,AAi]at j;refine⟨d,rfl,p,?_,?_⟩
             . split at j
               . rename_i υ C;rw[C,j]
               . exact j.elim
             . simp only[Un,O,arO];rw[ha x];exact tup_ar CP l U
           . simp[U]at j
          |_=>simp[l]at j
        . cases p
       obtain⟨d,rfl,p,Lx,har⟩:=key;have hd:=EV (a:=a) H hn;have HI:∀u s,(a.put o.dst u).tmps.getD s undef=if s=d.d then u else a.tmps.getD s undef:=λu s=>by rw[hd.1,Ik a d.d u hd.2.2.2 s]
       rw[<- EY .dead (a.tmps.getD s undef)]at Lx;refine P3 (u:=a.tmps.getD s undef) z pG ?_ ⟨⟨M,Te (D:=.lf .dead (a.tmps.getD s undef)) hn EG ha CP Eh C7 hd (.lf _ _ _ trivial (λ_ h=>h)) (Dc.dead _) Lx,rfl⟩,λf y l=> ?_⟩
       . simp[execOp,E,Act.eval]
       . obtain⟨j1,Z⟩:=k3 f y;rw[HI,HI,p,AAK j1];split at Z
         . rename_i e;simp only[AAD,AAR]at Z e;rw[AAL Z.2,Z.1,e];exact⟨rfl,har⟩
         . rename_i e;simp only[bne_iff_ne]at Z;rw[AAK Z];refine hJ f y ?_;simp only[AAk]at l;exact l.resolve_right e
     . cases k2
   . rename_i jJ;simp only[AAD]at c;obtain⟨p,c⟩:=c;have R:∀(b:Act) v,b.tmps=a.tmps->∀f∈W,(L f.2.1||f.2.1==i)=true->(b.put o.dst v).tmps.getD f.2.2.2 undef=(b.put o.dst v).tmps.getD f.1 undef/\arO (Un X f.2.1) ((b.put o.dst v).tmps.getD f.2.2.2 undef):=by
      intro b v F f y l;have e1:¬(f.2.1==i)=true:=List.find?_eq_none.1 jJ f y;have K4:L f.2.1=true:=(by simpa[e1]using l);have T:=hJ f y K4;cases hod:o.dst with
      |none=>simp only[Act.put,F];exact T
      |some t=>
       cases sM:io.dst with
       |none=>rw[hod,sM]at H;simp[Dy]at H
       |some d=>rw[hod,sM]at H;rw[sM]at p;simp only[Dy,AAD,AAR]at H;simp only[AAH,AAD,AAk,bne_iff_ne]at p;have ht:t=d.d:=H.1.1.1;obtain⟨u1,u2⟩:=p f y;have u1:f.1≠d.d:=u1.elim id λiY=>(by have I:=MM f.2.1 (AAO (n2 f y)) K4 i iY;rw[hLi]at I;cases I);simp only[Act.put,F,AAZ,ABB];rw[AAK (by rw[ht];exact Ne.symm u2),AAK (by rw[ht];exact Ne.symm u1)];simpa[AAZ]using T
     split at c
     . rename_i N;simp only[AAD,AA0,Option.isSome_iff_exists]at c;obtain⟨⟨⟨pG,NJ⟩,d,sM⟩,c⟩:=c;obtain⟨dst,sU,g⟩:=io;simp only at NJ H p sM N;subst NJ sM N;split at c
       . rename_i t k E;rw[List.any_eq_true]at c;obtain⟨f,y,c⟩:=c;simp only[AAD,AAR]at c;obtain⟨⟨ht,F⟩,U⟩:=c;have T:=hJ f y (KT _ F);split at U
         . rename_i m hm;rw[hm]at T;obtain⟨vs,hv,hmv⟩:=T.2;have hkv:k<vs.size:=Nat.lt_of_le_of_lt (AAO U) hmv;obtain⟨S,δ,Fr,hn,EG,ha,rfl,CP,Eh,C7⟩:=Hv;have hd:=EV (a:=a) H hn;have Lx:wr d (DV.lf .dead vs[k]).er (λs=>(δ s).er)=some M:=by
            simp only[Kl,ED,GO,valOf]at j;split at j
            . rename_i υ C;rw[EY,C,j]
            . exact j.elim
           refine P3 (u:=vs[k]) z pG ?_ ⟨⟨M,Te (D:=.lf .dead vs[k]) hn EG ha CP Eh C7 hd (.lf _ _ _ trivial (λ_ h=>h)) (Dc.dead _) Lx,rfl⟩,λf y l=>R a _ rfl f y l⟩;simp only[execOp,E,Act.eval,<- ht,hv,Instr.extract,Array.getElem?_eq_getElem hkv];rfl
         . cases U
       . cases c
     split at c
     . rename_i r i1 _ d1 B;simp only[AAD,AA0]at c;obtain⟨⟨pG,F⟩,c⟩:=c;have T:=(hJ _ (ABW B) (KT _ F)).1;have key:=IZ hG Hv c j Q (i:=i) (by simp[hiN]);refine bX z (J:=λV=>∀f∈W,(L f.2.1||f.2.1==i)=true->V.getD f.2.2.2 undef=V.getD f.1 undef/\arO (Un X f.2.1) (V.getD f.2.2.2 undef)) (λb v F=>R b v F) ?_;unfold wpOp at key |-;rw[z];simp only[Array.getElem?_setIfInBounds_self_of_lt hiN,Region.wanted,pG,AAi]at key |-;unfold Oper.wp Oper.asks at*;have l:=yT T o;simp only[pG]at l;rw[l]at key;exact key
     . exact bX z (J:=λV=>∀f∈W,(L f.2.1||f.2.1==i)=true->V.getD f.2.2.2 undef=V.getD f.1 undef/\arO (Un X f.2.1) (V.getD f.2.2.2 undef)) (λb v F=>R b v F) (IZ hG Hv c j Q z)
end
variable{t E:TypeId}{tmps:Array Value}
section
variable{G:Gi}{P:Program}{w:World}
theorem Ss(a:N f=true)(b:n∈H f):∀m,f<m->f<FE N H n m
 |0,h=>absurd h (Nat.not_lt_zero _)
 |m+1,h=>by
  simp only[FE];split
  . omega
  . rename_i c;by_cases e:f=m
    . simp_all
    . exact Ss a b m ah
theorem put_same(p:di):∀{t x:AV},sub t p=some x->put t p x=some t:=by
 induction p with
 |nil=>intro t x h;simp only[sub,AAC]at h;subst h;rfl
 |cons s p ih=>
  obtain⟨i,j,k⟩:=s;intro t x h;cases t with
  |own b k' rows=>
   simp only[sub]at h;split at h
   . rename_i row hi;split at h
     . rename_i c d;obtain⟨g,f⟩:=AAE.1 hi;obtain⟨e,a⟩:=AAE.1 d;simp only[put,hi,d,ih h];rw[<- a,List.set_getElem_self,<- f,List.set_getElem_self]
     . cases h
   . cases h
  |agg cs=>
   simp only[sub]at h;split at h
   . rename_i c d;obtain⟨e,a⟩:=AAE.1 d;simp only[put,d,ih h];rw[<- a,List.set_getElem_self]
   . cases h
  |BQ cs=>
   simp only[sub]at h;split at h
   . rename_i c d;obtain⟨e,a⟩:=AAE.1 d;simp only[put,d,ih h];rw[<- a,List.set_getElem_self]
   . cases h
  |_=>simp[sub]at h
theorem sub_k(p:di)(k d:Nat):∀{t:AV},sub t (p++[(n,f,k)])=sub t (p++[(n,f,d)]):=by
 induction p with
 |nil=>intro t;cases t<;>simp[sub]
 |cons s p ih=>obtain⟨a,b,c⟩:=s;intro t;cases t<;>simp[sub,ih]
theorem st_frame(h:St G w F δ Fr)(B:Rd δ a){z u:Operand}(ho:o.op= .store t z u)(hn:Ga P t=some n)(hc:CR z (.t f)=true)(U:CR u x=true)(c:GO G (.st n (.t f) x) none (λf=>(δ f).er)=some σ'):∃w' b off,(execOp a.eval o).run P w= .ok .skip w'/\(∀z,z≠b->w'.heap[z]? =w.heap[z]?)/\a.tmps.getD f undef= .pointer (some ⟨b,off,none⟩):=by
 obtain⟨hy,V⟩:=Am hc B;obtain⟨hz,g⟩:=Am U B;simp only[GO]at c;split at c
 . rename_i v τ ht;obtain⟨δ1,F1,D,Ff,d,R,N,I⟩:=h.tk hz ht;subst R;subst N;split at c
   . rename_i r p i j k X;obtain⟨vh,bx,Ao,b,Fx,E,hb,hp,Cm,_⟩:=d.st.EE X;split at c
     . rename_i fG k' rows xA;obtain⟨D',s,e⟩:=Dt (d.st.ok r).Kt xA;rw[E]at s;obtain rfl:=AAG s;simp only[Eg,AV.own.injEq]at e;obtain⟨rfl,rfl,rfl⟩:=e;split at c
       . rename_i row H;rw[AAN,AAc]at H;obtain⟨Im,C,rfl⟩:=H;split at c
         . rename_i O;obtain⟨l,y,hjn⟩:=O;split at c
           . rename_i t' S;have L:=LR D d.ok.Kt;have hl:(cellsD D).length=n:=(by rw[<- l,<- L];simp);have J:=LZ d.ok y;rw[<- L]at S y;obtain⟨w',td,F',M,PN,K,Qv,Kr,Z,_⟩:=bO (P:=P) (cellsD D) (d.st.ok r) E hb C am (NB d.ok) (λz hx T=>d.Lu r z T hx) y S 0 (i*k+j) rfl;have m:(δ f).A0= .pointer (some ⟨b,i*k+j,none⟩):=(by rw[<- d.A0 f];exact hp);refine⟨w',b,i*k+j,?_,Z,by rw[B f];exact m⟩;have W:¬((C6 δ x).cells.size≠n):=(by rw[<- I,J];simp[hl]);have Q:(C6 δ x).cells.toList=(cellsD D).map DV.A0:=(by rw[<- I,J]);have q:C6 δ (.t f)= .pointer (some ⟨b,i*k+j,none⟩):=m;simp only[execOp,ho,V,g,q,Instr.storeAt,Instr.sureAddr,storeVar,Sem.run_bind,Sem.run_pure,Result.andThen_ok,run_sizeOf hn,Sem.run_ite,W,AAT,Q,M]
           . cases c
         . cases c
       . cases c
     . cases c
   . cases c
 . cases c
theorem gH{f:zU}(os:eP):∀{m:Nat}{σ:Sg}{K:dg},ON P G f m os K σ->∃q:Nat->Sg,q 0=σ/\(∀i io,os[i]? =some io->Kl P G io (· =q (i+1)) (q i))/\(∀i,i<=os.length->yC f (m+i) (q i)=true)/\K (q os.length):=by
 induction os with
 |nil=>intro m σ K h;exact⟨λ_=>σ,rfl,λi io hi=>by simp at hi,λi hi=>by simp only[ABK,Nat.le_zero]at hi;subst hi;exact h.1,h.2⟩
 |cons o os ih=>
  intro m σ K h;obtain⟨c,h⟩:=h;obtain⟨τ,b,a⟩:=O6.1 h;obtain⟨q,d,e,g,j⟩:=ih a;refine⟨λi=>match i with|0=>σ|i+1=>q i,rfl,λi io hi=> ?_,λi hi=> ?_,ah⟩
  all_goals grind
def hZ(P:Program)(G:Gi)(n:Nat)(f:zU)(ops:Array Oper)(M:dF)(i:Nat)(o:Oper)(io:BP):Bool:=
 if i=f.i12 then o.guard.isNone&&o.dst.isNone&&io.guard.isNone&&io.dst.isNone&&(match io.op with| .std (.t s)=>s==f.ap|_=>false)&&
  (match o.op with| .store t (.tmp x) (.tmp u)=>x==f.ap&&u==f.s&&Ga P t==some 1|_=>false)&&(M.getD i 0).testBit f.i7&&(M.getD i 0).testBit f.i11
 else G0 P G n ops o io&&((M.getD f.i12 0).testBit i||(o.guard.isNone&&io.guard.isNone&&(match io.dst with|some d=>d.d != f.s&&d.d != f.ap|none=>true)&&
  (if i=f.i9 then o.dst.isNone&&io.dst.isNone&&(match io.op,o.op with| .st n (.t s) z,.store t x u=>s==f.e&&Ga P t==some n&&CR x (.t s)&&CR u z|_,_=>false)&&(M.getD i 0).testBit f.i8
   else Z7 io.op)))
def oA(P:Program)(G:Gi)(n:Nat)(f:zU)(ops:Array Oper)(Dj:eP):Bool:=
 decide (Dj.length=ops.size)&&decide (f.i12<ops.size)&&La G ops.toList Dj&&(Gm G Dj f.i7).contains (2*f.s+1)&&(Gm G Dj f.i8).contains (2*f.e+1)&&(Gm G Dj f.i11).contains (2*f.ap+1)&&
 ((G.Gv f.e).all λr=> !(G.Gv f.ap).contains r)&&decide (f.i7<ops.size)&&decide (f.i8<ops.size)&&decide (f.i11<ops.size)&&
 (List.range ops.size).all λi=>match ops[i]?,Dj[i]? with
  |some o,some io=>hZ P G n f ops (VR ops.toList []) i o io
  |_,_=>false
def AJ(f:zU)(L:e8)(a:Act)(w:World):Prop:=L f.i12=true->∃b o arr E,a.tmps.getD f.ap undef= .pointer (some ⟨b,o,none⟩)/\w.heap[b]? =some (.cells arr E (0,0))/\arr[o]? =some (a.tmps.getD f.s undef)
theorem eL{fz:Nat×Nat}(a:w.heap[n]? =some (.cells tmps E fz))(c:tmps[f]? =some u):w.setCell ⟨n,f,none⟩ u=w:=by
 have e:tmps.setIfInBounds f u=tmps:=by
  apply Array.ext_getElem?;intro i;rw[ABB];split
  . grind
  . rfl
 obtain⟨heap,_⟩:=w;simp only[World.setCell,World.mk.injEq,and_true]at a |-;grind
theorem adr_of(h:RU (σ n)=true):∃r p i j k,σ n= .Kk r p i j k/\EE σ (.t n)=some (r,p,i,j,k):=by
 cases hs:σ n with
 |Kk r p i j k=>exact⟨r,p,i,j,k,rfl,by simp[EE,hs]⟩
 |_=>rw[hs]at h;simp[RU]at h
variable{Q:Exit->Act->World->Prop}
theorem zP(hi:ops[n]? =some o)(c:o.guard=none)(b:(execOp a.eval o).run P w= .ok .skip w0)(h:J (a.put o.dst undef) w0):wpOp P ops Q n J a w:=by unfold wpOp;rw[hi];simp only[Region.wanted,c,AAi];refine .inl ?_;unfold Oper.wp;rw[b];exact h
theorem rC(hi:ops[n]? =some o)(e:o.guard=none)(d:(execOp a.eval o).run P w= .ok .skip w0)(h:wpOp P ops Q n J a w):wpOp P ops Q n (λb c=>J b c/\b=a.put o.dst undef/\c=w0) a w:=by unfold wpOp at h |-;rw[hi]at h |-;simp only[Region.wanted,e,AAi]at h |-;refine h.imp (λh=> ?_) id;unfold Oper.wp at h |-;rw[d]at h |-;exact⟨h,rfl,rfl⟩
theorem uO(hG:Y2 w0 S0 U0)(Q:Exit->Act->World->Prop)(hQ:∀a w σ,Rel G n w0 S0 U0 a w σ->K σ->Q .normal a w){w:World}{f:zU}(h:Rel G n w0 S0 U0 a w σ)(hc:oA P G n f ops B=true)(Cg:ON P G f 0 B (Kl P G ⟨none,.st 1 (.t f.ap) (.t f.s),none⟩ K) σ):
 wpAny P .any ops Q ops.size (Array.replicate ops.size false) a w:=by
 simp only[oA,AAD,AAV,AAb]at hc;obtain⟨⟨⟨⟨⟨⟨⟨⟨⟨⟨hN,n12⟩,jB⟩,w7⟩,w8⟩,w11⟩,hdj⟩,n7⟩,n8⟩,n11⟩,IH⟩:=hc;rw[AAH]at hdj IH;obtain⟨q,hq0,Gw,Cm,hK⟩:=gH B Cg;simp only[ABM]at Cm;have Jd:∀i o io,ops[i]? =some o->B[i]? =some io->hZ P G n f ops (VR ops.toList []) i o io=true:=by
  intro i o io D I;have hi:i<ops.size:=(AAs.1 D).1
  have:=IH i (by simpa using hi);rw[D,I]at this;exact this
 obtain⟨o12,N,p1,p2⟩:∃o io,ops[f.i12]? =some o/\B[f.i12]? =some io:=⟨ops[f.i12],B[f.i12]' ah,by simp[n12],by simp[hN,n12]⟩;have h12:=Jd _ _ _ p1 p2;simp only[hZ,AAL,AAD,AA0]at h12;obtain⟨⟨⟨⟨⟨⟨⟨g1,g2⟩,g3⟩,g4⟩,g5⟩,g6⟩,b7⟩,b11⟩:=h12;obtain⟨ty,rY,PQ⟩:∃ty,o12.op= .store ty (.tmp f.ap) (.tmp f.s)/\Ga P ty=some 1:=by
  split at g6
  . rename_i ty x u ho;simp only[AAD,AAR]at g6;obtain⟨⟨rfl,rfl⟩,T⟩:=g6;exact⟨ty,ho,T⟩
  . cases g6
 have ei12:N=⟨none,.std (.t f.ap),none⟩:=by
  obtain⟨d,op,g⟩:=N;simp only at g3 g4 g5;subst g3;subst g4;split at g5
  . simp only[AAR]at g5;rw[g5]
  . cases g5
 -- where the slots stand
 have own:∀{L:e8}{σ:Sg},L f.i7=true->σ f.s=q (FE L (Gm G B) (2*f.s+1) ops.size) f.s->PS (σ f.s)=true:=by intro L σ hL J;have D:=Ss hL w7 ops.size n7;have I:=Xk L (Gm G B) (2*f.s+1) ops.size;have T:=Cm _ (by omega:FE L (Gm G B) (2*f.s+1) ops.size<=B.length);simp only[yC,AAD,AAk,AAV]at T;rw[J];exact T.1.1.resolve_left ah
 have adr8:∀{L:e8}{σ:Sg},L f.i8=true->σ f.e=q (FE L (Gm G B) (2*f.e+1) ops.size) f.e->RU (σ f.e)=true:=by intro L σ hL J;have D:=Ss hL w8 ops.size n8;have I:=Xk L (Gm G B) (2*f.e+1) ops.size;have T:=Cm _ (by omega:FE L (Gm G B) (2*f.e+1) ops.size<=B.length);simp only[yC,AAD,AAk,AAV]at T;rw[J];exact T.1.2.resolve_left ah
 have adr11:∀{L:e8}{σ:Sg},L f.i11=true->σ f.ap=q (FE L (Gm G B) (2*f.ap+1) ops.size) f.ap->RU (σ f.ap)=true:=by intro L σ hL J;have D:=Ss hL w11 ops.size n11;have I:=Xk L (Gm G B) (2*f.ap+1) ops.size;have T:=Cm _ (by omega:FE L (Gm G B) (2*f.ap+1) ops.size<=B.length);simp only[yC,AAD,AAk,AAV]at T;rw[J];exact T.2.resolve_left ah
 -- the slice's store, executed
 have run12:∀{a:Act}{w:World}{b o:Nat}{arr:Array Value}{E:TypeId}{C:ABd Addr}{m c:Nat}{u:Value},a.tmps.getD f.ap undef= .pointer (some ⟨b,o,none⟩)->w.heap[b]? =some (.cells arr E (0,0))->arr[o]? =some u->a.tmps.getD f.s undef= .slice C m c->
  (execOp a.eval o12).run P w= .ok .skip (w.setCell ⟨b,o,none⟩ (.slice C m c)):=by
  intro a w b o arr E C m c u D I T h4;have Eu:=Pt (P:=P) (w:=w) (off:=o) (v:=.slice C m c) I T rfl;have e1:a.eval (.tmp f.ap)= .pointer (some ⟨b,o,none⟩):=D;have e2:a.eval (.tmp f.s)= .slice C m c:=h4;simp only[execOp,rY,e1,e2,Instr.storeAt,Instr.sureAddr,storeVar,Sem.run_bind,Sem.run_pure,Result.andThen_ok,run_sizeOf PQ,Sem.run_ite,Value.cells,storeCells];simp[Eu,Addr.add,storeCells]
 -- a slice's own slot holds a slice
 have Z:∀{S:de}{δ:dy}{Fr:dh}{w:World},St G w S δ Fr->PS (δ f.s).er=true->∃C m c,(δ f.s).A0= .slice C m c:=by
  intro S δ Fr w y ho;have hk:=y.ok f.s;cases hd:δ f.s with
  |own v bx k rows=>
   rw[hd]at ho hk;cases bx with
   |true=>simp[PS]at ho
   |false=>obtain⟨a,c,e⟩:=bD hk;exact⟨a,_,c,by simpa using e⟩
  |lf x v=>
   rw[hd]at ho hk;cases hk with
   |lf _ _ _ F=>simp only[EY]at ho;cases x<;>first|exact F.elim|simp[PS]at ho
  |agg=>rw[hd]at ho;simp[PS]at ho
  |BQ=>rw[hd]at ho;simp[PS]at ho
 refine SY Q h hN ?_ jB (K:=λσ=>yC f B.length σ=true/\Kl P G ⟨none,.st 1 (.t f.ap) (.t f.s),none⟩ K σ) q hq0 Gw ⟨Cm _ (AAe _),hK⟩ (AJ f) ?_ ?_ ?_
 . intro i o io D I d hd
   have:=Jd i o io (by simpa using D) I;by_cases e:i=f.i12
   . subst e;have:io=N:=(by rw[p2]at I;exact(AAG I).symm);subst this;rw[ei12]at hd;cases hd
   . simp only[hZ,AAK e,AAD]at this;exact W4 this.1 d hd
 . -- the end: the slice comes into its cell, where it is already
   intro L a w σ hL hJ Hv U;obtain⟨hoks,U⟩:=U;obtain⟨b,o,arr,E,j1,j2,j3⟩:=hJ (hL _ n12);have y:=Wv hG (K:=K) Hv (ops:=ops) (o:=o12) (io:=⟨none,.st 1 (.t f.ap) (.t f.s),none⟩) (P:=P) (by simp[G0,g1,g2,Dy,Kn,rY,JR,PQ,CR]) U Q;obtain⟨C,m,c,J⟩:∃C m c,a.tmps.getD f.s undef= .slice C m c:=(by obtain⟨S,δ,Fr,hn,EG,ha,rfl,y,Eh,C7⟩:=Hv;simp only[yC,AAD,AAk,AAV]at hoks;obtain⟨C,m,c,e⟩:=Z y (hoks.1.1.resolve_left ah);exact⟨C,m,c,(ha _).trans e⟩);rw[J]at j3;have hr:=run12 j1 j2 j3 J;rw[eL j2 j3]at hr;unfold Oper.wp at y;rw[hr,Oper.upon_skip,g2]at y;obtain⟨σ',D,I⟩:=y;exact hQ a w σ' D I
 . intro l;simp[AAZ,n12]at l
 . intro L i o io a w σ τ' D I hiN hLi KT MM hJ Hv R hτs;have O:=Jd i o io D I;have L12:∀j,((VR ops.toList []).getD f.i12 0).testBit j=true->L f.i12=true->L j=true:=λj hb F=>MM f.i12 n12 F j hb;by_cases e:i=f.i12
   . -- the slice's own store
     subst e;have:io=N:=(by rw[p2]at I;exact(AAG I).symm);subst this;have:o=o12:=(by rw[p1]at D;exact(AAG D).symm);subst this;obtain⟨S,δ,Fr,hn,EG,ha,rfl,y,Eh,C7⟩:=Hv;rw[ei12]at R;simp only[Kl,ED,GO]at R;split at R
     . rename_i υ H;split at H
       . rename_i r p i j k VW;split at H
         . rename_i NI;simp only[AAC]at H;subst H;subst R;have D4:=own (L:=λj=>(L j||j==f.i12)) (σ:=λs=>(δ s).er) (by simp[KT _ b7]) (hτs f.s);obtain⟨C,m,c,hsv⟩:=Z y D4;have hsv':a.tmps.getD f.s undef= .slice C m c:=(ha _).trans hsv;obtain⟨vh,bx,Ao,b,Fx,Bw,hb,hp,hokx,hFx⟩:=y.EE VW;have pL:a.tmps.getD f.ap undef= .pointer (some ⟨b,i*k+j,none⟩):=(ha _).trans hp;obtain⟨x,l,hxe⟩:=Dt (y.ok r).Kt NI;have hx0:=l;rw[IV,Bw,AAB]at l;simp only[Au]at l;split at l
           . rename_i Im D1;split at l
             . rename_i cc Bp;simp only[AAC]at l;subst l;obtain⟨Qt,arr,E,sF,QV⟩:=Pd hokx hb;have hold:=QV i j Im cc D1 Bp;have hr:=run12 pL sF hold hsv';obtain⟨t,F',HI,PN,hsubF,V,hFr⟩:=(y.ok r).store p Bw D1 Bp hb (new:=.lf .dead (.slice C m c)) (Fn:=λ_=>False) (.lf _ _ _ trivial (λ_ h=>h)) (λ_ h=>h.elim);simp only[KN]at PN;have VY:∀x,x≠b->(w.setCell ⟨b,i*k+j,none⟩ (.slice C m c)).heap[x]? =w.heap[x]? :=λx l=>DL _ _ _ _ _ l;have hbS:¬S b:=(y.ok r).Et b hFr;have fI:∃v0,cc= .lf .dead v0:=by
                cases cc with
                |lf a0 v0=>simp only[EY]at hxe;subst hxe;exact⟨v0,rfl⟩
                |own=>simp at hxe
                |agg=>simp at hxe
                |BQ=>simp at hxe
               obtain⟨v0,rfl⟩:=fI;have hter:t.er=(δ r).er:=(by obtain⟨t2,q1,q2⟩:=G5 (d:=δ r) (p:=p++[(i,j,k)]) (a:=(δ r).er) (.lf .dead (.slice C m c)) (y.ok r).Kt (by rw[EY];exact put_same _ ((sub_k p k 0).trans NI));rw[HI]at q1;obtain rfl:=AAG q1;exact q2);have o8:∀x,F' x->Fr r x:=λx l=>(hsubF x l).elim id False.elim;have RQ:∀q v bx k rows,Au (δ r) q=some (.own v bx k rows)->∃M,Au t q=some (.own v bx k M):=λq v' fG k' M hq=>(by have hold2:Au (δ r) (p++[(i,j,k)])=some (.lf .dead v0):=(by rw[IV,Bw];simp[Au,D1,Bp]);exact Q8 _ HI hold2 ak ak ak q v' fG k' M hq);have hpoke:=y.poke (w':=w.setCell ⟨b,i*k+j,none⟩ (.slice C m c)) r t F' (λx l=>VY x (by rintro rfl;exact hbS l)) (λs J x l=>VY x (by rintro rfl;exact J (y.Lu s r _ l hFr))) PN
                (λs J x l hy=>J (y.Lu s r x hy (o8 x l))) (by rw[hter];exact y.rt r) (MZ _ HI (y.al r) (.lf _ _ trivial)) RQ V
               refine zP D g1 hr ⟨⟨_,⟨S,DZ δ r t,DZ Fr r F',?_,?_,?_,?_,hpoke,Eh.trans ?_,λx l=>by simpa using C7 x l⟩,rfl⟩,λ_=>⟨b,i*k+j,arr.setIfInBounds (i*k+j) (.slice C m c),E,?_,Q7 _ _ _ _ _ _ _ sF,?_⟩⟩
               . rw[g2];exact hn
               . rw[g2];exact EG
               . intro s';rw[g2];simp only[Act.put];by_cases e:s'=r
                 . subst e;rw[BM,V];exact ha s'
                 . rw[Ba _ _ e];exact ha s'
               . funext s';by_cases e:s'=r
                 . subst e;simp only[BM,hter]
                 . simp only[Ba _ _ e]
               . refine⟨rfl,rfl,rfl,ak,λx _ hU=>VY x (by rintro rfl;exact hU ⟨r,hFr⟩),λ_ h=>h,λ_ h=>.inl h,λF x l=>by simpa using F x l,λx l=>.inl ?_⟩;obtain⟨s,l⟩:=l;by_cases e:s=r
                 . subst e;rw[BM]at l;exact⟨s,o8 x l⟩
                 . rw[Ba _ _ e]at l;exact⟨s,l⟩
               . rw[g2];exact pL
               . rw[g2];simp only[Act.put,hsv']
                 have:=(AAs.1 hold).1;simp[this]
             . cases l
           . cases l
         . cases H
       . cases H
     . exact R.elim
   . simp only[hZ,AAK e,AAD,AAk,AA0]at O;obtain⟨hco,O⟩:=O;have hK:=IZ hG Hv hco R Q D;have hLe:(L f.i12||f.i12==i)=L f.i12:=(by rw[show(f.i12==i)=false from by simpa using Ne.symm e,Bool.or_false]);rcases O with hb|⟨⟨⟨pG,NJ⟩,hd⟩,O⟩
     . -- ahead of it
       refine wpOp_mono (λa' w' h=>⟨h,λF=> ?_⟩) hK;replace F:=hLe.symm.trans F;rw[L12 i hb F]at hLi;cases hLi
     . split at O
       . -- the element's store
         rename_i e9;subst e9;simp only[AAD,AA0]at O;obtain⟨⟨⟨k1,k2⟩,k3⟩,k4⟩:=O;obtain⟨dst,sU,g⟩:=io;simp only at NJ k2 k3;subst NJ;subst k2;split at k3
         . rename_i nn s' z ty' x' u' pK;simp only[AAD,AAR]at k3;obtain⟨⟨⟨rfl,m2⟩,m3⟩,m4⟩:=k3;obtain⟨w',b9,off,hr,mE,hp9⟩:∃w' b off,(execOp a.eval o).run P w= .ok .skip w'/\(∀x,x≠b->w'.heap[x]? =w.heap[x]?)/\a.tmps.getD f.e undef= .pointer (some ⟨b,off,none⟩):=by
            obtain⟨S,δ,Fr,hn,EG,ha,rfl,y,Eh,C7⟩:=Hv;simp only[Kl,ED]at R;split at R
            . rename_i υ H;exact st_frame y ha pK m2 m3 m4 H
            . exact R.elim
           refine wpOp_mono ?_ (rC D pG hr hK);rintro a' w1 ⟨⟨σ',aH,rfl⟩,rfl,rfl⟩;rw[k1]at aH |-;simp only[Act.put]at aH |-;refine⟨⟨_,aH,rfl⟩,λF=> ?_⟩;replace F:=hLe.symm.trans F;obtain⟨b,oo,arr,E,j1,j2,j3⟩:=hJ F;refine⟨b,oo,arr,E,j1,?_,j3⟩;rw[mE b ?_];exact j2;rintro rfl;obtain⟨S',δ',Fr',xA,hdef',ha',rfl,KV,hnx',Up⟩:=aH;obtain⟨r1,p1',i1,j1',k1',q1,q2⟩:=adr_of (σ:=λs=>(δ' s).er) (adr8 (L:=λj=>(L j||j==f.i9)) (σ:=λs=>(δ' s).er) (by simp[KT _ k4]) (hτs f.e));obtain⟨r2,p2',i2,j2',k2',q3,q4⟩:=adr_of (σ:=λs=>(δ' s).er) (adr11 (L:=λj=>(L j||j==f.i9)) (σ:=λs=>(δ' s).er) (by simp[L12 _ b11 F]) (hτs f.ap));obtain⟨v1,bx1,rw1,c1,F1,s1,s2,s3,s4,s5⟩:=KV.EE q2;obtain⟨v2,bx2,rw2,c2,F2,t1,t2,t3,t4,t5⟩:=KV.EE q4;have z1:b=c1:=(by have:=(ha' f.e).symm.trans hp9;rw[s3]at this;simp only[Value.pointer.injEq,AAC,Addr.mk.injEq]at this;exact this.1.symm);have z2:b=c2:=(by have:=(ha' f.ap).symm.trans j1;rw[t3]at this;simp only[Value.pointer.injEq,AAC,Addr.mk.injEq]at this;exact this.1.symm);have hr12:=KV.Lu r1 r2 b (s5 b (by rw[z1];exact(Pd s4 s2).1)) (t5 b (by rw[z2];exact(Pd t4 t2).1));subst hr12;have u1:=KV.rt f.e;have u2:=KV.rt f.ap;rw[q1]at u1;rw[q3]at u2;simp only[WR,AAb]at u1 u2
           have:=hdj _ u1;simp[u2]at this
         . cases k3
       . -- a plain one
         rename_i e9;have X:=hco;simp only[G0,AAD]at X;have hcop2:JR P o.op io.op=true:=by have:=X.2;cases Hm:io.op<;>rw[Hm]at this O<;>first|exact this|simp[Z7]at O
         obtain⟨v,hv⟩:∃v,valOf io.op σ=some v:=by
          obtain⟨dst,sU,g⟩:=io;simp only at NJ O;subst NJ;cases dst with
          |none=>cases sU<;>simp[Z7]at O<;>simp[Kl,ED,GO]at R
          |some d=>
           simp only[Kl]at R;cases hv:valOf sU σ with
           |some v=>exact⟨v,rfl⟩
           |none=>cases sU<;>simp[Z7]at O<;>simp[ED,GO,hv]at R
         obtain⟨u,hr⟩:=fl_run Hv hcop2 O hv;have W:Dy G n o.dst io.dst=true:=X.1.1;refine mA D pG hr (λF=> ?_) hK;replace F:=hLe.symm.trans F;obtain⟨b,oo,arr,E,j1,j2,j3⟩:=hJ F;have HI:∀s,(match io.dst with|some d=>d.d≠s|none=>True)->(a.put o.dst u).tmps.getD s undef=a.tmps.getD s undef:=by
          intro s J;cases hod:o.dst with
          |none=>rfl
          |some t=>
           cases sM:io.dst with
           |none=>rw[hod,sM]at W;simp[Dy]at W
           |some d=>rw[hod,sM]at W;rw[sM]at J;simp only[Dy,AAD,AAR]at W;have ht:t=d.d:=W.1.1.1;simp only[Act.put,AAZ,ABB];rw[AAK (by rw[ht];exact J)]
         refine⟨b,oo,arr,E,?_,j2,?_⟩
         . rw[HI];exact j1;cases sM:io.dst with
           |none=>trivial
           |some d=>rw[sM]at hd;simp only[AAD,bne_iff_ne]at hd;exact hd.2
         . rw[HI];exact j3;cases sM:io.dst with
           |none=>trivial
           |some d=>rw[sM]at hd;simp only[AAD,bne_iff_ne]at hd;exact hd.1
end
variable{m new:DV}{ds:dH}
section
variable{w w':World}{S S':de}{G:Gi}{δ:dy}{Fr:dh}{P:Program}
theorem zE(p:di)(d:Di D p new=some m):Au m p=some new:=by
 induction p generalizing D m with
 |nil=>simp only[Di,AAC]at d;subst d;rfl
 |cons s p ih=>
  obtain⟨i0,j0,f⟩:=s;cases D with
  |lf a v=>simp[Di]at d
  |own hh b k1 Ja=>
   simp only[Di]at d;cases hi:Ja[i0]? with
   |none=>simp[hi]at d
   |some row1=>
    simp only[hi]at d;cases hj:row1[j0]? with
    |none=>simp[hj]at d
    |some c=>
     simp only[hj]at d;cases hc:Di c p new with
     |none=>simp[hc]at d
     |some c'=>simp only[hc,AAC]at d;subst d;simp only[Au,AAF (AAE.1 hi).1,AAF (AAE.1 hj).1];exact ih hc
  |agg cs=>
   simp only[Di]at d;cases hj:cs[j0]? with
   |none=>simp[hj]at d
   |some c=>
    simp only[hj]at d;cases hc:Di c p new with
    |none=>simp[hc]at d
    |some c'=>simp only[hc,AAC]at d;subst d;simp only[Au,AAF (AAE.1 hj).1];exact ih hc
  |BQ cs=>
   simp only[Di]at d;cases hj:cs[j0]? with
   |none=>simp[hj]at d
   |some c=>
    simp only[hj]at d;cases hc:Di c p new with
    |none=>simp[hc]at d
    |some c'=>simp only[hc,AAC]at d;subst d;simp only[Au,AAF (AAE.1 hj).1];exact ih hc
theorem Ub(n d:Nat)(q:di)(h:Au D q=some (.lf .dead u)):Au (GH n d D) q=some (.lf .dead u):=by
 induction q generalizing D with
 |nil=>simp only[Au,AAC]at h;subst h;rfl
 |cons s q ih=>
  obtain⟨i,j,e⟩:=s;cases D with
  |lf a u=>simp[Au]at h
  |own hh b k1 Ja=>rw[Lh];exact h
  |agg cs=>
   simp only[Au]at h;cases hj:cs[j]? with
   |none=>simp[hj]at h
   |some c=>simp only[hj]at h;simp only[KY,Au,AAN,hj,AAf];exact ih h
  |BQ cs=>
   simp only[Au]at h;cases hj:cs[j]? with
   |none=>simp[hj]at h
   |some c=>simp only[hj]at h;simp only[KZ,Au,AAN,hj,AAf];exact ih h
theorem St.tkd(h:St G w S δ Fr){a:AV}(g:Abs.Zh G n p (λs=>(δ s).er)=some (a,τ)):
 ∃f l D Ff,St G w S f l/\(λs=>(f s).er)=τ/\(∀s,(f s).A0=(δ s).A0)/\Ok w S D Ff/\D.er=a/\Au (δ n) p=some D/\(∀s x,l s x->¬Ff x)/\
  (∀x,BJ l x\/Ff x->BJ Fr x)/\Au (f n) p=some (.lf .dead D.A0):=by
 unfold Abs.Zh at g;split at g
 . rename_i b k rows J;split at g
   . rename_i t I;simp only[AAC,AAQ]at g;obtain⟨rfl,rfl⟩:=g;obtain⟨D,q,z⟩:=Dt (h.ok n).Kt J;obtain⟨B,H,m,C⟩:=h.kW n p q;obtain⟨K,l,j,v,r,y⟩:=C S (.lf .dead D.A0) ak (.lf _ _ _ trivial (λ_ h=>h)) (λ_ h=>h) (λt b F _=>(h.ok t).Et b F) ak (Dc.dead _);have L:K.er=t:=(by obtain⟨M,o,E⟩:=G5 (d:=δ n) (p:=p) (a:=t) (.lf .dead D.A0) (h.ok n).Kt (by simpa using I);rw[j]at o;obtain rfl:=AAG o;exact E);refine⟨_,_,D,B,v,by rw[Ns h,L],?_,H,z,q,?_,?_,by rw[BM];exact zE p j⟩
     . intro s;rw[Mn h];split
       . rename_i e;rw[e,y]
       . rfl
     . intro s x c u;by_cases i:s=n
       . subst i;rw[BM]at c;exact((r x).1 c).2 u
       . rw[Ba _ _ i]at c;exact i (h.Lu s n x c (m x u))
     . rintro x (⟨s,c⟩|c)
       . by_cases i:s=n
         . subst i;rw[BM]at c;exact⟨s,((r x).1 c).1⟩
         . rw[Ba _ _ i]at c;exact⟨s,c⟩
       . exact⟨n,m x c⟩
   . cases g
 . cases g
theorem OkL_two(e:Ok w S D F)(g:∀d∈ds,Ok w S d (λ_=>False))(f:Ok w S new U0)(a:∀x,F x->¬U0 x):JQ w S (D::(ds++[new])) (λx=>F x\/U0 x):=by
 have c:JQ w S [new] U0:=⟨U0,λ_=>False,f,CN ak,λ_ _ h=>h,λx=>ak⟩;have b:JQ w S (ds++[new]) U0:=(LX (CN g) c (λ_ h=>h.elim)).congr λx=>ak
 exact⟨F,U0,e,b,a,λx=>ABb⟩
theorem lb_sound(hG:Y2 w0 S0 U0)(h:Rel G n w0 S0 U0 a w σ){d:dD}{Sx:ek}(PJ:Ji P o.op f (x::(Sx++[y])) 0=true)(jD:Dy G n o.dst d=true)(I:lbP P G d f x Sx y K σ)(Q:Exit->Act->World->Prop):
 o.wp P a w (λa' w'=>∃σ',Rel G n w0 S0 U0 a' w' σ'/\K σ') Q:=by
 obtain⟨S,δ,Fr,hn,EG,ha,rfl,CP,Eh,C7⟩:=h;obtain⟨cc,fn,ho,Lz,hf,hfb,hfn,hm3,Si⟩:=LH PJ;have hd:=EV jD hn;obtain⟨x0,xs,y0,Fv,hx0,hxs,hy0⟩:∃x0 xs y0,cc.args.toList=x0::(xs++[y0])/\CR x0 x=true/\Gj xs Sx=true/\CR y0 y=true:=by
  generalize cc.args.toList=l at Si;cases l with
  |nil=>simp[Gj]at Si
  |cons x0 l=>
   simp only[Gj,AAD]at Si;obtain⟨j,C⟩:=Si;clear PJ I;obtain⟨xs,y0,e,h3,h4⟩:∃xs y0,l=xs++[y0]/\Gj xs Sx=true/\CR y0 y=true:=by
    induction Sx generalizing l with
    |nil=>
     cases l with
     |nil=>simp[Gj]at C
     |cons y0 l=>
      simp only[List.nil_append,Gj,AAD]at C;cases l with
      |nil=>exact⟨[],y0,rfl,rfl,C.1⟩
      |cons=>simp[Gj]at C
    |cons z Sx ih=>
     cases l with
     |nil=>simp[Gj]at C
     |cons z0 l=>simp only[AAx,Gj,AAD]at C;obtain⟨xs,y0,e,h3,h4⟩:=ih l C.2;exact⟨z0::xs,y0,by simp[e],by simp[Gj,C.1,h3],h4⟩
   exact⟨x0,xs,y0,by rw[e],j,h3,h4⟩
 obtain⟨hxo,ex0⟩:=Am hx0 ha;obtain⟨hyo,ey0⟩:=Am hy0 ha;unfold lbP at I;split at I
 case h_2=>exact I.elim
 rename_i u F hp2;split at I
 case h_2=>exact I.elim
 rename_i v τ Yx;obtain⟨b2,k2,W,rfl,sO⟩:∃b2 k2 W,v= .own b2 k2 W/\sub (δ u).er F=some (.own b2 k2 W):=by
  unfold Abs.Zh at Yx;split at Yx
  . rename_i b2 k2 W C;split at Yx
    . simp only[AAC,AAQ]at Yx;exact⟨_,_,_,Yx.1.symm,C⟩
    . cases Yx
  . cases Yx
 obtain⟨m,V,DY,Ff,R,rfl,Jl,hokY,hYe,hsubY,aF,Sm,NI⟩:=CP.tkd Yx;obtain⟨O,q1,q2⟩:=UQ CP (x:=y) hp2 sO;rw[hsubY]at q1;obtain rfl:=AAG q1;have hargv:∀z,C6 m z=C6 δ z:=by
  intro z;cases z with
  |t s=>exact Jl s
  |c c=>rfl
 have ha0:Rd m a:=λs=>(ha s).trans (Jl s).symm;split at I
 case h_2=>exact I.elim
 rename_i r p ms hp hmid;split at I
 case h_2=>exact I.elim
 rename_i b k rows hs;unfold lbQ at I;obtain⟨O1,res,out,JU,PH,G3,HI⟩:=I;split at HI
 case h_2=>exact HI.elim
 rename_i t hput1;split at HI
 case h_2=>exact HI.elim
 rename_i t2 Z;have hK:=HI;obtain⟨Ao,hD,FP⟩:=UQ R (x:=x) hp hs;obtain⟨Fo,ZG,Bw,Mq⟩:=(R.ok r).replace p hD;obtain⟨Ds,p1,p3,p4⟩:=Rj R ha0 Sx hxs hmid;have hFoF:∀x,Fo x->¬Ff x:=λx h=>aF r x (Bw x h);have GU:=JU w S (.own (C6 m x) b k Ao::(Ds++[.own (C6 δ y) b2 k2 O])) (λx=>Fo x\/Ff x) (hG.now Eh) (by rw[AAU,AAp,p1,FP,List.map_singleton,hYe]) (A8.2 (OkL_two ZG p4 hokY hFoF)) C7;have XO:(List.map DV.A0 (.own (C6 m x) b k Ao::(Ds++[.own (C6 δ y) b2 k2 O])))=cc.args.toList.map a.eval:=by rw[Fv];simp[p3,ex0,ey0,hargv]
 unfold Oper.wp;rw[Ti ho Lz hf hfb hfn,Oper.upon_enter,<- XO];refine GU.mono ?_;rintro e w' ⟨rD,os,S',F',rfl,RS,hoe,hoa,Cm,EO,Lv,sE,Kp,XM⟩;obtain⟨Fa,Fb,hra',hosk,hdab,QU⟩:=A8.1 Cm;obtain⟨oX,os1,M,rfl,H,hYe',hXa,hYa⟩:∃oX os1 M,os=oX::(os1++[M])/\oX.er=out/\M.er= .own b2 k2 W/\oX.A0=C6 m x/\M.A0=C6 δ y:=by
  cases os with
  |nil=>simp at hoe
  |cons oX l=>
   simp only[AAU,List.cons.injEq]at hoe hoa;obtain⟨e1,e2⟩:=hoe;obtain⟨l1,l2,rfl,e3,e4⟩:=List.map_eq_append_iff.1 e2;obtain⟨M,rfl,e5⟩:∃M,l2=[M]/\M.er= .own b2 k2 W:=by
    cases l2 with
    |nil=>simp at e4
    |cons M l3=>simp only[AAU,List.cons.injEq,List.map_eq_nil_iff]at e4;exact⟨M,by rw[e4.2],e4.1⟩
   refine⟨oX,l1,M,rfl,e1,e5,by simpa using hoa.1,?_⟩
   have:=hoa.2;rw[AAp,AAp]at this
   have:=(List.append_inj' this rfl).2;simpa using this
 obtain⟨FX,FR,hoX,hoR,hdXR,Qt⟩:=hosk;obtain⟨FY,hoY,X⟩:=OkL_at (l:=os1) (r:=[]) hoR;have Dz:∀s x,V s x->x<w.heap.size:=λs x i=>(R.ok s).lt x i;have L:∀x,Fa x\/FX x\/FY x->(Fo x\/Ff x)\/w.heap.size<=x:=λx i=>XM x ((QU x).2 (i.imp id λh=>(Qt x).2 (h.imp id (X x))))
 -- what a slot owns meets nothing that the call has, but for the lent part
 have sK:∀s x,V s x->¬Fo x->¬(Fa x\/FX x\/FY x):=by
  intro s x i T hh;rcases L x hh with(j|j)|j
  . exact T j
  . exact aF s x i j
  . have:=Dz s x i;omega
 have sQ:∀b,S b->w'.heap[b]? =w.heap[b]? :=λb D=>EO.block b (C7 b D) (λhf=>hf.elim (λh=>ZG.Et b h D) λh=>hokY.Et b h D);have pS:∀s b,V s b->¬Fo b->w'.heap[b]? =w.heap[b]? :=λs b D T=>EO.block b (Dz s b D) λhf=>hf.elim T (aF s b D);have hS'n:∀s b,V s b->¬Fo b->¬S' b:=by
  intro s b D T h';rcases sE b h' with j| (j|j)|j
  . exact(R.ok s).Et b D j
  . exact T j
  . exact aF s b D j
  . have:=Dz s b D;omega
 have Sj:∀s,s≠r->∀x,V s x->¬Fo x:=λs B x i hf=>B (R.Lu s r x i (Bw x hf));obtain⟨tD,F2,sP,hokt,Hu,Dh⟩:=Mq w' S' oX FX (by rw[hXa];simp) hoX (λx i I=>Classical.byContradiction λT=>sK r x I T (.inr (.inl i))) sQ (λb D T=>pS r b D T) Lv (λb D T=>hS'n r b D T);have xF:tD.er=t:=by obtain⟨t',j,C⟩:=G5 (d:=m r) (p:=p) (a:=t) oX (R.ok r).Kt (by rw[H];exact hput1);rw[sP]at j;obtain rfl:=AAG j;exact C
 have hdisr:∀s,s≠r->∀x,F2 x->¬V s x:=by
  intro s B x i E;rcases(Hu x).1 i with⟨j,_⟩|j
  . exact B (R.Lu s r x E j)
  . exact sK s x E (Sj s B x E) (.inr (.inl j))
 have hbX:ID oX.er=true:=by rw[H];exact PH
 generalize hN:Sv out b k p=N at hK Z;have hab:∀q v' bx k' J,q.length<N->Au (m r) q=some (.own v' bx k' J)->∃W,Au tD q=some (.own v' bx k' W):=by
  intro q v' bx k' J hq hsq;subst hN;unfold Sv at hq;split at hq
  . rename_i b1 k1 Ja;split at hq
    . rename_i e;obtain⟨rfl,rfl⟩:=e;refine NR q p ah sP (λ_ v2 bx2 k2 W C=> ?_) hsq;rw[hD]at C;cases C;cases oX with
      |own hh b2 k2 W=>simp only[Eg,AV.own.injEq]at H;obtain⟨rfl,rfl,_⟩:=H;simp only[Kf]at hXa;exact⟨W,by rw[hXa]⟩
      |lf a v=>simp only[EY]at H;subst H;cases hoX with|lf _ _ _ h=>exact h.elim
      |agg=>simp at H
      |BQ=>simp at H
    . omega
  . omega
 have U:St G w' S' (DZ (EP G N r m) r tD) (DZ V r F2):=
  R.setn N r tD F2 sQ (λs B x i=>pS s x i (Sj s B x i)) Lv (λs B x i=>hS'n s x i (Sj s B x i)) hokt hdisr (Ll p sP (R.rt r) (Nj hbX)) (MZ p sP (R.al r) (UC hbX)) hab
 have RP:(λs=>(DZ (EP G N r m) r tD s).er)=DZ (FW G N r λs=>(m s).er) r t:=by
  funext s;unfold DZ;split
  . exact xF
  . exact R.QH N r s
 have MJ:∀s,(DZ (EP G N r m) r tD s).A0=(m s).A0:=by
  intro s;unfold DZ;split
  . rename_i e;rw[e,Dh]
  . exact R.Li N r s
 have WE:Au (DZ (EP G N r m) r tD u) F=some (.lf .dead (C6 δ y)):=by
  rw[Ba _ _ (Ne.symm O1)];unfold EP;have NI:Au (m u) F=some (.lf .dead (C6 δ y)):=by simpa using NI
  split
  . exact Ub N r F NI
  . exact NI
 generalize hδ2:DZ (EP G N r m) r tD=δ2 at U RP MJ WE;have XN:∀s x,DZ V r F2 s x->¬(Fa x\/FY x):=by
  intro s x i E;have key:FX x->False:=λhX=>by
   rcases E with E|E
   . exact hdab x E ((Qt x).2 (.inl hX))
   . exact hdXR x hX (X x E)
  by_cases B:s=r
  . subst B;rw[BM]at i;rcases(Hu x).1 i with⟨j,C⟩|j
    . exact sK s x j C (E.imp id .inr)
    . exact key j
  . rw[Ba _ _ B]at i;exact sK s x i (Sj s B x i) (E.imp id .inr)
 have hO2:∀s x,DZ V r F2 s x->BJ Fr x\/w.heap.size<=x:=by
  intro s x i;have up:V s x->BJ Fr x\/w.heap.size<=x:=λh=>.inl (Sm x (.inl ⟨s,h⟩));by_cases B:s=r
  . subst B;rw[BM]at i;rcases(Hu x).1 i with⟨j,_⟩|j
    . exact up j
    . exact(L x (.inr (.inl j))).imp (λh=>Sm x (h.imp (λh=>⟨s,Bw x h⟩) id)) id
  . rw[Ba _ _ B]at i;exact up i
 generalize DZ V r F2=G2 at U XN hO2;obtain⟨Fd,hokd,hsubd,hrepd⟩:=(U.ok u).replace F WE;obtain⟨tE,F3,htE,hokE,hiffE,hannE⟩:=hrepd w' S' M FY (by rw[hYa];simp) hoY (λx i I=>(XN _ x I (.inr i)).elim) (λ_ _=>rfl) (λ_ _ _=>rfl) (λ_ h=>h) (λb D _=>(U.ok u).Et b D);have hteE:tE.er=t2:=by obtain⟨t',j,C⟩:=G5 (d:=δ2 u) (p:=F) (a:=t2) M (U.ok u).Kt (by rw[hYe',<- Z];exact ABZ (λg=>put (g u) F _) RP);rw[htE]at j;obtain rfl:=AAG j;exact C
 have hbY:ID M.er=true:=by rw[hYe'];rfl
 have hF3:∀x,F3 x->G2 u x\/FY x:=λx i=>((hiffE x).1 i).imp (λh=>h.1) id;have hst3:St G w' S' (DZ (EP G F.length u δ2) u tE) (DZ G2 u F3):=
  U.setn F.length u tE F3 (λ_ _=>rfl) (λ_ _ _ _=>rfl) (λ_ h=>h) (λs _ x i=>(U.ok s).Et x i) hokE
   (λs B x i E=>(hF3 x i).elim (λh=>B (U.Lu s u x E h)) λh=>XN s x E (.inr h)) (Ll F htE (U.rt u) (Nj hbY)) (MZ F htE (U.al u) (UC hbY))
   λq v' bx k' J hq hsq=>NR q F ah htE (λe=>absurd e ah) hsq
 have her3:(λs=>(DZ (EP G F.length u δ2) u tE s).er)=DZ (FW G F.length u (DZ (FW G N r λs=>(m s).er) r t)) u t2:=by
  rw[<- RP];funext s;unfold DZ;split
  . exact hteE
  . exact U.QH F.length u s
 have hann3:∀s,(DZ (EP G F.length u δ2) u tE s).A0=(δ s).A0:=by
  intro s;rw[<- Jl s,<- MJ s];unfold DZ;split
  . rename_i e;rw[e,hannE]
  . exact U.Li F.length u s
 have hdisD:∀s x,DZ G2 u F3 s x->¬Fa x:=by
  intro s x i E;by_cases B:s=u
  . subst B;rw[BM]at i;exact(hF3 x i).elim (λh=>XN s x h (.inl E)) λh=>hdab x E ((Qt x).2 (.inr (X x h)))
  . rw[Ba _ _ B]at i;exact XN s x i (.inl E)
 have D4:∀x,(Fo x\/Ff x)->BJ Fr x:=λx h=>Sm x (h.imp (λh=>⟨r,Bw x h⟩) id);have hOwn3:∀x,BJ (DZ G2 u F3) x->BJ Fr x\/w.heap.size<=x:=by
  rintro x ⟨s,i⟩;by_cases B:s=u
  . subst B;rw[BM]at i;exact(hF3 x i).elim (hO2 s x) λh=>(L x (.inr (.inr h))).imp (D4 x) id
  . rw[Ba _ _ B]at i;exact hO2 s x i
 have Gw:∀F4:Nat->Nat->Prop,(∀x,BJ F4 x->BJ (DZ G2 u F3) x\/Fa x)->Nx w0 S0 U0 w' S' (BJ F4):=by
  intro F4 hF4;refine Eh.trans ⟨EO.os,EO.tape,EO.output,EO.size,λb D T=>EO.block b D λhf=>T (D4 b hf),Lv,λb D=>(sE b D).imp id (Or.imp (D4 b) id),λ_=>Kp,λx i=> ?_⟩;rcases hF4 x i with j|j
  . exact hOwn3 x j
  . exact(L x (.inl j)).imp (D4 x) id
 rw[<- her3]at hK;have Qu:Rd (DZ (EP G F.length u δ2) u tE) a:=λs=>(ha s).trans (hann3 s).symm;simp only;cases d with
 |none=>
  have h0:o.dst=none:=hd;refine⟨_,⟨S',_,_,?_,?_,?_,rfl,hst3,Gw _ (λx i=>.inl i),Kp⟩,hK⟩
  . rw[h0];exact hn
  . rw[h0];exact EG
  . rw[h0];exact Qu
 |some d=>
  simp only[C2]at hK;split at hK
  . rename_i τ' Lx;obtain⟨j,C,h3,h4⟩:=hd;rw[<- RS]at Lx;obtain⟨δ',F5,KV,JD,Qv,XX⟩:=hst3.wr C h3 (λ_ _=>rfl) (λ_ _ _=>rfl) (λ_ h=>h) (λs x i=>(hst3.ok s).Et x i) hra' hdisD (W5 hra' (by rw[RS];exact G3)) Lx;refine⟨τ',⟨S',δ',F5,?_,?_,?_,JD,KV,Gw F5 XX,Kp⟩,hK⟩
    . rw[j];simpa[Act.put]using hn
    . rw[j];simpa[Act.put]using EG
    . intro s;rw[j,Ik a d.d rD.A0 h4 s,Qv s];split
      . rfl
      . exact Qu s
  . exact hK.elim
end
variable{dst:dD}{k:dg}{C:IC}
section
variable{P:Program}{G:Gi}
theorem HC(h:∀σ,K σ->k σ)(a:C2 dst v K τ):C2 dst v k τ:=by
 unfold C2 at*;split at a
 . split at a
   . exact h _ a
   . exact a.elim
 . exact h _ a
theorem O5(h:∀σ,K σ->k σ)(d:Kl P G io K σ):Kl P G io k σ:=by obtain⟨τ,b,c⟩:=O6.1 d;exact O6.2 ⟨τ,b,h _ c⟩
def P9(h:∀σ,K σ->k σ):∀{os:eP}{σ:Sg},Nh P G os K σ->Nh P G os k σ
 |[],_,ht=>h _ ht
 |_::_,_,ht=>O5 (λ_ b=>P9 h b) ht
theorem Km(h:∀σ,K σ->k σ):∀{c:iu}{σ:Sg},LG P G c K σ->LG P G c k σ
 |[],_,a=>h _ a
 | .o _::_,_,a=>O5 (λ_ i=>Km h i) a
 | .WL d neg x::c,σ,a=>by
  simp only[LG]at a |-;split at a
  . split at a
    . exactλb B=>HC (λ_ i=>Km h i) (a b B)
    . exact a.elim
  . exact a.elim
 | .gld d g n::c,σ,a=>by
  simp only[LG]at a |-;split at a
  . exact HC (λ_ i=>Km h i) a
  . exact a.elim
 | .bxv d n s::c,σ,a=>by
  simp only[LG]at a |-;split at a
  . exact⟨a.1,λD C=>HC (λ_ i=>Km h i) (a.2 D C)⟩
  . exact a.elim
 | .lb d f x Sx y::c,σ,a=>by
  have q:∀τ,LG P G c K τ->LG P G c k τ:=λ_ i=>Km h i;simp only[LG,lbP]at a |-;split at a
  case h_2=>exact a.elim
  split at a
  case h_2=>exact a.elim
  split at a
  case h_2=>exact a.elim
  split at a
  case h_2=>exact a.elim
  unfold lbQ at a |-;obtain⟨r,j,out,w,l,z,m⟩:=a;refine⟨r,j,out,w,l,z,?_⟩;split at m
  case h_2=>exact m.elim
  split at m
  case h_2=>exact m.elim
  exact HC q m
 | .clo d f x args g::c,σ,a=>by
  have q:∀τ,LG P G c K τ->LG P G c k τ:=λ_ i=>Km h i;have t:oL P d f x args (LG P G c K) σ->oL P d f x args (LG P G c k) σ:=by
   unfold oL;intro a;split at a
   . obtain⟨j,r,l⟩:=a;refine⟨j,r,?_⟩;split at l
     . exact HC q l
     . exact l.elim
   . exact a.elim
  have u:Yl d (LG P G c K) σ->Yl d (LG P G c k) σ:=by cases d<;>exact q _
  show gdP g _ _ σ;have a:gdP g _ _ σ:=a;cases g with
  |none=>exact t a
  |some g=>
   obtain⟨g,p⟩:=g;simp only[gdP]at a |-;cases hg:σ g with
   |sc v=>
    cases v with
    |bool b=>
     rw[hg]at a;by_cases e:b=p
     . simp only[AAL e]at a |-;exact t a
     . simp only[AAK e]at a |-;exact u a
    |_=>rw[hg]at a;exact a.elim
   |un=>rw[hg]at a;exact u a
   |_=>rw[hg]at a;exact a.elim
def Wp{f:zU}(h:∀σ,K σ->k σ):∀{os:eP}{m:Nat}{σ:Sg},ON P G f m os K σ->ON P G f m os k σ
 |[],_,_,ht=>⟨ht.1,h _ ht.2⟩
 |_::_,_,_,ht=>⟨ht.1,O5 (λ_ b=>Wp h b) ht.2⟩
def Wo{f:zV}(h:∀σ,K σ->k σ):∀{os:eP}{σ:Sg},Qp P G f os K σ->Qp P G f os k σ
 |[],_,ht=>h _ ht
 |_::_,_,ht=>⟨ht.1,O5 (λ_ b=>Wo h b) ht.2⟩
def goA:Exit->Bool
 | .goto _=>true
 |_=>false
theorem Zw:∀{Q k:Exit->Sg->Prop}{σ:Sg},(∀e σ,goA e=false->Q e σ->k e σ)->Hg P G C Q σ->Hg P G C k σ:=by
 induction C with
 |skip=>exactλh d=>h _ _ rfl d
 |bad=>exactλ_ d=>d
 |Yu xs=>exactλh d=>Km (λσ=>h .normal σ rfl) d
 |T1 ops=>exactλh d=>P9 (λσ=>h .normal σ rfl) d
 |bY fs ops=>exactλh d=>P9 (λσ=>h .normal σ rfl) d
 |flo f a b=>exactλh d=>Wo (λ_ l=>P9 (λσ=>h .normal σ rfl) l) d
 |apd f ops=>intro Q k σ h d;exact Wp (λ_ l=>O5 (λσ=>h .normal σ rfl) l) d
 |pg _ r p a RT=>
  intro Q k σ h d;refine RT (λe σ' j g=> ?_) d;cases e with
  |normal=>
   simp only[pgQ]at g |-;split at g
   . exact h _ _ j g
   . exact g.elim
  |_=>exact h _ _ j g
 |gz _ r p a RT=>
  intro Q k σ h d;simp only[Hg]at d |-;split at d
  . exact RT h d
  . exact d.elim
 |seq a b RT ihb=>
  intro Q k σ h d;refine RT (λe σ' j g=> ?_) d;cases e with
  |normal=>exact ihb h g
  |_=>exact h _ _ j g
 |cond c a b RT ihb=>
  intro Q k σ h d;rw[gS]at d |-;split at d
  . split at d
    . rename_i l;simp only[l,AAi];exact RT h d
    . rename_i l;simp only[l];exact ihb h d
  . exact d.elim
 |block id a RT=>
  intro Q k σ h d;refine RT (λe σ' j g=> ?_) d;cases e with
  |exit i=>
   rw[O8]at g |-;split
   . rename_i hi;rw[AAL hi]at g;exact h _ _ j g
   . rename_i hi;rw[AAK hi]at g;exact h _ _ j g
  |_=>exact h _ _ j g
 |loop a RT=>
  intro Q k σ h d;obtain⟨I,m,q⟩:=d;refine⟨I,m,λn τ o=>RT (λe σ' j g=> ?_) (q n τ o)⟩;cases e with
  |normal=>exact g
  |_=>exact h _ _ j g
 |exit id=>exactλh d=>h _ _ rfl d
 |ret=>exactλh d=>h _ _ rfl d
def gU{Q a:Exit->Sg->Prop}(h:∀e σ,Q e σ->a e σ):Hg P G C Q σ->Hg P G C a σ:=Zw λe σ _=>h e σ
end
variable{zs:dc}
section
variable{w w':World}{S S':de}{G:Gi}{δ:dy}{Fr:dh}{P:Program}
def ints(l:dc):List (List AV):=l.map λz=>[AV.sc (.int .i64 z)]
theorem jS(l:dc):(ints l).length=l.length:=by simp[ints]
theorem jR(l:dc)(i:Nat):(ints l)[i]? =(l[i]?).map λz=>[AV.sc (.int .i64 z)]:=by simp[ints]
theorem Xx(h:Ok w S D F)(f:D.er= .own false 1 (ints zs)):
 (D.A0= .slice none 0 0/\zs=[]/\∀x,¬F x)\/∃b c arr E,D.A0= .slice (some ⟨b,0,none⟩) zs.length c/\w.heap[b]? =some (.cells arr E (0,0))/\c=arr.size/\zs.length<=c/\¬S b/\
  (∀(i:Nat)(z:Int),zs[i]? =some z->arr[i]? =some (.int .i64 z))/\(∀x,F x↔x=b):=by
 cases h with
 |lf a v _ ha hF=>simp only[EY]at f;subst f;exact ha.elim
 |agg=>simp at f
 |BQ=>simp at f
 |nil k _ hF=>
  simp only[Eg,AAm,AV.own.injEq,true_and]at f
  left
  refine⟨ak,?_,hF⟩
  have:=ABZ List.length f.2;simpa[ints]using this.symm
 |own bx k rows b c arr E Fs _ hb hk D3 LJ hv hr hd Bg KE hF=>
  simp only[Eg,AV.own.injEq]at f;obtain⟨rfl,rfl,f⟩:=f
  right
  have g:rows.length=zs.length:=by have:=ABZ List.length f;simpa[ints]using this
  simp only[AAM,AAT,Nat.mul_one]at D3;have o:∀(i:Nat)(z:Int),zs[i]? =some z->∃D v,rows[i]? =some [D]/\D= .lf (.sc (.int .i64 z)) v/\v= .int .i64 z:=by
   intro i z n;have e:(rows.map (·.map DV.er))[i]? =some [AV.sc (.int .i64 z)]:=(by rw[f,jR,n];rfl);rw[AAN]at e;cases Iz:rows[i]? with
   |none=>simp[Iz]at e
   |some row=>
    simp only[Iz,AAf,AAC]at e;obtain⟨D,rfl,l⟩:=ABJ.1 e;clear e;have e:=l;clear l;have m:=hr i 0 [D] D Iz rfl;cases m with
    |lf a v _ ha hF=>rw[EY]at e;subst e;exact⟨_,v,rfl,rfl,ha.1⟩
    |nil=>simp at e
    |own=>simp at e
    |agg=>simp at e
    |BQ=>simp at e
  refine⟨b,c,arr,E,by simp[JT,g],hb,D3.1,ah,LJ,?_,?_⟩
  . intro i z n;obtain⟨D,v,e,rfl,rfl⟩:=o i z n
    have:=hv i 0 _ _ e rfl;simpa using this
  . intro x;rw[hF x];constructor
    . rintro(h|⟨i,j,h⟩)
      . exact h
      . obtain⟨row,D,e,l⟩:=Bg i j x h;have hi:i<zs.length:=(by rw[<- g];exact(AAE.1 e).1);obtain⟨r,v,p,rfl,_⟩:=o i zs[i] (AAJ hi);rw[e]at p;obtain rfl:=AAG p;have q:j=0:=(by have:=(AAE.1 l).1;simp at this;exact this);subst q;simp only[AAt,AAC]at l;subst l;have m:=hr i 0 _ _ e rfl;cases m with
        |lf _ _ _ _ XM=>exact absurd h (XM x)
    . exact .inl
theorem WM{c:Nat}(m:w.heap[f]? =some (.cells tmps E (0,0)))(n:c=tmps.size)(q:zs.length<=c)(l:¬S f)(p:∀(i:Nat)(z:Int),zs[i]? =some z->tmps[i]? =some (.int .i64 z)):
 ∃d,d.er= .own false 1 (ints zs)/\d.A0= .slice (some ⟨f,0,none⟩) zs.length c/\Ok w S d (λx=>x=f):=by
 have b:∀(i j:Nat) row d,(zs.map λz=>[DV.lf (.sc (.int .i64 z)) (.int .i64 z)])[i]? =some row->row[j]? =some d->∃z,zs[i]? =some z/\j=0/\d= .lf (.sc (.int .i64 z)) (.int .i64 z):=by
  intro i j row d a e;rw[AAN]at a;cases hi:zs[i]? with
  |none=>simp[hi]at a
  |some z=>simp only[hi,AAf,AAC]at a;subst a;have o:j=0:=(by have:=(AAE.1 e).1;simp at this;exact this);subst o;simp only[AAt,AAC]at e;exact⟨z,rfl,rfl,e.symm⟩
 have k:=Ok.own (w:=w) (S:=S) false 1 (zs.map λz=>[DV.lf (.sc (.int .i64 z)) (.int .i64 z)]) f c tmps E (λ_ _ _=>False) (λx=>x=f) m ak (by simp[n];omega) l
  (by intro i j row d a e;obtain⟨z,g,rfl,rfl⟩:=b i j row d a e;simpa using p i z g)
  (by intro i j row d a e;obtain⟨z,g,rfl,rfl⟩:=b i j row d a e;exact .lf _ _ _ ⟨rfl,rfl⟩ (λ_ h=>h))
  (λ_ _ _ _ _ h=>h.elim) (λ_ _ _ h=>h.elim) (λ_ _ h=>h) (λx=>ak)
 exact⟨_,by simp[ints],by simp[JT],k⟩
end
variable{R:iu}{Z:Code}
section
variable{w w':World}{S S':de}{G:Gi}{δ:dy}{Fr:dh}{P:Program}
def iG(P:Program)(G:Gi)(n:Nat)(ops:Array Oper)(o:Oper):gA->Bool
 | .o io=>G0 P G n ops o io
 | .WL d neg x=>o.guard.isNone&&Dy G n o.dst (some d)&&oI P o.op neg x
 | .gld d g m=>o.guard.isNone&&Dy G n o.dst (some d)&&oG P o.op g m
 | .bxv d m s=>o.guard.isNone&&Dy G n o.dst (some d)&&oB P o.op m s
 | .lb d f x Sx y=>o.guard.isNone&&Dy G n o.dst d&&Ji P o.op f (x::(Sx++[y])) 0
 | .clo d f x args g=>Kn n ops o.guard g&&Dy G n o.dst d&&oC P o.op f x args
def Z2(P:Program)(G:Gi)(n:Nat)(ops:Array Oper):List Oper->List gA->Bool
 |[],[]=>true
 |o::os,x::xs=>iG P G n ops o x&&Z2 P G n ops os xs
 |_,_=>false
theorem gV(u:Y2 w0 F U0)(Q:Exit->Act->World->Prop)(B:ops[f]? =some o){x:gA}{w:World}(h:Rel G n w0 F U0 a w σ)(c:iG P G n ops o x=true/\True)(b:LG P G (x::R) K σ):wpOp P ops Q f (λp w'=>∃σ',Rel G n w0 F U0 p w' σ'/\LG P G R K σ') a w:=by
 have t:o.guard.isNone=true->o.wp P a w (λp w'=>∃σ',Rel G n w0 F U0 p w' σ'/\LG P G R K σ') Q->wpOp P ops Q f (λp w'=>∃σ',Rel G n w0 F U0 p w' σ'/\LG P G R K σ') a w:=by
  intro N D;unfold wpOp;rw[B];have C:o.guard=none:=by simpa using N
  simp only;rw[AAL (by simp[Region.wanted,C])];exact .inl D
 cases x with
 |o io=>exact IZ u h c.1 b Q B
 |WL d neg x=>
  simp only[iG,AAD]at c;obtain⟨⟨⟨e,g2⟩,i⟩,_⟩:=c;refine t e ?_;simp only[LG]at b;split at b
  . rename_i T U O;split at b
    . rename_i rows I;exact p6 h i g2 O I b Q
    . exact b.elim
  . exact b.elim
 |lb d k x Sx y=>simp only[iG,AAD]at c;obtain⟨⟨⟨e,g2⟩,i⟩,_⟩:=c;exact t e (lb_sound u h i g2 b Q)
 |bxv d m s=>
  simp only[iG,AAD]at c;obtain⟨⟨⟨e,g2⟩,i⟩,_⟩:=c;refine t e ?_;simp only[LG]at b;split at b
  . rename_i M z;exact vJ h i g2 z b.1 b.2 Q
  . exact b.elim
 |clo d k x args g=>
  simp only[iG,AAD]at c;obtain⟨⟨⟨e,g2⟩,i⟩,_⟩:=c;simp only[LG]at b;refine PG h g2 e Q (λb=> ?_) (λ_ _ r f=>⟨_,r,f⟩) b B;unfold oL at b;split at b
  . rename_i L H;obtain⟨S,j,b⟩:=b;split at b
    . rename_i v E;exact vU u h i g2 H j E b Q
    . exact b.elim
  . exact b.elim
 |gld d g m=>
  simp only[iG,AAD]at c;obtain⟨⟨⟨e,g2⟩,i⟩,_⟩:=c;refine t e ?_;simp only[LG]at b;split at b
  . rename_i M J;exact wT u h i g2 J b Q
  . exact b.elim
theorem vD(s:Y2 w0 F U0)(Q:Exit->Act->World->Prop)(t:∀a w σ,Rel G n w0 F U0 a w σ->K σ->Q .normal a w)(d:iu):
 ∀(k:Nat){a:Act}{w:World}{σ:Sg},Rel G n w0 F U0 a w σ->Z2 P G n ops (ops.toList.drop k) d=true->LG P G d K σ->wpOps P ops Q (List.range' k (ops.size-k)) a w:=by
 induction d with
 |nil=>
  intro k a w σ h b m;have p:ops.toList.drop k=[]:=by cases hd:ops.toList.drop k with|nil=>rfl|cons o os=>rw[hd]at b;simp[Z2]at b
  have q:ops.size<=k:=by simpa using p
  rw[show ops.size-k=0 from by omega];exact t a w σ h m
 |cons x d ih=>
  intro k a w σ h b m;cases hd:ops.toList.drop k with
  |nil=>rw[hd]at b;simp[Z2]at b
  |cons o os=>rw[hd]at b;simp only[Z2,AAD]at b;have p:k<ops.size:=(by have:(ops.toList.drop k).length=os.length+1:=(by rw[hd];rfl);simp at this;omega);have u:ops[k]? =some o:=(by have:(ops.toList.drop k)[0]? =some o:=(by rw[hd];rfl);simpa using this);have l:ops.toList.drop (k+1)=os:=(by have:(ops.toList.drop k).drop 1=os:=(by rw[hd];rfl);rw[List.drop_drop]at this;exact this);rw[show ops.size-k=(ops.size-(k+1))+1 from by omega,List.range'_succ,wpOps_cons];have c:∀i w',(∃σ',Rel G n w0 F U0 i w' σ'/\LG P G d K σ')->wpOps P ops Q (List.range' (k+1) (ops.size-(k+1))) i w':=(by rintro i w' ⟨σ',r,j⟩;exact ih (k+1) r (by rw[l];exact b.2) j);exact wpOp_mono c (gV s Q u h ⟨b.1,trivial⟩ m)
def Gh(P:Program)(G:Gi)(n:Nat):Code->IC->Bool
 | .skip,.skip=>true
 |_,.bad=>true
 |c,.gz _ _ _ a=>Gh P G n c a
 |c,.pg _ _ _ a=>Gh P G n c a
 | .region _ ops false,.Yu xs=>Z2 P G n ops ops.toList xs
 | .region _ ops d,.T1 Dj=>Lb P G n ops ops.toList Dj&&(!d||La G ops.toList Dj)
 | .region _ ops true,.flo f aZ9 bs=>oF P G n f ops (aZ9++bs)&&aZ9.length==f.i2+1
 | .region _ ops true,.bY fs Dj=>oE P G n fs ops Dj
 | .region _ ops true,.apd f Dj=>oA P G n f ops Dj
 | .seq a b,.seq a' b'=>Gh P G n a a'&&Gh P G n b b'
 | .cond c a b,.cond c' a' b'=>CR c c'&&Gh P G n a a'&&Gh P G n b b'
 | .block id a,.block id' a'=>id==id'&&Gh P G n a a'
 | .loop a,.loop a'=>Gh P G n a a'
 | .exit id,.exit id'=>id==id'
 | .ret,.ret=>true
 | .label _,.skip=>true
 | .scope a,.seq .skip c=>Gh P G n a c
 |_,_=>false
def QQ(m:Nat)(a0 a:Act):Prop:=∀i,i<m->a.tmps.getD i undef=a0.tmps.getD i undef
def QQ.refl(m:Nat)(a:Act):QQ m a a:=λ_ _=>rfl
def Uk(m:Nat)(o:Oper):Bool:=match o.dst with
 |some d=>decide (m<=d)
 |none=>true
def GF(m:Nat):Code->Bool
 | .region _ ops _=>ops.toList.all (Uk m)
 | .seq a b=>GF m a&&GF m b
 | .cond _ a b=>GF m a&&GF m b
 | .block _ a=>GF m a
 | .loop a=>GF m a
 | .scope a=>GF m a
 |_=>true
theorem PA(c:Code):GF 0 c=true:=by
 induction c with
 |region id ops d=>simp only[GF,AAH];intro o _;unfold Uk;split<;>simp
 |seq a b RT ihb=>simp[GF,RT,ihb]
 |cond c a b RT ihb=>simp[GF,RT,ihb]
 |block id a RT=>simp[GF,RT]
 |loop a RT=>simp[GF,RT]
 |scope a RT=>simp[GF,RT]
 |_=>simp[GF]
def Kept(m:Nat)(a0:Act)(Q:Exit->Act->World->Prop)(e:Exit)(a:Act)(w:World):Prop:=Q e a w/\(e= .outgrown\/QQ m a0 a)
theorem QQ.put{a0:Act}(h:QQ n a0 a)(b:Uk n o=true)(v:Value):QQ n a0 (a.put o.dst v):=by
 intro i hi;unfold Uk at b;split at b
 . rename_i d hd;simp only[AAV]at b;rw[hd];simp only[Act.put,AAZ,ABB];rw[AAK ah]
   have:=h i hi;simpa[AAZ]using this
 . rename_i hd;rw[hd];exact h i hi
variable{Q:Exit->Act->World->Prop}
theorem Yt{a0:Act}(m:ops.toList.all (Uk n)=true)(l:dF):
 ∀(a:Act)(w:World),QQ n a0 a->wpOps P ops Q l a w->wpOps P ops (Kept n a0 Q) l a w:=by
 induction l with
 |nil=>intro a w c h;exact⟨h,.inr c⟩
 |cons i rest ih=>
  intro a w c h;simp only[wpOps]at h |-;cases ho:ops[i]? with
  |none=>simp only[ho]at h |-;exact ih a w c h
  |some o=>
   simp only[ho]at h |-;have b:Uk n o=true:=(by rw[AAH]at m;exact m o (by rw[Array.mem_toList_iff];exact Array.mem_of_getElem? ho));have g:LetsOut Q->LetsOut (Kept n a0 Q):=λ⟨a,w,q⟩=>⟨a,w,q,.inl rfl⟩;by_cases p:Region.wanted o (yielded ops a.tmps)=true
   . simp only[p,AAi]at h |-;refine h.imp (λh=> ?_) (λh=>⟨h.1,g h.2⟩);unfold Oper.wp at*;generalize (execOp a.eval o).run P w=r at*;cases r with
     |ok x w'=>
      cases x with
      |value v=>exact ih _ _ (c.put b v) h
      |skip=>exact ih _ _ (c.put b undef) h
      |defer d=>exact ih _ _ (QQ.put (a:={a with defers:=d::a.defers}) (λi hi=>c i hi) b undef) h
      |enter f args=>
       simp only[Oper.upon]at h |-;refine Calls.mono h λe k j=> ?_;cases e with
       |returned v=>exact ih _ _ (c.put b v) j
       |panicked chain=>exact⟨j,.inr c⟩
       |outgrown=>exact g j
      |row row args=>simp only[Oper.upon]at h |-;exact Rows.mono h λv k j=>ih _ _ (c.put b v) j
      |_=>simp only[Oper.upon]at h
     |halt x w'=>
      cases x with
      |panic v=>simp only[Oper.upon]at h |-;exact⟨h,.inr c⟩
      |_=>simp only[Oper.upon]at h
   . simp only[p]at h |-;exact ih _ _ (c.put b undef) h
def P4{a0:Act}{w:World}(b:ops.toList.all (Uk f)=true)(c:QQ f a0 a)(h:wpOps P ops Q (List.range ops.size) a w):(Code.region n ops false).wp P (Kept f a0 Q) a w:=wp_region (Yt b _ a w c h)
theorem Hl{a0:Act}{w:World}(b:ops.toList.all (Uk f)=true)(c:QQ f a0 a)(d:P.follows .mixedOrders=true)(h:wpAny P .any ops Q ops.size (Array.replicate ops.size false) a {w with drawn:=w.drawn+1}):(Code.region n ops true).wp P (Kept f a0 Q) a w:=
 wp_region_draw λt=>by simp only[Region.schedule,d,Bool.true_or,AAi];exact Yt b _ a _ c (wpAny_sound ops.size t _ a _ h)
def Wj(G:Gi)(n:Nat)(w0:World)(S0 U0:de)(Q:Exit->Sg->Prop)(e:Exit)(a:Act)(w:World):Prop:=∃σ,Rel G n w0 S0 U0 a w σ/\Q e σ
def Tied(G:Gi)(n:Nat)(w0:World)(S0 U0:de)(m:Nat)(a0:Act)(Q:Exit->Sg->Prop):Exit->Act->World->Prop:=Kept m a0 (Wj G n w0 S0 U0 Q)
theorem Rel.drew(h:Rel G n w0 F U0 a w σ):Rel G n w0 F U0 a {w with drawn:=w.drawn+1} σ:=by obtain⟨S,δ,Fr,hn,i,k,j,c,b,g⟩:=h;exact⟨S,δ,Fr,hn,i,k,j,c.world (λ_ _=>rfl) (λ_ _ _=>rfl) (λ_ h=>h) (λs x l=>(c.ok s).Et x l),⟨b.os,b.tape,b.output,b.size,b.block,b.sub,b.sup,b.lt,b.own⟩,g⟩
theorem Rel.gz(h:Rel G n w0 F U0 a w σ)(i:QT G f p σ=some (v,τ)):Rel G n w0 F U0 a w τ:=by
 obtain⟨S,δ,Fr,hn,q,D,rfl,r,u,o⟩:=h;obtain⟨e,y,z,v,bx,k,rows,C,B,m,_,_,_,I,g,_⟩:=r.QT i;have c:∀x,z x->x<w.heap.size:=λx d=>by obtain⟨t,H⟩:=g x (.inr d);exact(r.ok t).lt x H
 exact⟨_,e,y,hn,q,λs=>(D s).trans (m s).symm,B,C,u.trans (Nx.JH (λx d=>g x d) c),λb E=>E.elim (o b) (c b)⟩
theorem cz_tree{rows:dr}(h:Ok w S (.own u b n rows) F):∃a q,a.map (·.map DV.er)=(rows.map (·.map DV.er)).map (·.map JH)/\(∀x,q x->F x)/\Ok w (λx=>S x\/(F x/\¬q x)) (.own u b n a) q:=by
 cases h with
 |nil _ _ hF=>exact⟨[],F,rfl,λ_ h=>h,.nil n F hF⟩
 |own _ _ _ bx c arr E Fs _ hb hk D3 LJ hv hr hd Bg KE hF=>
  obtain⟨r,m,g⟩:=LB rows (λi row (R:dH)=>R.length=row.length/\∀(j:Nat) d,row[j]? =some d->∃D,R[j]? =some D/\(D.er=JH d.er/\D.A0=d.A0/\Ok w (λx=>S x\/Fs i j x) D (λ_=>False))) (by intro i row hi;exact LB row (λj d D=>D.er=JH d.er/\D.A0=d.A0/\Ok w (λx=>S x\/Fs i j x) D (λ_=>False)) (by intro j d z;obtain⟨D,l,f,p,_⟩:=RO (δ:=λ_=>default) (hr i j row d hi z);exact⟨D,l,f,p⟩));have e:r.map (·.map DV.er)=(rows.map (·.map DV.er)).map (·.map JH):=by refine map_mk m g _ _ ak λi row R o v=> ?_;simp only[AAN,v,AAf,AAC];exact(map_mk o.1 o.2 _ _ ak λj d D hd v=>by simp[v,hd.1]).symm
  refine⟨r,λx=>x=bx,e,λx y=>(hF x).2 (.inl y),?_⟩;rw[<- m];refine .own b n r bx c arr E (λ_ _ _=>False) _ hb ?_ (by rw[m];exact D3) ?_ ?_ ?_ (λ_ _ _ _ _ h=>h.elim) (λ_ _ _ h=>h.elim) (λ_ _ h=>h) (λx=>ak)
  . intro R k;obtain⟨i,hi⟩:=AAd k;obtain⟨row,l,f⟩:=mem_mk m g i R hi;rw[f.1];exact hk row (AAP l)
  . rintro(h|⟨_,h⟩)
    . exact LJ h
    . exact h rfl
  . intro i j R D k t;obtain⟨row,l,f⟩:=mem_mk m g i R k;obtain⟨d,p,s⟩:=mem_mk f.1 f.2 j D t;rw[s.2.1];exact hv i j row d l p
  . intro i j R D k t;obtain⟨row,l,f⟩:=mem_mk m g i R k;obtain⟨d,p,s⟩:=mem_mk f.1 f.2 j D t;exact s.2.2.mono (λ_ _=>rfl) (λ_ h=>h.elim) (λx y=>y.imp id λh=>⟨(hF x).2 (.inr ⟨i,j,h⟩),λe=>KE i j (e▸h)⟩) (λ_ h=>h.elim)
theorem Rel.cz{P:World}(h:Rel G n P F U0 a w σ)(j:czS G f p σ=some τ):Rel G n P F U0 a w τ:=by
 obtain⟨S,δ,Fr,hn,T,O,rfl,r,U,R⟩:=h;unfold czS at j;split at j
 . rename_i b k rows hs;split at j
   . rename_i t W;obtain rfl:=AAG j;obtain⟨nD,N,i⟩:=Dt (r.ok f).Kt hs;obtain⟨E,J,l,Mq⟩:=(r.ok f).replace p N;cases nD with
     |own v b2 k2 Ao=>
      simp only[Eg,AV.own.injEq]at i;obtain⟨rfl,rfl,Z⟩:=i;obtain⟨g,z,e1,K,e3⟩:=cz_tree J;obtain⟨tD,y,o,m,X,Q⟩:=Mq w (λx=>S x\/(E x/\¬z x)) (.own v b2 k2 g) z ak e3 (λx c _=>K x c) (λ_ _=>rfl) (λ_ _ _=>rfl) (λ_ h=>.inl h)
       (λx c KU=>λh=>h.elim (λh=>(r.ok f).Et x c h) λh=>KU h.1)
      have xF:tD.er=t:=(by obtain⟨t',L,h2⟩:=G5 (d:=δ f) (p:=p) (a:=t) (.own v b2 k2 g) (r.ok f).Kt (by simp only[Eg,e1,Z,<- WC];exact W);rw[o]at L;obtain rfl:=AAG L;exact h2);have I:∀x,y x->Fr f x:=λx c=>((X x).1 c).elim (λh=>h.1) λh=>l x (K x h);have V:St G w (λx=>S x\/(E x/\¬z x)) (DZ (EP G (p.length+1) f δ) f tD) (DZ Fr f y):=
       r.setn (p.length+1) f tD y (λ_ _=>rfl) (λ_ _ _ _=>rfl) (λ_ h=>.inl h) (λs B x c h=>h.elim (λh=>(r.ok s).Et x c h) λh=>B (r.Lu s f x c (l x h.1)))
        m (λs B x c hy=>B (r.Lu s f x hy (I x c))) (Ll p o (r.rt f) ak) (MZ p o (r.al f) (.own _ _ _ _))
        λq v' bx k' Iu hq C=>NR q p ah o (λ_ v3 bx3 k3 D M=>by rw[N]at M;cases M;exact⟨_,rfl⟩) C
      refine⟨_,_,_,hn,T,λs=> ?_,?_,V,U.trans (Nx.JH (λx c=> ?_) λx c=> ?_),?_⟩
      . rw[Mn r];split
        . rename_i e;rw[e,Q];exact O f
        . exact O s
      . rw[Ns r,xF]
      . rcases c with⟨s,c⟩|c
        . by_cases e:s=f
          . subst e;rw[BM]at c;exact⟨_,I x c⟩
          . rw[Ba _ _ e]at c;exact⟨s,c⟩
        . exact⟨f,l x c.1⟩
      . exact(r.ok f).lt x (l x c.1)
      . exactλx c=>c.elim (R x) λh=>(r.ok f).lt x (l x h.1)
     |lf a u=>simp only[EY]at i;subst i;cases J with|lf _ _ _ h=>exact h.elim
     |agg=>simp at i
     |BQ=>simp at i
   . cases j
 . cases j
theorem Rel.gzS(h:Rel G n w0 F U0 a w σ)(c:gzS G b f p σ=some τ):Rel G n w0 F U0 a w τ:=by
 unfold Abs.gzS at c;split at c
 . exact h.cz c
 split at c
 . obtain rfl:=AAG c;exact h
 . split at c
   . rename_i v i g;obtain rfl:=AAG c;exact h.gz g
   . cases c
def isGz:IC->Bool
 | .gz .. =>true
 | .pg .. =>true
 |_=>false
theorem Ig{a0:Act}(h:∀ic,isGz ic=false->∀(Q:Exit->Sg->Prop)(a:Act)(w:World)(σ:Sg),Gh P G n Z ic=true->GF f Z=true->QQ f a0 a->Rel G n w0 F U0 a w σ->Hg P G ic Q σ->Z.wp P (Tied G n w0 F U0 f a0 Q) a w):
 ∀(ic:IC)(Q:Exit->Sg->Prop)(a:Act)(w:World)(σ:Sg),Gh P G n Z ic=true->GF f Z=true->QQ f a0 a->Rel G n w0 F U0 a w σ->Hg P G ic Q σ->Z.wp P (Tied G n w0 F U0 f a0 Q) a w:=by
 intro ic;induction ic with
 |gz _ r p x ZK=>
  intro Q a w σ o k j s b;have l:Gh P G n Z x=true:=by cases Z<;>simpa[Gh]using o
  simp only[Hg]at b;split at b
  . rename_i τ q;exact ZK Q a w τ l k j (s.gzS q) b
  . exact b.elim
 |pg _ r p x ZK=>
  intro Q a w σ o k j s b;have l:Gh P G n Z x=true:=by cases Z<;>simpa[Gh]using o
  refine wp_mono (ZK _ a w σ l k j s b) ?_;rintro e y w' ⟨⟨τ,t,d⟩,u⟩;refine⟨?_,u⟩;cases e with
  |normal=>
   simp only[pgQ]at d;split at d
   . rename_i v q;exact⟨v,t.gzS q,d⟩
   . exact d.elim
  |_=>exact⟨τ,t,d⟩
 |_=>exact h _ rfl
theorem Zx(v:Y2 w0 F U0)(L:P.follows .mixedOrders=true){m:Nat}{a0:Act}(c:Code):∀(ic:IC)(Q:Exit->Sg->Prop)(a:Act)(w:World)(σ:Sg),Gh P G n c ic=true->GF m c=true->QQ m a0 a->Rel G n w0 F U0 a w σ->Hg P G ic Q σ->c.wp P (Tied G n w0 F U0 m a0 Q) a w:=by
 induction c with
 |skip=>
  refine Ig ?_;intro ic o Q a w σ g p r h j;cases ic with
  |skip=>exact wp_skip ⟨⟨σ,h,j⟩,.inr r⟩
  |bad=>exact j.elim
  |gz=>cases o
  |pg=>cases o
  |_=>simp[Gh]at g
 |region id ops d=>
  refine Ig ?_;intro ic o Q a w σ g p r h j;cases ic with
  |T1 Dj=>
   simp only[Gh,AAD,AAk,ABP]at g;obtain⟨g,JT⟩:=g;cases d with
   |false=>
    refine P4 p r ?_
    have:=nF v (P:=P) (G:=G) (ops:=ops) (K:=Q .normal) (Wj G n w0 F U0 Q) (λa w σ h u=>⟨σ,h,u⟩) Dj 0 h (by simpa using g) j;rw[List.range_eq_range'];simpa using this
   |true=>refine Hl p r L ?_;replace JT:=JT.resolve_left ak;exact iR v (P:=P) (G:=G) (K:=Q .normal) (Wj G n w0 F U0 Q) (λa w σ h u=>⟨σ,h,u⟩) h.drew g JT j
  |flo f aZ9 bs=>
   cases d with
   |false=>simp[Gh]at g
   |true=>simp only[Gh,AAD,AAR]at g;refine Hl p r L ?_;obtain⟨q,q0,q1,q2,q3⟩:=floRun j;exact wF v (P:=P) (G:=G) (K:=Q .normal) (Wj G n w0 F U0 Q) (λa w σ h u=>⟨σ,h,u⟩) h.drew g.1 q q0 q1 q3 (λm L=>q2 m ah)
  |bY fs Dj=>
   cases d with
   |false=>simp[Gh]at g
   |true=>simp only[Gh]at g;refine Hl p r L ?_;exact wE v (P:=P) (G:=G) (K:=Q .normal) (Wj G n w0 F U0 Q) (λa w σ h u=>⟨σ,h,u⟩) h.drew g j
  |apd f Dj=>
   cases d with
   |false=>simp[Gh]at g
   |true=>simp only[Gh]at g;refine Hl p r L ?_;exact uO v (P:=P) (G:=G) (K:=Q .normal) (Wj G n w0 F U0 Q) (λa w σ h u=>⟨σ,h,u⟩) h.drew g j
  |Yu xs=>
   cases d with
   |true=>simp[Gh]at g
   |false=>
    simp only[Gh]at g;refine P4 p r ?_
    have:=vD v (P:=P) (G:=G) (ops:=ops) (K:=Q .normal) (Wj G n w0 F U0 Q) (λa w σ h u=>⟨σ,h,u⟩) xs 0 h (by simpa using g) j;rw[List.range_eq_range'];simpa using this
  |bad=>exact j.elim
  |gz=>cases o
  |pg=>cases o
  |_=>simp[Gh]at g
 |seq x y ZK ihy=>
  refine Ig ?_;intro ic o Q a w σ g p r h j;cases ic with
  |seq x' y'=>
   simp only[Gh,AAD]at g;simp only[GF,AAD]at p;refine wp_seq (wp_mono (ZK x' _ a w σ g.1 p.1 r h j) ?_);rintro e J w' ⟨⟨σ',B,t⟩,D⟩;cases e with
   |normal=>exact ihy y' Q J w' σ' g.2 p.2 (D.resolve_left ak) B t
   |_=>exact⟨⟨σ',B,t⟩,D⟩
  |bad=>exact j.elim
  |gz=>cases o
  |pg=>cases o
  |_=>simp[Gh]at g
 |cond c x y ZK ihy=>
  refine Ig ?_;intro ic o Q a w σ g p r h j;cases ic with
  |cond c' x' y'=>
   simp only[Gh,AAD]at g;obtain⟨⟨X,E⟩,Z⟩:=g;simp only[GF,AAD]at p;rw[gS]at j;split at j
   . rename_i b hb;have U:a.eval c= .bool b:=(by obtain⟨S,δ,Fr,hn,EG,ha,rfl,V,_⟩:=h;obtain⟨hy,T⟩:=Am X ha;rw[T];exact(V.Ew hy hb).1);split at j
     . rename_i R;subst R;exact wp_cond_true U (ZK x' Q a w σ E p.1 r h j)
     . rename_i O;obtain rfl:b=false:=(by simpa using O);exact wp_cond_false U (ihy y' Q a w σ Z p.2 r h j)
   . exact j.elim
  |bad=>exact j.elim
  |gz=>cases o
  |pg=>cases o
  |_=>simp[Gh]at g
 |block id x ZK=>
  refine Ig ?_;intro ic o Q a w σ g p r h j;cases ic with
  |block id' x'=>
   simp only[Gh,AAD,AAR]at g;obtain⟨rfl,E⟩:=g;simp only[GF]at p;refine wp_block (wp_mono (ZK x' _ a w σ E p r h j) ?_);rintro e J w' ⟨⟨σ',B,t⟩,D⟩;cases e with
   |exit i=>
    simp only[Exit.inBlock];rw[O8]at t;have H:=D.resolve_left ak;split
    . rename_i hi;rw[AAL hi]at t;exact⟨⟨σ',B,t⟩,.inr H⟩
    . rename_i hi;rw[AAK hi]at t;exact⟨⟨σ',B,t⟩,.inr H⟩
   |_=>exact⟨⟨σ',B,t⟩,D⟩
  |bad=>exact j.elim
  |gz=>cases o
  |pg=>cases o
  |_=>simp[Gh]at g
 |loop x ZK=>
  refine Ig ?_;intro ic o Q a w σ g p r h j;cases ic with
  |loop x'=>
   simp only[Gh]at g;obtain⟨I,⟨n0,W⟩,pO⟩:=j;simp only[GF]at p;refine wp_loop_ghost (λk a w=>(∃σ,Rel G n w0 F U0 a w σ/\I k σ)/\QQ m a0 a) n0 ⟨⟨σ,h,W⟩,r⟩ ?_;rintro k J w' ⟨⟨τ,B,hI⟩,D⟩;refine wp_mono (ZK x' _ J w' τ g p D B (pO k τ hI)) ?_;rintro e a2 w2 ⟨⟨M,E,t⟩,H⟩;cases e with
   |normal=>obtain⟨k',u,N⟩:=t;exact⟨k',u,⟨M,E,N⟩,H.resolve_left ak⟩
   |_=>exact⟨⟨M,E,t⟩,H⟩
  |bad=>exact j.elim
  |gz=>cases o
  |pg=>cases o
  |_=>simp[Gh]at g
 |exit id=>
  refine Ig ?_;intro ic o Q a w σ g p r h j;cases ic with
  |exit id'=>simp only[Gh,AAR]at g;subst g;exact wp_exit ⟨⟨σ,h,j⟩,.inr r⟩
  |bad=>exact j.elim
  |gz=>cases o
  |pg=>cases o
  |_=>simp[Gh]at g
 |ret=>
  refine Ig ?_;intro ic o Q a w σ g p r h j;cases ic with
  |ret=>exact wp_ret ⟨⟨σ,h,j⟩,.inr r⟩
  |bad=>exact j.elim
  |gz=>cases o
  |pg=>cases o
  |_=>simp[Gh]at g
 |rangeFunc=>refine Ig ?_;intro ic o Q a w σ g p r h j;cases ic with|bad=>exact j.elim|gz=>cases o|pg=>cases o|_=>simp[Gh]at g
 |scope x ZK=>
  refine Ig ?_;intro ic o Q a w σ g p r h j;cases ic with
  |bad=>exact j.elim
  |gz=>cases o
  |pg=>cases o
  |seq s ic=>
   cases s with
   |skip=>
    refine wp_scope_straight (wp_mono (ZK ic (λe σ=>goA e=false/\Q e σ) a w σ (by simpa[Gh]using g) (by simpa[GF]using p) r h (Zw (λe σ T t=>⟨T,t⟩) j)) ?_);rintro e J w' ⟨⟨σ',B,t⟩,D⟩;cases e with
    |goto l=>cases t.1
    |_=>exact⟨⟨σ',B,t.2⟩,D⟩
   |_=>simp[Gh]at g
  |_=>simp[Gh]at g
 |label=>refine Ig ?_;intro ic o Q a w σ g p r h j;cases ic with|skip=>exact wp_label ⟨⟨σ,h,j⟩,.inr r⟩|bad=>exact j.elim|gz=>cases o|pg=>cases o|_=>simp[Gh]at g
 |goto=>refine Ig ?_;intro ic o Q a w σ g p r h j;cases ic with|bad=>exact j.elim|gz=>cases o|pg=>cases o|_=>simp[Gh]at g
 |refuse=>refine Ig ?_;intro ic o Q a w σ g p r h j;cases ic with|bad=>exact j.elim|gz=>cases o|pg=>cases o|_=>simp[Gh]at g
end
variable{j:Func}{T:il}
section
variable{w w':World}{S S':de}{G:Gi}{δ:dy}{Fr:dh}{P:Program}
def iE(P:Program):ResultVar->RV->Bool
 | .tmp t,.tmp t'=>t==t'
 | .cell a t,.cell a' agg n=>a==a'&&Ga P t==some n&&JK P t==some agg&&(agg||n==1)
 |_,_=>false
def O9(P:Program):List ResultVar->List RV->Bool
 |[],[]=>true
 |r::rs,v::vs=>iE P r v&&O9 P rs vs
 |_,_=>false
def Rq(tmps:Array Value):ResultVar->Sem Value
 | .tmp t=>pure (tmps.getD t undef)
 | .cell a t=>do loadVar t (<- asAddr (tmps.getD a undef))
theorem Mt{a b:Type}(f:a->Sem b)(x:a)(l:List a){v:b}{vs:List b}(c:(f x).run P w= .ok v w)(d:(l.mapM f).run P w= .ok vs w):((x::l).mapM f).run P w= .ok (v::vs) w:=by rw[List.mapM_cons];simp[c,d]
theorem JA(B:List ResultVar):∀{rs:il}{δ:dy}{Fr:dh}{vs:dm}{τ:Sg},St G w S δ Fr->(∀s,tmps.getD s undef=(δ s).A0)->O9 P B rs=true->
 Ft G rs (λs=>(δ s).er)=some (vs,τ)->∃(F:dH)(FD:de),F.map DV.er=vs/\(B.mapM (Rq tmps)).run P w= .ok (F.map DV.A0) w/\JQ w S F FD/\(∀x,FD x->BJ Fr x)/\
  ∃(C:dy)(W:dh),St G w S C W/\(λs=>(C s).er)=τ/\(∀s,(C s).A0=(δ s).A0)/\(∀s x,W s x->¬FD x)/\(∀x,BJ W x->BJ Fr x):=by
 induction B with
 |nil=>
  intro rs δ Fr vs τ h K Q l;cases rs with
  |nil=>simp only[Ft,AAC,AAQ]at l;obtain⟨rfl,rfl⟩:=l;exact⟨[],λ_=>False,rfl,ak,λ_ h=>h,λ_ h=>h.elim,δ,Fr,h,rfl,λ_=>rfl,λ_ _ _ h=>h,λ_ h=>h⟩
  |cons=>simp[O9]at Q
 |cons rv B ih=>
  intro rs δ Fr vs τ h K Q l;cases rs with
  |nil=>simp[O9]at Q
  |cons r rs=>
   simp only[O9,AAD]at Q;obtain⟨M,Mo⟩:=Q;cases r with
   |tmp t=>
    cases rv with
    |cell=>simp[iE]at M
    |tmp t'=>
     simp only[iE,AAR]at M;subst M;simp only[Ft]at l;split at l
     . rename_i v τ1 Yx;split at l
       . rename_i vs' τ' o;simp only[AAC,AAQ]at l;obtain⟨rfl,rfl⟩:=l;obtain⟨C,W,D,Ff,y,JD,FP,T3⟩:=h.tk (x:=.t t') trivial Yx;subst JD;obtain⟨F,FD,Z,g2,g3,O,q,N,k1,k2,k3,U,k5⟩:=ih y.st (λs=>(K s).trans (y.A0 s).symm) Mo o;refine⟨D::F,λx=>Ff x\/FD x,by simp[FP,Z],?_,⟨Ff,FD,y.ok,g3,?_,λx=>ABb⟩,?_,q,N,k1,k2,λs=>(k3 s).trans (y.A0 s),?_,λx f=>y.own x (.inl (k5 x f))⟩
         . refine Mt _ _ _ ?_ g2;simp[Rq,K,T3,C6]
         . intro x f m;obtain⟨s,g⟩:=O x m;exact y.Lu s x g f
         . rintro x (f|f)
           . exact y.own x (.inr f)
           . exact y.own x (.inl (O x f))
         . rintro s x f (m|m)
           . obtain⟨s',Gu⟩:=k5 x ⟨s,f⟩;exact y.Lu s' x Gu m
           . exact U s x f m
       . cases l
     . cases l
   |cell a agg n=>
    cases rv with
    |tmp=>simp[iE]at M
    |cell a' t=>
     simp only[iE,AAD,AAR,AAk]at M;obtain⟨⟨⟨rfl,hn⟩,hg⟩,hg1⟩:=M;simp only[Ft]at l;split at l
     . rename_i k row g;split at l
       . rename_i v p;split at l
         . rename_i vs' τ' o;simp only[AAC,AAQ]at l;obtain⟨rfl,rfl⟩:=l;obtain⟨Ao,hd,u⟩:=h.Xr g;have Cm:=h.ok a';rw[hd]at Cm
           match Ao,u with
           |[Im],u=>
            simp only[AAU,AAm,List.cons.injEq,and_true]at u;generalize T:(δ a').A0=va at*;cases Cm with
            |own _ _ _ b c arr E Fs _ hb hk D3 LJ hvv hr Lw Bg KE hF=>
             have hkr:Im.length=k:=hk Im ak;simp only[AAi]at D3;have J:JQ w S Im (λx=>∃j,Fs 0 j x):=(by refine Je.2 ⟨λj=>Fs 0 j,λj d I=>hr 0 j Im d rfl I,λi i' x f m=>(Lw 0 i 0 i' x f m).2,λj x f=> ?_,λx=>ABb⟩;obtain⟨row',d,h1,h2⟩:=Bg 0 j x f;simp only[AAt,AAC]at h1;exact⟨d,h1▸h2⟩);have R:Im.length=n:=by
              have:row.length=n:=by
               unfold Ia at p;split at p
               . assumption
               . cases p
              rw[<- this,<- u];simp
             have CP:=h.set (w':=w) (S':=S) a' (.lf .dead (JT true b 1 c)) (λ_=>False) (λ_ _=>rfl) (λ_ _ _ _=>rfl) (λ_ h=>h) (λs _ x f=>(h.ok s).Et x f) (.lf _ _ _ trivial (λ_ h=>h)) (λ_ _ _ h=>h.elim) ak (.lf _ _ trivial);have JD:(λs=>(DZ (HE G a' δ) a' (.lf .dead (JT true b 1 c)) s).er)=DZ (JV G a' λs=>(δ s).er) a' .dead:=by
              funext s;simp only[DZ];split
              . simp
              . exact h.jV a' s
             rw[<- JD]at o;have Dh:∀s,tmps.getD s undef=(DZ (HE G a' δ) a' (.lf .dead (JT true b 1 c)) s).A0:=by
              intro s;simp only[DZ];split
              . rename_i e;subst e;rw[K,T];simp
              . rw[K,h.UM a' s]
             obtain⟨F,FD,Z,g2,g3,O,q,N,q1,q2,q3,q4,q5⟩:=ih CP Dh Mo o;have V:∀s,(q s).A0=(δ s).A0:=λs=>(by rw[q3 s,<- Dh s,K]);have z:∀x,BJ N x->BJ Fr x/\¬∃j,Fs 0 j x:=by
              intro x f;obtain⟨s,g⟩:=q5 x f;simp only[DZ]at g;split at g
              . exact g.elim
              . rename_i O1;exact⟨⟨s,g⟩,λ⟨j,I⟩=>O1 (h.Lu s a' x g ((hF x).2 (.inr ⟨0,j,I⟩)))⟩
             have L:(loadVar t ⟨b,0,none⟩).run P w= .ok (if agg=true then .agg (Im.map DV.A0).toArray else(Im.map DV.A0).headD undef) w:=by
              refine K1 hn hg hg1 (by simp[R]) ?_;intro j v I;simp only[AAN]at I;cases hjd:Im[j]? with
              |none=>simp[hjd]at I
              |some d=>
               simp only[hjd,AAf,AAC]at I;subst I
               have:=hvv 0 j Im d rfl hjd;simp only[World.cell?,hb];simpa using this
             have X:(Rq tmps (.cell a' t)).run P w= .ok (if agg=true then .agg (Im.map DV.A0).toArray else(Im.map DV.A0).headD undef) w:=by simp only[Rq,K,T,JT,AAi];simpa[asAddr]using L
             have VZ:∀x,(∃j,Fs 0 j x)->BJ Fr x:=λx ⟨j,f⟩=>⟨a',(hF x).2 (.inr ⟨0,j,f⟩)⟩;have C9:∀x,(∃j,Fs 0 j x)->¬FD x:=by
              intro x ⟨j,f⟩ m;obtain⟨s,g⟩:=O x m;simp only[DZ]at g;split at g
              . exact g
              . rename_i O1;exact O1 (h.Lu s a' x g ((hF x).2 (.inr ⟨0,j,f⟩)))
             have H:∀x,FD x->BJ Fr x:=by
              intro x f;obtain⟨s,g⟩:=O x f;simp only[DZ]at g;split at g
              . exact g.elim
              . exact⟨s,g⟩
             unfold Ia at p;split at p
             . cases agg with
               |true=>
                simp only[AAi,AAC]at p X;subst p;refine⟨.agg Im::F,λx=>(∃j,Fs 0 j x)\/FD x,by simp[u,Z],?_,⟨_,FD,B4.2 J,g3,C9,λx=>ABb⟩,?_,q,N,q1,q2,V,?_,λx f=>(z x f).1⟩
                . have:=Mt _ _ _ X g2;simpa using this
                . rintro x (f|f)
                  . exact VZ x f
                  . exact H x f
                . rintro s x f (m|m)
                  . exact(z x ⟨s,f⟩).2 m
                  . exact q4 s x f m
               |false=>
                simp only[AAM,AAT]at p X;split at p
                . rename_i c0 hn1;simp only[AAC]at p;subst p
                  match Im,u with
                  |[D0],u=>
                   simp only[AAU,AAm,List.cons.injEq,and_true]at u;obtain⟨F1,F2q,k1,k2,k3,U⟩:=J;refine⟨D0::F,λx=>F1 x\/FD x,by simp[u,Z],?_,⟨_,FD,k1,g3,λx f=>C9 x ((U x).2 (.inl f)),λx=>ABb⟩,?_,q,N,q1,q2,V,?_,λx f=>(z x f).1⟩
                   . have:=Mt _ _ _ X g2;simpa using this
                   . rintro x (f|f)
                     . exact VZ x ((U x).2 (.inl f))
                     . exact H x f
                   . rintro s x f (m|m)
                     . exact(z x ⟨s,f⟩).2 ((U x).2 (.inl m))
                     . exact q4 s x f m
                . cases p
             . cases p
         . cases l
       . cases l
     . cases l
def cG:AV->Bool
 | .sc _| .sl .. | .dead| .fp _| .own .. | .oT .. =>true
 |_=>false
def Is:AV->Bool
 | .agg cs=>cs.all cG
 | .BQ cs=>cs.all cG
 |a=>cG a
theorem Wu(h:cG v=true):Fj L v=true:=by cases v<;>simp_all [cG,Fj]
theorem Zt(h:Is v=true):Fj L v=true:=by
 cases v with
 |agg cs=>simp only[Is,AAH]at h;rw[Fj,WO,AAH];exactλx b=>Wu (h x b)
 |BQ cs=>simp only[Is,AAH]at h;rw[Fj,WO,AAH];exactλx b=>Wu (h x b)
 |_=>exact Wu h
theorem cH(b:Zn D)(h:cG D.er=true):Dc δ D:=by
 cases b with
 |lf a v b=>refine .lf _ _ ?_;simp only[EY]at h;cases a<;>simp_all [cG,Ml]
 |own=>exact .own _ _ _ _
 |agg=>simp[cG]at h
 |BQ=>simp[cG]at h
theorem gO(b:Zn D)(h:Is D.er=true):Dc δ D:=by
 cases b with
 |lf a v b=>exact cH (.lf a v b) (by simp only[EY]at h |-;cases a<;>simp_all [Is,C8])
 |own=>exact .own _ _ _ _
 |agg cs hr=>simp only[HM,Is,AA9,AAH,Function.comp]at h;exact .agg _ λi D hd=>cH (hr i D hd) (h D (AAP hd))
 |BQ cs hr=>simp only[JG,Is,AA9,AAH,Function.comp]at h;exact .BQ _ λi D hd=>cH (hr i D hd) (h D (AAP hd))
structure FI where
 c:IC
 g:Gi
 r:List RV
def M6(P:Program)(fn:Func)(I:FI):Bool:=
 (match fn.body with
 |some c=>Gh P I.g fn.ntmps c I.c
 |none=>false)&&O9 P fn.results.toList I.r&&I.g.rt.all (λx=> !x.2.contains x.1)
theorem tT{G:Gi}(h:G.rt.all (λx=> !x.2.contains x.1)=true)(s:Nat):s∉G.Gv s:=by
 unfold Gi.Gv;split
 . rename_i x b;have c:=ABW b;have a:=List.find?_some b;simp only[AAH]at h
   have:=h _ c;simp only[AAR]at a;rw[<- a];simpa using this
 . simp
theorem XJ(ds:dH)(n s:Nat):((ds.map DV.A0).toArray++Array.replicate (n-(ds.map DV.A0).toArray.size) undef).getD s undef=(ds.getD s (.lf .un undef)).A0:=by
 simp only[AAZ,Array.getElem?_append,List.getD_eq_getElem?_getD];simp only[List.size_toArray,AAo];split
 . rename_i h;simp[h]
 . rename_i h;simp only[Array.getElem?_replicate];rw[ABU ah];split<;>simp
def Om:List DV->DV
 |[d]=>d
 |ds=>.BQ ds
theorem TD(ds:dH):(Om ds).er=one (ds.map DV.er):=by
 match ds with
 |[]=>simp[Om,one]
 |[d]=>simp[Om,one]
 |_::_::_=>simp[Om,one]
theorem N6(h:JQ w S ds F):Ok w S (Om ds) F:=by
 match ds with
 |[]=>exact A8.2 h
 |[d]=>obtain⟨c,i,e,f,j,b⟩:=h;have:F=c:=funext λx=>propext ⟨λa=>((b x).1 a).elim id λg=>absurd g (f x),λa=>(b x).2 (.inl a)⟩;exact this▸e
 |_::_::_=>exact A8.2 h
def Xv:List Value->Value
 |[v]=>v
 |vs=>.tuple vs.toArray
theorem lI{vs:List Value}(h:(j.results.toList.mapM (Rq tmps)).run P w= .ok vs w):
 (results j tmps).run P w= .ok (Xv vs) w:=by
 have e:results j tmps=(do
  let vs <- j.results.mapM (Rq tmps)
  pure (if h:vs.size=1 then vs[0]else .tuple vs)):=by
  unfold results;congr 1
 rw[e,Array.mapM_eq_mapM_toList,map_eq_pure_bind,bind_assoc];have b:∀(m:Sem (List Value)) (k:List Value->Sem Value),m.run P w= .ok vs w->(m >>= k).run P w=(k vs).run P w:=by intro m k c;simp[c]
 rw[b _ _ h]
 match vs with
 |[]=>simp[Xv]
 |[v]=>simp[Xv]
 |_::_::_=>simp[Xv]
variable{I:FI}
theorem QA{m:Nat}{Q:Exit->Sg->Prop}{R:Ending->World->Prop}(hm:P.follows .mixedOrders=true)(E:P.funcs[f]? =some j)(T:M6 P j I=true)(hn:ds.length<=j.ntmps)(L:(ds.map DV.er).all Is=true)(PK:∀c,j.body=some c->GF m c=true)(NJ:GI w S)(J:Ok w S (.BQ ds) F)(O:∀b,S b->b<w.heap.size)(h:Hg P I.g I.c Q (start (ds.map DV.er)))(wY:∀ex n S1 k p (tmps:Array Value),Q ex (λs=>(k s).er)->St I.g n S1 k p->Nx w S F n S1 (BJ p)->(∀b,S1 b->b<n.heap.size)->(∀s,tmps.getD s undef=(k s).A0)->(ex= .outgrown\/∀i,i<m->tmps.getD i undef=(ds.getD i (.lf .un undef)).A0)->
  O9 P j.results.toList I.r=true->(ex= .normal\/ex= .ret)/\∃v,(results j tmps).run P n= .ok v n/\R (.returned v) n):Calls P f (ds.map DV.A0).toArray w R:=by
 simp only[M6,AAD]at T;obtain⟨⟨z,Mo⟩,C⟩:=T;split at z
 . rename_i c o;obtain⟨q,u,hd,y,B⟩:Parts w S ds F:=(by cases J with|BQ _ q _ u hd y B=>exact⟨q,u,hd,y,B⟩);have M:∀(i:Nat) d,ds[i]? =some d->Is d.er=true:=λi d hi=>(by simp only[AAH]at L;exact L _ (ABH (AAP hi)));refine calls_of_wp E o ?_
   let δ:Nat->DV:=λs=>ds.getD s (.lf .un undef)
   have l:∀s,(∃d,ds[s]? =some d/\δ s=d)\/(ds[s]? =none/\δ s= .lf .un undef):=by
    intro s;cases a:ds[s]? with
    |some d=>exact .inl ⟨d,rfl,by simp[δ,a]⟩
    |none=>exact .inr ⟨rfl,by simp[δ,a]⟩
   have V:St I.g w S δ q:=by
    refine⟨λs=> ?_,λs t x=>hd s t x,λs=> ?_,λs=> ?_,tT C⟩
    . rcases l s with⟨d,a,e⟩|⟨a,e⟩
      . rw[e];exact u s d a
      . rw[e];exact .lf _ _ _ rfl λx G=>by obtain⟨d,hd⟩:=y s x G;rw[a]at hd;cases hd
    . rcases l s with⟨d,a,e⟩|⟨a,e⟩
      . rw[e];exact gO (u s d a).Kt (M s d a)
      . rw[e];exact .lf _ _ trivial
    . rcases l s with⟨d,a,e⟩|⟨a,e⟩
      . rw[e];exact Zt (M s d a)
      . rw[e];simp
   have H:(λs=>(δ s).er)=start (ds.map DV.er):=by
    funext s;unfold start;rcases l s with⟨d,a,e⟩|⟨a,e⟩
    . simp[e,a]
    . simp[e,a]
   have Hv:Rel I.g j.ntmps w S F {tmps:=(ds.map DV.A0).toArray++Array.replicate (j.ntmps-(ds.map DV.A0).toArray.size) undef,defers:=[]} w (start (ds.map DV.er)):=(by refine⟨S,δ,q,an,rfl,λs=>XJ ds j.ntmps s,H,V,Nx.less λx ⟨s,G⟩=>(B x).2 ⟨s,G⟩,O⟩);refine wp_mono (Zx ⟨NJ,λb o=>⟨λE=>J.Et b E o,O b o⟩⟩ hm (m:=m) (a0:={tmps:=(ds.map DV.A0).toArray++Array.replicate (j.ntmps-(ds.map DV.A0).toArray.size) undef,defers:=[]}) c I.c _ _ w _ z (PK c o) (QQ.refl _ _) Hv h) ?_;rintro e a' n ⟨⟨σ,⟨S1,k,p,hn1,K,Qu,rfl,Z,X,W⟩,hq⟩,It⟩;obtain⟨D,v,U,N⟩:=wY e n S1 k p a'.tmps hq Z X W Qu (It.imp id λhk i hi=>(hk i hi).trans (XJ ds j.ntmps i)) Mo;rcases D with rfl|rfl
   . exact⟨K,v,U,N⟩
   . exact⟨K,v,U,N⟩
 . cases z
theorem rI{e:Exit}(h:Ends G T v e σ):e= .normal\/e= .ret:=by obtain⟨h,_⟩:=h;cases e<;>simp_all
theorem Tj(h:(j.results.toList.mapM (Rq tmps)).run P w= .ok (ds.map DV.A0) w):(results j tmps).run P w= .ok (Om ds).A0 w:=by
 rw[lI h]
 match ds with
 |[]=>simp[Om,Xv]
 |[d]=>simp[Om,Xv]
 |_::_::_=>simp[Om,Xv]
theorem Lr(H:P.follows .mixedOrders=true)(G:P.funcs[f]? =some j)(E:M6 P j I=true)(hn:args.length<=j.ntmps)(o:args.all Is=true)(h:Hg P I.g I.c (Ends I.g I.r v) (start args)):Says P f args v:=by
 intro w S ds F s p e D;subst p;refine QA (m:=0) H G E (by simpa using hn) o (λc _=>PA c) s e D h ?_;rintro N K S1 L M tmps i n a l t _ q;refine⟨rI i,?_⟩;obtain⟨_,vs,τ,b,u⟩:=i;obtain⟨k,FD,y,g2,z,B,_⟩:=JA j.results.toList n t q b;have C:JQ K S1 (ds.map λd=>DV.lf .dead d.A0) (λ_=>False):=by refine CN λd hd=> ?_;obtain⟨x,_,rfl⟩:=ABO.1 hd;exact .lf _ _ _ trivial (λ_ h=>h)
 exact⟨_,Tj g2,Om k,ds.map λd=>DV.lf .dead d.A0,S1,FD,rfl,by rw[TD,y,u],ak,ak,A8.2 ⟨FD,λ_=>False,N6 z,C,λ_ _ h=>h,λx=>ak⟩,⟨a.os,a.tape,a.output,a.size,a.block⟩,a.sub,a.sup,l,λx J=>a.own x (B x J)⟩
def TF(σ:Sg):Nat->List AV->Prop
 |_,[]=>True
 |i,o::os=>(match o with| .dead=>True|o=>σ i=o)/\TF σ (i+1) os
def Wb(G:Gi)(rs:il)(res:AV)(outs:dm)(e:Exit)(σ:Sg):Prop:=
 (match e with| .normal=>True| .ret=>True|_=>False)/\∃vs τ,Ft G rs σ=some (vs,τ)/\one vs=res/\TF τ 0 outs
def iD(fn:Func)(m:Nat):Bool:=match fn.body with
 |some c=>GF m c
 |none=>false
theorem Xw{b:dy}{e:dh}(g:St G w S b e)(a:dm):∀(i:Nat),TF (λs=>(b s).er) i a->
 ∃os:List DV,os.map DV.er=a/\os.map DV.A0=(List.range' i a.length).map (λs=>(b s).A0)/\∃c,JQ w S os c/\(∀x,c x->∃s,i<=s/\e s x):=by
 induction a with
 |nil=>intro i _;exact⟨[],rfl,rfl,λ_=>False,λ_ h=>h,λ_ h=>h.elim⟩
 |cons o a ih=>
  intro i h;obtain⟨p,q⟩:=h;obtain⟨os,l,m,c,n,j⟩:=ih (i+1) q;have key:∃(D:DV)(FD:de),D.er=o/\D.A0=(b i).A0/\Ok w S D FD/\∀x,FD x->e i x:=by
   by_cases hd:o= .dead
   . subst hd;exact⟨.lf .dead (b i).A0,λ_=>False,ak,ak,.lf _ _ _ trivial (λ_ h=>h),λ_ h=>h.elim⟩
   . refine⟨b i,e i,?_,rfl,g.ok i,λ_ h=>h⟩;cases o<;>first|exact p|exact absurd rfl hd
  obtain⟨D,FD,u,v,y,k⟩:=key;refine⟨D::os,by simp[u,l],by simp[v,m,List.range'_succ],λx=>FD x\/c x,⟨FD,c,y,n,?_,λx=>ABb⟩,?_⟩
  . intro x d t;obtain⟨s,r,f⟩:=j x t
    have:=g.Lu i s x (k x d) f;omega
  . rintro x (d|d)
    . exact⟨i,AAe _,k x d⟩
    . obtain⟨s,r,f⟩:=j x d;exact⟨s,ah,f⟩
theorem lO{d:Func}(hm:P.follows .mixedOrders=true)(hf:P.funcs[f]? =some d)(hc:M6 P d I=true)(k:iD d args.length=true)(hn:args.length<=d.ntmps)(G:args.all Is=true)(n:row.length=args.length)(h:Hg P I.g I.c (Wb I.g I.r v row) (start args)):BD P f args v row:=by
 intro w S ds F L J z X;subst J;refine QA (m:=ds.length) hm hf hc (by simpa using hn) G (λc Z=>by simp only[iD,Z]at k;simpa using k) L z X h ?_;rintro l w1 S1 δ1 F1 tmps y E b D q H K;have e:l= .normal\/l= .ret:=by obtain⟨h,_⟩:=y;cases l<;>simp_all
 refine⟨e,?_⟩;obtain⟨_,vs,τ,O,N,t⟩:=y;have M:=H.resolve_left (by rcases e with rfl|rfl<;>simp);obtain⟨C,FD,U,g2,V,W,δ2,F2,k1,k2,k3,k4,k5⟩:=JA d.results.toList E q K O;rw[<- k2]at t;obtain⟨os,Q,R,p,T,u⟩:=Xw k1 row 0 t;have B:os.map DV.A0=ds.map DV.A0:=by
  rw[R];have hl:row.length=ds.length:=by simpa using n
  rw[hl];apply ABQ;intro i;simp only[AAN];by_cases hi:i<ds.length
  . rw[List.getElem?_range' (by simpa using hi),AAJ hi];simp only[ABM,Nat.one_mul,AAf,AAC];rw[k3,<- q,M i hi];simp[hi]
  . rw[ABU an,ABU ah];rfl
 refine⟨_,Tj g2,Om C,os,S1,λx=>FD x\/p x,rfl,by rw[TD,U,N],Q,B,A8.2 ⟨FD,p,N6 V,T,?_,λx=>ABb⟩,⟨b.os,b.tape,b.output,b.size,b.block⟩,b.sub,b.sup,D,?_⟩
 . intro x j hy;obtain⟨s,_,o⟩:=u x hy;exact k4 s x o j
 . rintro x (j|j)
   . exact b.own x (W x j)
   . obtain⟨s,_,o⟩:=u x j;exact b.own x (k5 x ⟨s,o⟩)
end
variable{e:TypeId}
section
open Go.Sort
variable{w w':World}{S S':de}{P:Program}
theorem RR(c:w.heap[n]? =some (.cells tmps E (0,0)))(e:∀(i:Nat)(z:Int),zs[i]? =some z->tmps[i]? =some (.int .i64 z)):Holds (Value.int .i64) w n 0 zs.toArray:=by
 intro j d;have a:j<zs.length:=by simpa using d
 refine⟨?_,by simp[World.frozen?,c]⟩
 have:=e j zs[j] (AAJ a);simp only[World.cell?,c,ABM];simp[this,a]
theorem XQ{os:Array Obj}{b:Nat×Nat}(d:Array Int)(c:w.heap[f]? =some (.cells tmps e b)):
 (grow (putRow (Value.int .i64) (Sort.ahead w n) f 0 d) os).heap[f]? =some (.cells (putCells (Value.int .i64) 0 d tmps) e b):=by
 have g:f<w.heap.size:=(AAs.1 c).1;rw[heap_grow_old _ _ (by simpa using g)];simp[putRow,mapBlock,Sort.ahead,Array.getElem?_modify,c,onCells]
theorem dA{g:Nat}{os:Array Obj}(d:Array Int)(b:F g):Ext w (grow (putRow (Value.int .i64) (Sort.ahead w n) g 0 d) os) F:=by refine⟨rfl,rfl,rfl,ak,λk c a=> ?_⟩;rw[heap_grow_old _ _ (by simpa using c)];have:g≠k:=λe=>a (e▸b);simp[putRow,mapBlock,Sort.ahead,Array.getElem?_modify,this]
theorem qE(b:dc)(h:b.length<=tmps.size):∀(i:Nat)(z:Int),b[i]? =some z->(putCells (Value.int .i64) 0 b.toArray tmps)[i]? =some (.int .i64 z):=by intro i z c;obtain⟨hi,rfl⟩:=AAE.1 c;simp[putCells,hi,show i<tmps.size by omega]
theorem qW(a:∀(k off cap:Nat)(zs:dc)(w:World),Holds (Value.int .i64) w k off zs.toArray->k<w.heap.size->zs.length<4611686018427387904->
  Calls P f #[.slice (some ⟨k,off,none⟩) zs.length cap] w λe w'=>e= .returned (.tuple #[])/\∃n os,w'=grow (putRow (Value.int .i64) (Sort.ahead w n) k off (zs.mergeSort λx y=>decide (x<=y)).toArray) os)(M:∀(p:ABd Addr)(cap:Nat)(w:World),Calls P f #[.slice p 0 cap] w λe w'=>e= .returned (.tuple #[])/\w'=w)(zs:dc)(K:zs.length<4611686018427387904):BD P f [.own false 1 (ints zs)] (.BQ []) [.own false 1 (ints (zs.mergeSort λx y=>decide (x<=y)))]:=by
 intro w S ds F _ j z v;obtain⟨d,rfl,G⟩:=ABJ.1 j;replace j:=G;obtain⟨o,B,r,s,_,t⟩:=A8.1 z;have u:∀x,F x↔o x:=λx=>by rw[t x];exact⟨λh=>h.elim id λh=>absurd h (s x),.inl⟩
 rcases Xx r j with⟨l,rfl,C⟩|⟨b,c,arr,E,l,m,J,H,D,L,q⟩
 . simp only[AAU,AAm,l];refine(M none 0 w).mono ?_;rintro e w' ⟨rfl,rfl⟩;refine⟨.BQ [],[d],S,F,ak,ak,by simpa using j,by simp[l],?_,⟨rfl,rfl,rfl,AAe _,λ_ _ _=>rfl⟩,λ_ h=>h,λ_ h=>.inl h,v,λ_ h=>.inl h⟩;exact A8.2 ⟨λ_=>False,F,A8.2 (λ_ h=>h),⟨o,B,r,s,λx i=>absurd i (C x),t⟩,λ_ h=>h.elim,λx=>ak⟩
 . simp only[AAU,AAm,l];refine(a b 0 c zs w (RR m L) (AAs.1 m).1 K).mono ?_;rintro e w' ⟨rfl,n,os,rfl⟩;have g:(zs.mergeSort λx y=>decide (x<=y)).length=zs.length:=ak;obtain⟨I,N,O,Q⟩:=WM (S:=S) (c:=c) (XQ (n:=n) (os:=os) (zs.mergeSort λx y=>decide (x<=y)).toArray m) (by simp[putCells,J]) (by rw[g];exact H) D (qE _ (by rw[g];omega));refine⟨.BQ [],[I],S,λx=>x=b,ak,ak,by simp[N],by simp[O],?_,dA _ ((u b).2 ((q b).2 rfl)),λ_ h=>h,λ_ h=>.inl h,λx i=> ?_,λx i=>.inl ((u x).2 ((q x).2 i))⟩
   . exact A8.2 ⟨λ_=>False,λx=>x=b,A8.2 (λ_ h=>h),⟨_,λ_=>False,Q,λ_ h=>h,λ_ _ h=>h,λx=>ak⟩,λ_ h=>h.elim,λx=>ak⟩
   . have:=v x i;simp;omega
theorem Y9(a:∀(o off cap:Nat)(zs:dc)(w:World),Holds (Value.int .i64) w o off zs.toArray->zs.length<=9223372036854775807->zs.length<=cap->
  Calls P f #[.slice (some ⟨o,off,none⟩) zs.length cap] w λe w'=>e= .returned (.slice (some ⟨o,off,none⟩) (Lib.compact zs).length cap)/\∃q,w'=putRow (Value.int .i64) (Sort.ahead w q) o off (Lib.compact zs++List.replicate (zs.length-(Lib.compact zs).length) 0).toArray)(T:∀(p:ABd Addr)(cap:Nat)(w:World),Calls P f #[.slice p 0 cap] w λe w'=>e= .returned (.slice p 0 cap)/\w'=w)(zs:dc)(hl:zs.length<4611686018427387904)(Q:(Lib.compact zs).length<=zs.length)(l:Lib.compact ([]:List Int)=[]):BD P f [.own false 1 (ints zs)] (.own false 1 (ints (Lib.compact zs))) [.dead]:=by
 intro w S ds F _ m G y;obtain⟨d,rfl,J⟩:=ABJ.1 m;replace m:=J;obtain⟨r,X,v,M,_,N⟩:=A8.1 G;have s:∀x,F x↔r x:=λx=>by rw[N x];exact⟨λh=>h.elim id λh=>absurd h (M x),.inl⟩
 have t:∀w',JQ w' S [DV.lf .dead d.A0] (λ_=>False):=λw'=>CN λx k=>by simp at k;subst k;exact .lf _ _ _ trivial (λ_ h=>h)
 rcases Xx v m with⟨j,rfl,Z⟩|⟨b,c,arr,E,j,B,O,K,I,R,u⟩
 . simp only[AAU,AAm,j];refine(T none 0 w).mono ?_;rintro e w' ⟨rfl,rfl⟩;refine⟨d,[.lf .dead d.A0],S,r,by rw[j],by rw[m,l],ak,by simp[j],?_,⟨rfl,rfl,rfl,AAe _,λ_ _ _=>rfl⟩,λ_ h=>h,λ_ h=>.inl h,y,λx h=>.inl ((s x).2 h)⟩;exact A8.2 ⟨r,λ_=>False,v,t _,λ_ _ h=>h,λx=>ak⟩
 . simp only[AAU,AAm,j];refine(a b 0 c zs w (RR B R) ah K).mono ?_;rintro e w' ⟨rfl,n,rfl⟩;have H:(Lib.compact zs++List.replicate (zs.length-(Lib.compact zs).length) (0:Int)).length=zs.length:=an;have D:=XQ (n:=n) (os:= #[]) (Lib.compact zs++List.replicate (zs.length-(Lib.compact zs).length) 0).toArray B;have C:=dA (w:=w) (n:=n) (os:= #[]) (g:=b) (F:=F) (Lib.compact zs++List.replicate (zs.length-(Lib.compact zs).length) 0).toArray ((s b).2 ((u b).2 rfl));rw[grow_empty]at D C;obtain⟨L,U,V,W⟩:=WM (S:=S) (c:=c) (zs:=Lib.compact zs) D (by simp[putCells,O]) ah I (λi z hi=>qE (Lib.compact zs++List.replicate (zs.length-(Lib.compact zs).length) 0) (by rw[H];omega) i z (by rw[AAg (AAE.1 hi).1];exact hi));refine⟨L,[.lf .dead d.A0],S,λx=>x=b,by rw[V],U,ak,by simp[j],?_,C,λ_ h=>h,λ_ h=>.inl h,λx k=> ?_,λx k=>.inl ((s x).2 ((u x).2 k))⟩
   . exact A8.2 ⟨_,λ_=>False,W,t _,λ_ _ h=>h,λx=>ak⟩
   . have:=y x k;simpa using this
end
section
open Go.Sort
variable{w w':World}{S S':de}{P:Program}
theorem fz_ints(h:Fz w S (.sl b 1 (ints zs)) u):
 (∃a c,u= .slice a 0 c/\zs=[])\/∃e off c,u= .slice (some ⟨e,off,none⟩) zs.length c/\S e/\∀(i:Nat)(z:Int),zs[i]? =some z->w.cell? ⟨e,off+i,none⟩=some (.int .i64 z):=by
 generalize j:ints zs=rows at h;cases h with
 |nil x k a c hx=>
  left
  refine⟨a,c,rfl,?_⟩
  have:=ABZ List.length j;simpa[ints]using this
 |sl x k rows e off c vs hx QW hS hk hc hf=>
  right
  subst j;refine⟨e,off,c,by rw[jS],hS,?_⟩;intro i z l;have d:(ints zs)[i]? =some [AV.sc (.int .i64 z)]:=by rw[jR,l];rfl
  have f:=hc i 0 _ _ d rfl;have g:=hf i 0 _ _ d rfl;generalize m:vs i 0=v at f g;cases g with
  |sc _ hp=>simpa using f
theorem getD_of{f:Nat->ABd Value}(h:∀(i:Nat)(z:Int),zs[i]? =some z->f i=some (.int .i64 z)):∀j,j<zs.length->f j=some (.int .i64 (zs.getD j 0)):=by intro j a;rw[h j zs[j] (AAJ a)];simp[a]
def ext_drew(w:World)(q:Nat)(F:de):Ext w (w.drewN q) F:=⟨rfl,rfl,rfl,AAe _,λ_ _ _=>rfl⟩
theorem cL(D:∀(b off n c:Nat)(zs:dc)(x:Int)(w:World),n<=zs.length->n<4611686018427387904->(∀j,j<zs.length->w.cell? ⟨b,off+j,none⟩=some (.int .i64 (zs.getD j 0)))->(zs.take n).Pairwise (· <= ·)->
  Calls P f #[.slice (some ⟨b,off,none⟩) n c,.int .i64 x] w λe w'=>e= .returned (.tuple #[.int .i64 ((zs.take n).countP (· <x):Nat),.bool ((zs.take n).contains x)])/\∃q,w'=w.drewN q)(G:∀(a:ABd Addr)(c:Nat)(x:Int)(w:World),Calls P f #[.slice a 0 c,.int .i64 x] w λe w'=>e= .returned (.tuple #[.int .i64 0,.bool false])/\w'=w)(zs:dc)(x:Int)(H:zs.length<4611686018427387904)(I:zs.Pairwise (· <= ·)):
 Says P f [.sl false 1 (ints zs),.sc (.int .i64 x)] (.BQ [.sc (.int .i64 (zs.countP (· <x):Nat)),.sc (.bool (zs.contains x))]):=by
 intro w S ds F _ u t C;obtain⟨d1,O,rfl,i,g⟩:=List.map_eq_cons_iff.1 u;obtain⟨o,rfl,B⟩:=ABJ.1 g;replace g:=B;obtain⟨J,K,y,g2,_,N⟩:=A8.1 t;obtain⟨L,M,z,_,_,_⟩:=g2;have p:Fz w S (.sl false 1 (ints zs)) d1.A0:=by
  cases y with
  |lf a v _ ha hF=>rw[EY]at i;subst i;rw[KN];exact ha
  |nil=>simp at i
  |own=>simp at i
  |agg=>simp at i
  |BQ=>simp at i
 have m:o.A0= .int .i64 x:=by
  cases z with
  |lf a v _ ha hF=>rw[EY]at g;subst g;simpa using ha.1
  |nil=>simp at g
  |own=>simp at g
  |agg=>simp at g
  |BQ=>simp at g
 have k:∀q,∀e,e=Ending.returned (.tuple #[.int .i64 (zs.countP (· <x):Nat),.bool (zs.contains x)])->∃(r:DV)(os:dH)(S' s:de),e= .returned r.A0/\r.er= .BQ [.sc (.int .i64 (zs.countP (· <x):Nat)),.sc (.bool (zs.contains x))]/\os.map DV.er=[.dead,.dead]/\os.map DV.A0=[d1,o].map DV.A0/\
  Ok (w.drewN q) S' (.BQ (r::os)) s/\Ext w (w.drewN q) F/\(∀b,S b->S' b)/\(∀b,S' b->S b\/F b\/w.heap.size<=b)/\(∀b,S' b->b<(w.drewN q).heap.size)/\(∀x,s x->F x\/w.heap.size<=x):=by
  rintro q e rfl;refine⟨.BQ [.lf (.sc (.int .i64 (zs.countP (· <x):Nat))) (.int .i64 (zs.countP (· <x):Nat)),.lf (.sc (.bool (zs.contains x))) (.bool (zs.contains x))],[.lf .dead d1.A0,.lf .dead o.A0],S,λ_=>False,ak,ak,ak,ak,?_,ext_drew w q F,λ_ h=>h,λ_ h=>.inl h,C,λ_ h=>h.elim⟩;refine A8.2 ⟨λ_=>False,λ_=>False,A8.2 (CN ?_),CN ?_,λ_ h=>h.elim,λx=>ak⟩
  . intro d hd;simp only[AAn,AA3,AA2]at hd;rcases hd with rfl|rfl
    . exact .lf _ _ _ ⟨rfl,rfl⟩ (λ_ h=>h)
    . exact .lf _ _ _ ⟨rfl,rfl⟩ (λ_ h=>h)
  . intro d hd;simp only[AAn,AA3,AA2]at hd;rcases hd with rfl|rfl
    . exact .lf _ _ _ trivial (λ_ h=>h)
    . exact .lf _ _ _ trivial (λ_ h=>h)
 rcases fz_ints p with⟨a,c,l,rfl⟩|⟨b,off,c,l,_,E⟩
 . simp only[AAU,AAm,l,m];refine(G a c x w).mono ?_;rintro e w' ⟨rfl,rfl⟩
   have:=k 0 _ rfl;simpa[World.drewN,l,m]using this
 . simp only[AAU,AAm,l,m];refine(D b off zs.length c zs x w (AAe _) H (getD_of E) (by rw[List.take_length];exact I)).mono ?_;rintro e w' ⟨rfl,q,rfl⟩;rw[List.take_length]
   have:=k q _ rfl;simpa only[AAU,AAm,l,m]using this
theorem wU(H:∀(n:Nat)(w:World),0<n->n*8<=140737488355328->Calls P f #[.slice none 0 0,.int .i64 n] w λe w'=>∃(c:Nat)(arr:Array Value),arr.size=c/\e= .returned (.slice (some ⟨w.heap.size,0,none⟩) 0 c)/\w'=w.drew.alloc (.cells arr E))(C:∀w:World,Calls P f #[.slice none 0 0,.int .i64 0] w λe w'=>e= .returned (.slice none 0 0)/\w'=w)(n:Nat)(hn:n*8<=140737488355328):Says P f [.sc (.slice none 0 0),.sc (.int .i64 n)] (.own false 1 []):=by
 intro w S ds F _ s r o;obtain⟨d1,V,rfl,D,m⟩:=List.map_eq_cons_iff.1 s;obtain⟨j,rfl,G⟩:=ABJ.1 m;replace m:=G;obtain⟨O,Q,z,g2,_,U⟩:=A8.1 r;obtain⟨R,T,B,_,_,_⟩:=g2;have sc:∀{d:DV}{F:de}{u:Value},Ok w S d F->d.er= .sc u->d.A0=u:=by
  intro d F u hd g;cases hd with
  |lf a v _ ha hF=>rw[EY]at g;subst g;simpa using ha.1
  |nil=>simp at g
  |own=>simp at g
  |agg=>simp at g
  |BQ=>simp at g
 have b:=sc z D;have l:=sc B m;have p:∀w',JQ w' S [DV.lf .dead d1.A0,DV.lf .dead j.A0] (λ_=>False):=λw'=>CN λd hd=>by
  simp only[AAn,AA3,AA2]at hd;rcases hd with rfl|rfl
  . exact .lf _ _ _ trivial (λ_ h=>h)
  . exact .lf _ _ _ trivial (λ_ h=>h)
 simp only[AAU,AAm,b,l];rcases Nat.eq_zero_or_pos n with rfl|K
 . refine(C w).mono ?_;rintro e w' ⟨rfl,rfl⟩;refine⟨.own (.slice none 0 0) false 1 [],[.lf .dead d1.A0,.lf .dead j.A0],S,λ_=>False,ak,ak,ak,by simp[b,l],?_,⟨rfl,rfl,rfl,AAe _,λ_ _ _=>rfl⟩,λ_ h=>h,λ_ h=>.inl h,o,λ_ h=>h.elim⟩;exact A8.2 ⟨λ_=>False,λ_=>False,.nil _ _ (λ_ h=>h),p _,λ_ h=>h.elim,λx=>ak⟩
 . refine(H n w K hn).mono ?_;rintro e w' ⟨c,arr,t,rfl,rfl⟩;have i:(w.drew.alloc (.cells arr E)).heap=w.heap.push (.cells arr E):=rfl;have I:(w.drew.alloc (.cells arr E)).heap[w.heap.size]? =some (.cells arr E (0,0)):=(by rw[i];simp);obtain⟨y,L,M,N⟩:=WM (S:=S) (c:=c) (zs:=[]) I t.symm ak (λh=>by have:=o _ h;omega) ak;refine⟨y,[.lf .dead d1.A0,.lf .dead j.A0],S,λx=>x=w.heap.size,by rw[M];rfl,by rw[L];rfl,ak,by simp[b,l],?_,⟨rfl,rfl,rfl,by rw[i];simp,λk J _=> ?_⟩,λ_ h=>h,λ_ h=>.inl h,λx q=> ?_,λx q=>.inr ah⟩
   . exact A8.2 ⟨_,λ_=>False,N,p _,λ_ _ h=>h,λx=>ak⟩
   . rw[i];simp[Array.getElem?_push,Nat.ne_of_lt J]
   . have:=o x q;rw[i];simp;omega
end
section
variable{P:Program}{G:Gi}
abbrev si(n:Int):AV:=.sc (.int .i64 n)
abbrev sb(b:Bool):AV:=.sc (.bool b)
def resIs(x:gk)(res:AV):Prop:=match x with
 |some (vs,_)=>one vs=res
 |none=>False
def qM(vs:dm)(τ:Sg)(a:AV):resIs (some (vs,τ)) a=(one vs=a):=(rfl)
theorem Ends_ret(G:Gi)(rs:il)(a:AV)(σ:Sg):Ends G rs a .ret σ=resIs (Ft G rs σ) a:=by
 unfold Ends resIs;cases Ft G rs σ with
 |none=>simp
 |some x=>obtain⟨vs,τ⟩:=x;simp
def one_one(v:AV):one [v]=v:=(rfl)
def one_two(v u:AV)(l:dm):one (v::u::l)= .BQ (v::u::l):=(rfl)
end
section
variable{P:Program}{G:Gi}
def xR(d:Nat)(σ:Sg):JW [] d σ=σ:=(rfl)
def xN(G:Gi)(n d:Nat)(σ:Sg)(s:Nat):FW G n d σ s=if s∈G.OM d then E1 n d (σ s)else σ s:=(rfl)
def killS_at(G:Gi)(d:Nat)(σ:Sg)(s:Nat):JV G d σ s=if s∈G.OM d then Df d (σ s)else σ s:=(rfl)
def start_at(args:dm)(s:Nat):start args s=args.getD s .un:=(rfl)
def bK(x:ABd Sg)(K:dg):Prop:=match x with
 |some τ=>K τ
 |none=>False
def bK_some(τ:Sg)(K:dg):bK (some τ) K=K τ:=(rfl)
def bK_none(K:dg):bK none K=False:=(rfl)
def awp_apd(f:zU)(ops:eP)(Q:Exit->Sg->Prop)(σ:Sg):Hg P G (.apd f ops) Q σ=ON P G f 0 ops (Kl P G ⟨none,.st 1 (.t f.ap) (.t f.s),none⟩ (Q .normal)) σ:=(rfl)
theorem uM(f:zU)(m:Nat)(K:dg)(σ:Sg):ON P G f m [] K σ=bK (if yC f m σ=true then some σ else none) K:=by by_cases h:yC f m σ=true<;>simp[ON,bK,h]
theorem nC(f:zU)(m:Nat)(o:BP)(os:eP)(K:dg)(σ:Sg):ON P G f m (o::os) K σ=bK (if yC f m σ=true then some σ else none) (Kl P G o (ON P G f (m+1) os K)):=by by_cases h:yC f m σ=true<;>simp[ON,bK,h]
def arun_std(d:dD)(x:Ar)(g:dq)(K:dg)(σ:Sg):ED P G ⟨d,.std x,g⟩ K σ=bK (GO G (.std x) d σ) K:=(rfl)
def awp_pg(P:Program)(G:Gi)(c:Bool)(r:Nat)(p:di)(a:IC)(Q:Exit->Sg->Prop)(σ:Sg):Hg P G (.pg c r p a) Q σ=Hg P G a (pgQ G c r p Q) σ:=(rfl)
def qC(G:Gi)(c:Bool)(r:Nat)(p:di)(Q:Exit->Sg->Prop)(σ:Sg):pgQ G c r p Q .normal σ=bK (gzS G c r p σ) (Q .normal):=(rfl)
def awp_gz(P:Program)(G:Gi)(c:Bool)(r:Nat)(p:di)(a:IC)(Q:Exit->Sg->Prop)(σ:Sg):Hg P G (.gz c r p a) Q σ=bK (gzS G c r p σ) (Hg P G a Q):=(rfl)
def SW(x:AV)(a b:dg)(σ:Sg):Prop:=match x with
 | .sc (.bool x)=>if x=true then a σ else b σ
 |_=>False
theorem rW(a b:dg)(σ:Sg):SW (.sc (.bool true)) a b σ=a σ:=by simp[SW]
theorem rV(a b:dg)(σ:Sg):SW (.sc (.bool false)) a b σ=b σ:=by simp[SW]
def u9(P:Program)(G:Gi)(c:Ar)(a b:IC)(Q:Exit->Sg->Prop)(σ:Sg):Hg P G (.cond c a b) Q σ=SW (ar σ c) (Hg P G a Q) (Hg P G b Q) σ:=(rfl)
def tX(d:dD)(K:dg)(σ:Sg):Prop:=match d with
 |some d=>K (DZ (JW d.kl d.d σ) d.d .un)
 |none=>K σ
def skipK_s(d:Dp)(K:dg)(σ:Sg):tX (some d) K σ=K (DZ (JW d.kl d.d σ) d.d .un):=(rfl)
def skipK_n(K:dg)(σ:Sg):tX none K σ=K σ:=(rfl)
def gK(x:AV)(want:Bool)(a b:dg)(σ:Sg):Prop:=match x with
 | .sc (.bool x)=>if x=want then a σ else b σ
 | .un=>b σ
 |_=>False
theorem gK_tt(a b:dg)(σ:Sg):gK (.sc (.bool true)) true a b σ=a σ:=by simp[gK]
theorem gK_tf(a b:dg)(σ:Sg):gK (.sc (.bool true)) false a b σ=b σ:=by simp[gK]
theorem gK_ft(a b:dg)(σ:Sg):gK (.sc (.bool false)) true a b σ=b σ:=by simp[gK]
theorem gK_ff(a b:dg)(σ:Sg):gK (.sc (.bool false)) false a b σ=a σ:=by simp[gK]
def gK_un(c:Bool)(a b:dg)(σ:Sg):gK .un c a b σ=b σ:=(rfl)
def aop_n(d:dD)(op:Yv)(K:dg)(σ:Sg):Kl P G ⟨d,op,none⟩ K σ=ED P G ⟨d,op,none⟩ K σ:=(rfl)
def aop_g(d:dD)(op:Yv)(g:Nat)(a:Bool)(K:dg)(σ:Sg):Kl P G ⟨d,op,some (g,a)⟩ K σ=gK (σ g) a (ED P G ⟨d,op,some (g,a)⟩ K) (tX d K) σ:=(rfl)
def awp_flc(a:fF)(ops:eP)(Q:Exit->Sg->Prop)(σ:Sg):Hg P G (.bY a ops) Q σ=Nh P G ops (Q .normal) σ:=(rfl)
def awp_flo(f:zV)(a b:eP)(Q:Exit->Sg->Prop)(σ:Sg):Hg P G (.flo f a b) Q σ=Qp P G f a (Nh P G b (Q .normal)) σ:=(rfl)
def uL(f:zV)(K:dg)(σ:Sg):Qp P G f [] K σ=K σ:=(rfl)
theorem nA(f:zV)(o:BP)(os:eP)(K:dg)(σ:Sg):Qp P G f (o::os) K σ=bK (if dN f.kb f.off (σ f.r)=true then some σ else none) (Kl P G o (Qp P G f os K)):=by
 show(_/\_)=_;by_cases h:dN f.kb f.off (σ f.r)=true
 . simp[h,bK]
 . simp[h,bK]
def aops_nil(K:dg)(σ:Sg):Nh P G [] K σ=K σ:=(rfl)
def uN(o:BP)(os:eP)(K:dg)(σ:Sg):Nh P G (o::os) K σ=Kl P G o (Nh P G os K) σ:=(rfl)
def toDst_s(d:Dp)(v:AV)(K:dg)(τ:Sg):C2 (some d) v K τ=bK (wr d v τ) K:=(rfl)
def toDst_n(v:AV)(K:dg)(τ:Sg):C2 none v K τ=K τ:=(rfl)
def qN(x:ABd AV)(d:dD)(K:dg)(τ:Sg):Prop:=match x with
 |some v=>C2 d v K τ
 |none=>False
def yQ(v:AV)(d:dD)(K:dg)(τ:Sg):qN (some v) d K τ=C2 d v K τ:=(rfl)
def callK(P:Program)(x:gk)(f m:Nat)(d:dD)(K:dg):Prop:=match x with
 |some (HS,τ)=>∃res,Says P f HS res/\qN (Rr m res) d K τ
 |none=>False
def nU(b:dm)(τ:Sg)(f m:Nat)(d:dD)(K:dg):callK P (some (b,τ)) f m d K=∃a,Says P f b a/\qN (Rr m a) d K τ:=(rfl)
def uR(d:dD)(f:Nat)(args:ek)(m:Nat)(g:dq)(K:dg)(σ:Sg):ED P G ⟨d,.call f args m,g⟩ K σ=callK P (GN G m args σ) f m d K:=(rfl)
def axs_nil(K:dg)(σ:Sg):LG P G [] K σ=K σ:=(rfl)
def axs_o(o:BP)(a:iu)(K:dg)(σ:Sg):LG P G (.o o::a) K σ=Kl P G o (LG P G a K) σ:=(rfl)
def nilK(x:ABd (AV×ABd (Nat×List Step)))(d:Dp)(neg:Bool)(K:dg)(σ:Sg):Prop:=match x with
 |some (a,_)=>(match rowsOf a with
  |some rows=>∀b:Bool,(b=true->rows=[])->C2 (some d) (.sc (.bool (if neg=true then !b else b))) K σ
  |none=>False)
 |none=>False
def nilK_sl(e:Bool)(k:Nat)(rows:dn)(c:ff)(d:Dp)(a:Bool)(K:dg)(σ:Sg):nilK (some (.sl e k rows,c)) d a K σ=∀b:Bool,(b=true->rows=[])->C2 (some d) (.sc (.bool (if a=true then !b else b))) K σ:=(rfl)
def axs_nilq(d:Dp)(a:Bool)(x:Ar)(b:iu)(K:dg)(σ:Sg):LG P G (.WL d a x::b) K σ=nilK (hd σ x) d a (LG P G b K) σ:=(rfl)
def gldK(x:ABd (List Value))(d:Dp)(K:dg)(σ:Sg):Prop:=match x with
 |some cs=>C2 (some d) (.agg (cs.map .sc)) K σ
 |none=>False
def wS(a:List Value)(d:Dp)(K:dg)(σ:Sg):gldK (some a) d K σ=C2 (some d) (.agg (a.map .sc)) K σ:=(rfl)
def axs_gld(d:Dp)(g n:Nat)(a:iu)(K:dg)(σ:Sg):LG P G (.gld d g n::a) K σ=gldK (iX g n) d (LG P G a K) σ:=(rfl)
def bxvK(x:AV)(d:Dp)(n s:Nat)(K:dg)(σ:Sg):Prop:=match x with
 | .agg cs=>cs.length=n/\∀us:List Value,us.length=n->C2 (some d) (.vb s 0 us) K σ
 |_=>False
def bxvK_agg(a:dm)(d:Dp)(n s:Nat)(K:dg)(σ:Sg):bxvK (.agg a) d n s K σ=(a.length=n/\∀b:List Value,b.length=n->C2 (some d) (.vb s 0 b) K σ):=(rfl)
def axs_bxv(d:Dp)(n s:Nat)(a:iu)(K:dg)(σ:Sg):LG P G (.bxv d n s::a) K σ=bxvK (σ s) d n s (LG P G a K) σ:=(rfl)
def cloK(P:Program)(x:ABd (List AV))(f:Nat)(d:dD)(K:dg)(σ:Sg):Prop:=match x with
 |some HS=>∃res,Says P f HS res/\qN (Rr 0 res) d K σ
 |none=>False
def vT(f:Nat)(b:dm)(d:dD)(K:dg)(σ:Sg):cloK P (some b) f d K σ=∃a,Says P f b a/\qN (Rr 0 a) d K σ:=(rfl)
def axs_clog(d:dD)(f:Nat)(x:Ar)(args:ek)(g:Nat)(b:Bool)(a:iu)(K:dg)(σ:Sg):LG P G (.clo d f x args (some (g,b))::a) K σ=gK (σ g) b (oL P d f x args (LG P G a K)) (tX d (LG P G a K)) σ:=(rfl)
def cloP_at(d:dD)(f:Nat)(x:Ar)(args:ek)(K:dg)(σ:Sg):oL P d f x args K σ=cloK P (cloA σ f x args) f d K σ:=(rfl)
def arun_mkf(d:dD)(f:Nat)(a:ek)(g:dq)(K:dg)(σ:Sg):ED P G ⟨d,.mkf f a,g⟩ K σ=bK (GO G (.mkf f a) d σ) K:=(rfl)
def lndK(P:Program)(G:Gi)(x:ff)(HS bs:ABd (List AV))(a:AV->AV)(c:im)(f:Nat)(d:dD)(K:dg)(σ:Sg):Prop:=match x,HS,bs with
 |some (r,p),some HS,some bs=>(match sub (σ r) p with
  |some (.own b k rows)=>∃res out o,BD P f (HS++a (.own b k rows)::bs) res ((HS.map λ_=>.dead)++out::bs.map λ_=>.dead)/\SO c out=some o/\ID o=true/\clean res=true/\(match put (σ r) p o with
   |some t=>C2 d res K (DZ (FW G (Sv o b k p) r σ) r t)
   |none=>False)
  |_=>False)
 |_,_,_=>False
def arun_lnd(d:dD)(f:Nat)(pre:ek)(x:Ar)(c:im)(a:ek)(g:dq)(K:dg)(σ:Sg):ED P G ⟨d,.Uv f pre x c a,g⟩ K σ=lndK P G (Pf σ x c) (Ms σ pre) (Ms σ a) (Su σ x c) c f d K σ:=(rfl)
def arun_cp(d:dD)(x:Ar)(g:dq)(K:dg)(σ:Sg):ED P G ⟨d,.cp x,g⟩ K σ=bK (GO G (.cp x) d σ) K:=(rfl)
def arun_mv(d:dD)(x:Ar)(g:dq)(K:dg)(σ:Sg):ED P G ⟨d,.mv x,g⟩ K σ=bK (GO G (.mv x) d σ) K:=(rfl)
def uU(d:dD)(c:Ar)(a:Ar)(b:Ar)(g:dq)(K:dg)(σ:Sg):ED P G ⟨d,.pick c a b,g⟩ K σ=bK (GO G (.pick c a b) d σ) K:=(rfl)
def arun_bx(d:dD)(n:Nat)(x:Ar)(g:dq)(K:dg)(σ:Sg):ED P G ⟨d,.bx n x,g⟩ K σ=bK (GO G (.bx n x) d σ) K:=(rfl)
def arun_bld(d:dD)(z:dm)(a:gv)(g:dq)(K:dg)(σ:Sg):ED P G ⟨d,.T2 z a,g⟩ K σ=bK (GO G (.T2 z a) d σ) K:=(rfl)
def arun_bsl(d:dD)(n:Nat)(z:dn)(a:iy)(g:dq)(K:dg)(σ:Sg):ED P G ⟨d,.Nk n z a,g⟩ K σ=bK (GO G (.Nk n z a) d σ) K:=(rfl)
def arun_ld(d:dD)(ag:Bool)(n:Nat)(x:Ar)(g:dq)(K:dg)(σ:Sg):ED P G ⟨d,.ld ag n x,g⟩ K σ=bK (GO G (.ld ag n x) d σ) K:=(rfl)
def arun_st(d:dD)(n:Nat)(x:Ar)(y:Ar)(g:dq)(K:dg)(σ:Sg):ED P G ⟨d,.st n x y,g⟩ K σ=bK (GO G (.st n x y) d σ) K:=(rfl)
def arun_fad(d:dD)(n:Nat)(x:Ar)(g:dq)(K:dg)(σ:Sg):ED P G ⟨d,.Ul n x,g⟩ K σ=bK (GO G (.Ul n x) d σ) K:=(rfl)
def arun_iad(d:dD)(n:Nat)(x:Ar)(y:Ar)(g:dq)(K:dg)(σ:Sg):ED P G ⟨d,.WX n x y,g⟩ K σ=bK (GO G (.WX n x y) d σ) K:=(rfl)
def arun_aad(d:dD)(n:Nat)(m:Nat)(x:Ar)(y:Ar)(g:dq)(K:dg)(σ:Sg):ED P G ⟨d,.aad n m x y,g⟩ K σ=bK (GO G (.aad n m x y) d σ) K:=(rfl)
def arun_idx(d:dD)(ag:Bool)(n:Nat)(m:Nat)(x:Ar)(y:Ar)(g:dq)(K:dg)(σ:Sg):ED P G ⟨d,.idx ag n m x y,g⟩ K σ=bK (GO G (.idx ag n m x y) d σ) K:=(rfl)
def arun_bin(d:dD)(a:BinOp)(x:Ar)(y:Ar)(g:dq)(K:dg)(σ:Sg):ED P G ⟨d,.bin a x y,g⟩ K σ=bK (GO G (.bin a x y) d σ) K:=(rfl)
def arun_beq(d:dD)(ag:Bool)(x:Ar)(y:Ar)(g:dq)(K:dg)(σ:Sg):ED P G ⟨d,.beq ag x y,g⟩ K σ=bK (GO G (.beq ag x y) d σ) K:=(rfl)
def arun_un(d:dD)(a:UnOp)(x:Ar)(g:dq)(K:dg)(σ:Sg):ED P G ⟨d,.un a x,g⟩ K σ=bK (GO G (.un a x) d σ) K:=(rfl)
def arun_cvt(d:dD)(a:IntKind)(x:Ar)(g:dq)(K:dg)(σ:Sg):ED P G ⟨d,.cvt a x,g⟩ K σ=bK (GO G (.cvt a x) d σ) K:=(rfl)
def arun_len(d:dD)(x:Ar)(g:dq)(K:dg)(σ:Sg):ED P G ⟨d,.len x,g⟩ K σ=bK (GO G (.len x) d σ) K:=(rfl)
def uW(d:dD)(x y:Ar)(g:dq)(K:dg)(σ:Sg):ED P G ⟨d,.lS x y,g⟩ K σ=bK (GO G (.lS x y) d σ) K:=(rfl)
def arun_mm(d:dD)(mx:Bool)(x y:Ar)(g:dq)(K:dg)(σ:Sg):ED P G ⟨d,.mm mx x y,g⟩ K σ=bK (GO G (.mm mx x y) d σ) K:=(rfl)
def uV(d:dD)(a:Bool)(b:dF)(x y:Ar)(g:dq)(K:dg)(σ:Sg):ED P G ⟨d,.lR a b x y,g⟩ K σ=bK (GO G (.lR a b x y) d σ) K:=(rfl)
def uX(d:dD)(x:Ar)(g:dq)(K:dg)(σ:Sg):ED P G ⟨d,.Zc x,g⟩ K σ=bK (GO G (.Zc x) d σ) K:=(rfl)
def arun_app(d:dD)(n:Nat)(m:Nat)(x:Ar)(y:Ar)(g:dq)(K:dg)(σ:Sg):ED P G ⟨d,.app n m x y,g⟩ K σ=bK (GO G (.app n m x y) d σ) K:=(rfl)
def arun_slc(d:dD)(n:Nat)(ag:Bool)(x:Ar)(lo:ja)(hi:ja)(mx:ja)(g:dq)(K:dg)(σ:Sg):ED P G ⟨d,.slc n ag x lo hi mx,g⟩ K σ=bK (GO G (.slc n ag x lo hi mx) d σ) K:=(rfl)
def arun_ext(d:dD)(x:Ar)(n:Nat)(g:dq)(K:dg)(σ:Sg):ED P G ⟨d,.ext x n,g⟩ K σ=bK (GO G (.ext x n) d σ) K:=(rfl)
def arun_mk(d:dD)(n:Nat)(m:Nat)(z:dm)(l:Ar)(c:Ar)(g:dq)(K:dg)(σ:Sg):ED P G ⟨d,.mk n m z l c,g⟩ K σ=bK (GO G (.mk n m z l c) d σ) K:=(rfl)
def arun_fl(d:dD)(g:dq)(K:dg)(σ:Sg):ED P G ⟨d,.fl,g⟩ K σ=bK (GO G .fl d σ) K:=(rfl)
def arun_flk(d:dD)(x:Ar)(k:Nat)(g:dq)(K:dg)(σ:Sg):ED P G ⟨d,.flk x k,g⟩ K σ=bK (GO G (.flk x k) d σ) K:=(rfl)
def uS(d:dD)(r off kb k:Nat)(i:Ar)(g:dq)(K:dg)(σ:Sg):ED P G ⟨d,.jQ r off kb k i,g⟩ K σ=bK (GO G (.jQ r off kb k i) d σ) K:=(rfl)
def arun_lda(d:dD)(x:Ar)(g:dq)(K:dg)(σ:Sg):ED P G ⟨d,.Xn x,g⟩ K σ=bK (GO G (.Xn x) d σ) K:=(rfl)
def arun_sts(d:dD)(x y:Ar)(g:dq)(K:dg)(σ:Sg):ED P G ⟨d,.WU x y,g⟩ K σ=bK (GO G (.WU x y) d σ) K:=(rfl)
def uT(d:dD)(x:Ar)(g:dq)(K:dg)(σ:Sg):ED P G ⟨d,.Jp x,g⟩ K σ=bK (GO G (.Jp x) d σ) K:=(rfl)
end
variable{I:FI}
section
variable{w w':World}{S S':de}{G:Gi}{δ:dy}{Fr:dh}{P:Program}
def rH(G:Gi)(rs:il)(res:AV)(e:Exit)(σ:Sg):Prop:=
 (match e with| .normal=>True| .ret=>True|_=>False)/\∃vs τ,Ft G rs σ=some (vs,τ)/\one (vs.map zY)=res
def qK(x:gk)(res:AV):Prop:=match x with
 |some (vs,_)=>one (vs.map zY)=res
 |none=>False
def kX(vs:dm)(τ:Sg)(a:AV):qK (some (vs,τ)) a=(one (vs.map zY)=a):=(rfl)
theorem uC(G:Gi)(rs:il)(a:AV)(σ:Sg):rH G rs a .ret σ=qK (Ft G rs σ) a:=by
 unfold rH qK;cases Ft G rs σ with
 |none=>simp
 |some x=>obtain⟨vs,τ⟩:=x;simp
theorem Z9(ds:dH):∀{F:de},JQ w S ds F->∃a:List DV,a.map DV.er=(ds.map DV.er).map zY/\a.map DV.A0=ds.map DV.A0/\JQ w (λx=>S x\/F x) a (λ_=>False):=by
 induction ds with
 |nil=>intro F h;exact⟨[],rfl,rfl,λ_ h=>h⟩
 |cons d ds ih=>
  rintro F ⟨n,o,l,m,p,e⟩;obtain⟨D,i,j,k⟩:=iW l;obtain⟨a,d1,f,g⟩:=ih m;refine⟨D::a,by simp[i,d1],by simp[j,f],⟨λ_=>False,λ_=>False,?_,?_,λ_ h=>h.elim,λx=>ak⟩⟩
  . exact k.mono (λ_ _=>rfl) (λ_ h=>h.elim) (λb c=>c.imp id λh=>(e b).2 (.inl h)) (λ_ h=>h.elim)
  . exact g.mono (λ_ _=>rfl) (λ_ h=>h.elim) (λb c=>c.imp id λh=>(e b).2 (.inr h)) (λ_ h=>h.elim)
theorem TC(ds:dH):(Om ds).A0=Xv (ds.map DV.A0):=by
 match ds with
 |[]=>simp[Om,Xv]
 |[d]=>simp[Om,Xv]
 |_::_::_=>simp[Om,Xv]
theorem lM(L:P.follows .mixedOrders=true)(K:P.funcs[f]? =some j)(J:M6 P j I=true)(hn:args.length<=j.ntmps)(t:args.all Is=true)(h:Hg P I.g I.c (rH I.g I.r i) (start args)):Says P f args i:=by
 intro w S ds F y u p H;subst u;refine QA (m:=0) L K J (by simpa using hn) t (λc _=>PA c) y p H h ?_;rintro k R S1 T V tmps o s e q z _ v;have l:k= .normal\/k= .ret:=by obtain⟨h,_⟩:=o;cases k<;>simp_all
 refine⟨l,?_⟩;obtain⟨_,vs,τ,C,B⟩:=o;obtain⟨U,FD,D,g2,n,E,_⟩:=JA j.results.toList s z v C;obtain⟨Ds',N,O,Q⟩:=Z9 _ n;have G:JQ R (λx=>S1 x\/FD x) (ds.map λd=>DV.lf .dead d.A0) (λ_=>False):=by refine CN λd hd=> ?_;obtain⟨x,_,rfl⟩:=ABO.1 hd;exact .lf _ _ _ trivial (λ_ h=>h)
 refine⟨_,Tj g2,Om Ds',ds.map λd=>DV.lf .dead d.A0,λx=>S1 x\/FD x,λ_=>False,by rw[TC,TC,O],by rw[TD,N,D,B],ak,ak,A8.2 ⟨λ_=>False,λ_=>False,N6 Q,G,λ_ h=>h.elim,λx=>ak⟩,⟨e.os,e.tape,e.output,e.size,e.block⟩,λb a=>.inl (e.sub b a),?_,?_,λx M=>M.elim⟩
 . rintro b (a|a)
   . exact e.sup b a
   . exact .inr (e.own b (E b a))
 . rintro b (a|a)
   . exact q b a
   . exact(N6 n).lt b a
def YS(x:gk)(res:AV)(outs:dm):Prop:=match x with
 |some (vs,τ)=>one vs=res/\TF τ 0 outs
 |none=>False
def kY(vs:dm)(τ:Sg)(b:AV)(a:dm):YS (some (vs,τ)) b a=(one vs=b/\TF τ 0 a):=(rfl)
theorem uD(G:Gi)(rs:il)(b:AV)(a:dm)(σ:Sg):Wb G rs b a .ret σ=YS (Ft G rs σ) b a:=by
 unfold Wb YS;cases Ft G rs σ with
 |none=>simp
 |some x=>obtain⟨vs,τ⟩:=x;simp only[AAC,AAQ,true_and,eq_iff_iff];exact⟨λ⟨_,_,⟨c,d⟩,h⟩=>by subst c;subst d;exact h,λh=>⟨_,_,⟨rfl,rfl⟩,h⟩⟩
theorem bZ(G:Gi)(rs:il)(b:AV)(a:dm)(σ:Sg):Wb G rs b a .normal σ=YS (Ft G rs σ) b a:=by
 unfold Wb YS;cases Ft G rs σ with
 |none=>simp
 |some x=>obtain⟨vs,τ⟩:=x;simp only[AAC,AAQ,true_and,eq_iff_iff];exact⟨λ⟨_,_,⟨c,d⟩,h⟩=>by subst c;subst d;exact h,λh=>⟨_,_,⟨rfl,rfl⟩,h⟩⟩
end
attribute [go_sem] rP awp_reg awp_rex u7 awp_skip awp_exit awp_ret awp_gz awp_pg awp_apd uM nC arun_std yC PS RU qC gzS czS u9 rW rV aops_nil uN aop_n aop_g gK_tt gK_tf gK_ft gK_ff
attribute [go_sem] gK_un skipK_s skipK_n bK_some bK_none toDst_s toDst_n yQ nU uR axs_nil axs_o nilK_sl axs_nilq arun_cp arun_mv
attribute [go_sem] uU arun_bx arun_bld arun_bsl arun_ld arun_st arun_fad arun_iad arun_aad arun_idx arun_bin arun_beq arun_un arun_cvt arun_len uX arun_app arun_slc
attribute [go_sem] List.length_replicate Int.reduceToNat arun_mm uV wC QC uW axs_gld wS Q9 arun_ext arun_mk awp_flc awp_flo uL nA dN arun_fl arun_flk uS arun_lda arun_sts uT GO tk Zh wr valOf binF binI unF view Pz Py Mj vC vF Ia JM
attribute [go_sem] HP FN cellsOf C8 ar hd nJ EE xR Sr killS_at xN E1 UJ Df PT DZ Fj Pr VS VU eR stC
attribute [go_sem] sub put QT JH SX NQ mxI VQ Wq GN Jt kN TL rdL Mw mH zY fzl Rr Z8
attribute [go_sem] fresh PB RM yI rowsOf ID lP yY seqA_ret Y6 O8 nS Gi.OM start_at if_true ite_true ite_false if_false Option.map_some
attribute [go_sem] Bool.false_eq_true List.getD_cons_zero List.getD_cons_succ true_and and_true and_self false_and and_false Int.natCast_nonneg Int.toNat_natCast List.take_succ_cons List.take_zero List.drop_zero List.drop_succ_cons List.map_cons List.map_nil List.length_cons List.length_nil Nat.zero_add decide_eq_true_eq
attribute [go_sem] List.getElem?_cons_zero List.getElem?_cons_succ List.all_cons List.all_nil Bool.and_true Bool.true_and Nat.le_refl List.nil_append List.append_nil beq_self_eq_true bne_self_eq_false beq_iff_eq bne_iff_ne ne_eq not_true_eq_false not_false_eq_true Ends_ret uC
attribute [go_sem] kX Ft qM one_one one_two AV.sc.injEq Value.bool.injEq Value.int.injEq AV.BQ.injEq AV.agg.injEq List.cons.injEq AV.own.injEq AV.sl.injEq Option.some.injEq Prod.mk.injEq exists_and_left exists_eq_left exists_eq_left' exists_eq
attribute [go_sem] List.contains_nil List.filter_nil List.flatMap_nil List.not_mem_nil List.filter_cons Bool.not_true Bool.not_false Int.toNat_zero Nat.lt_irrefl Nat.sub_zero List.isEmpty_nil List.contains_cons Bool.or_false Bool.false_or Bool.or_true Bool.true_or List.mem_cons or_false false_or
attribute [go_sem] or_true true_or or_self Nat.lt_add_one Nat.zero_lt_one List.set_cons_zero List.set_cons_succ ZB NG List.cons_append List.drop_nil List.take_nil Bool.not_eq_true Bool.and_false Bool.false_and Bool.and_self List.any_cons List.any_nil decide_true decide_false
attribute [go_sem] eq_self V2 W0 axs_bxv bxvK_agg axs_clog cloP_at vT cloA vL SP arun_mkf arun_lnd Ri rdF Ms Pf Su SO clean KP uD bZ kY TF
theorem frzR_set(a:dn)(i:Nat)(x:dm):NG (a.set i x)=(NG a).set i (ZB x):=by simp[WC,WB,AA1]
attribute [go_sem] frzR_set List.isEmpty_cons
variable{W:dq}
section
variable{w w':World}{S S':de}{G:Gi}{δ:dy}{Fr:dh}{P:Program}
inductive MO where
 |mp (es:List (ABe×Value))
 |it (s:ABe) (pos:Nat)
def MO.is:MO->Obj->Prop
 | .mp es,o=>∃arr c,o= .map arr c/\arr.toList.map (λe=>(e.key,e.val))=es.map λx=>(Value.string x.1,x.2)
 | .it s p,o=>o= .stringIter s p
abbrev Mu:=Nat->ABd MO
abbrev dM:=Sg->Mu->Prop
abbrev ie:=Nat->Sg->Mu->Prop
def Jb(G:Gi)(n:Nat)(w0:World)(S0 U0:de)(a:Act)(w:World)(σ:Sg)(μ:Mu):Prop:=
 ∃(w1:World)(S1 U1:de),Nx w0 S0 U0 w1 S1 U1/\Y2 w1 S1 U1/\
  (∀b o,μ b=some o->b<w1.heap.size/\¬S1 b/\¬U1 b/\w0.heap.size<=b/\∃ob,w1.heap[b]? =some ob/\o.is ob)/\Rel G n w1 S1 U1 a w σ
variable{n:Nat}{w0:World}{S0 U0:de}{a:Act}{σ:Sg}{μ:Mu}
theorem Jb.start(b:Y2 w0 S0 U0)(h:Rel G n w0 S0 U0 a w σ):Jb G n w0 S0 U0 a w σ (λ_=>none):=
 ⟨w0,S0,U0,Nx.refl _ _ _,b,λ_ _ h=>by(cases h),h⟩
theorem Jb.toRel(h:Jb G n w0 S0 U0 a w σ μ):Rel G n w0 S0 U0 a w σ:=by obtain⟨m,S1,U1,j,l,k,S,δ,F,b,c,d,e,f,g,i⟩:=h;exact⟨S,δ,F,b,c,d,e,f,j.trans g,i⟩
variable{O:MO}
theorem Jb.obj(h:Jb G n w0 S0 U0 a w σ μ)(j:μ f=some O):∃ob,w.heap[f]? =some ob/\O.is ob:=by obtain⟨v,S1,U1,u,t,c,S,δ,F,l,m,p,q,r,i,s⟩:=h;obtain⟨d,g2,e,k,ob,b,g⟩:=c f O j;exact⟨ob,by rw[i.block f d e];exact b,g⟩
theorem Jb.fresh(h:Jb G n w0 S0 U0 a w σ μ):μ w.heap.size=none:=by
 cases hb:μ w.heap.size with
 |none=>rfl
 |some o=>
  obtain⟨ob,b,_⟩:=h.obj hb
  have:=(AAs.1 b).1;omega
theorem Jb.turn(h:Jb G n w0 S0 U0 a w σ μ){b:Nat}{o':MO}{ob':Obj}(K:(∃o,μ b=some o)\/b=w.heap.size)(M:w'.os=w.os)(O:w'.tape=w.tape)(N:w'.output=w.output)(u:w.heap.size<=w'.heap.size)(g:∀c,c<w.heap.size->c≠b->w'.heap[c]? =w.heap[c]?)(V:w'.heap[b]? =some ob')(L:o'.is ob'):Jb G n w0 S0 U0 a w' σ (DZ μ b (some o')):=by
 obtain⟨w1,S1,U1,P,hG,R,S,δ,F,X,Z,h3,rfl,y,m,z⟩:=h;have v:∀c o,μ c=some o->c<w.heap.size/\¬S c/\¬BJ F c/\w0.heap.size<=c/\∃ob,w.heap[c]? =some ob/\o.is ob:=by
  intro c o d;obtain⟨C,g2,p,D,ob,H,I⟩:=R c o d;have B:=m.size;refine⟨ah,?_,?_,D,ob,by rw[m.block c C p];exact H,I⟩
  . intro hS;rcases m.sup c hS with k|k|k
    . exact g2 k
    . exact p k
    . omega
  . intro J;rcases m.own c J with k|k
    . exact p k
    . omega
 have i:∀x,BJ F x->x<w.heap.size:=λx ⟨s,B⟩=>(y.ok s).lt x B;have q:¬S b:=by
  rcases K with⟨o,t⟩|rfl
  . exact(v b o t).2.1
  . intro k;have:=z _ k;omega
 have T:¬BJ F b:=by
  rcases K with⟨o,t⟩|rfl
  . exact(v b o t).2.2.1
  . intro k;have:=i _ k;omega
 have e:=P.trans m;have wX:w0.heap.size<=b:=by
  rcases K with⟨o,t⟩|rfl
  . exact(v b o t).2.2.2.1
  . exact e.size
 have r:b<w'.heap.size:=(AAs.1 V).1;have f:∀c,S c->w'.heap[c]? =w.heap[c]? :=λc d=>g c (z c d) (by rintro rfl;exact q d);have j:∀s x,F s x->w'.heap[x]? =w.heap[x]? :=λs x d=>g x (i x ⟨s,d⟩) (by rintro rfl;exact T ⟨s,d⟩);have W:St G w' S δ F:=y.world f j (λ_ h=>h) (λs x P=>(y.ok s).Et x P);refine⟨w',S,BJ F,?_,?_,?_,S,δ,F,X,Z,h3,rfl,W,Nx.refl _ _ _,λc d=>ABE (z c d) u⟩
 . refine⟨M.trans e.os,O.trans e.tape,N.trans e.output,AA5 e.size u,?_,e.sub,e.sup,λhl c d=>ABE (e.lt hl c d) u,e.own⟩;intro c d J;rw[g c (ABE d e.size) ah,e.block c d J]
 . refine⟨?_,λc d=>⟨λ⟨s,B⟩=>(y.ok s).Et c B d,ABE (z c d) u⟩⟩;intro x Q;obtain⟨U,arr,E,fz,k2,k3⟩:=(hG.now m) x Q;exact⟨U,arr,E,fz,by rw[f _ U];exact k2,k3⟩
 . intro c o d;by_cases l:c=b
   . subst l;rw[BM]at d;obtain rfl:=AAG d;exact⟨r,q,T,wX,ob',V,L⟩
   . rw[Ba _ _ l]at d;obtain⟨C,g2,p,D,ob,H,I⟩:=v c o d;exact⟨ah,g2,p,D,ob,by rw[g c C l];exact H,I⟩
theorem Rel.Di(h:Rel G n w0 S0 U0 a w σ)(k:Dy G n o.dst dst=true)(g:∀w S,Ok w S D (λ_=>False))(f:∀δ,Dc δ D)(i:C2 dst D.er K σ):
 ∃σ',Rel G n w0 S0 U0 (a.put o.dst D.A0) w σ'/\K σ':=by
 obtain⟨S,δ,Fr,hn,d,j,rfl,c,e,b⟩:=h;have hd:=EV k hn;exact LY (S2:=S) (D:=D) (FD:=λ_=>False) (v:=D.er) (K:=K) c hn d j hd rfl (λ_ _=>rfl) b (λ_ h=>h) (λ_ h=>.inl h) b (g w S) (λ_ h=>h.elim) (f δ) e rfl rfl rfl (AAe _) i
theorem Jb.Di(h:Jb G n w0 S0 U0 a w σ μ)(l:Dy G n o.dst dst=true)(f:∀w S,Ok w S D (λ_=>False))(c:∀δ,Dc δ D)(i:C2 dst D.er K σ):
 ∃σ',Jb G n w0 S0 U0 (a.put o.dst D.A0) w σ' μ/\K σ':=by
 obtain⟨m,S1,U1,k,g,b,j⟩:=h;obtain⟨σ',d,e⟩:=j.Di l f c i;exact⟨σ',⟨m,S1,U1,k,g,b,d⟩,e⟩
theorem Jb.Ew(h:Jb G n w0 S0 U0 a w σ μ){x:Operand}(d:CR x y=true)(f:ar σ y= .sc u):a.eval x=u/\GJ u=true:=by obtain⟨S,δ,Fr,hn,j,c,rfl,b,k,i⟩:=h.toRel;obtain⟨g,e⟩:=Am d c;rw[e];exact b.Ew g f
def MS(es:List (ABe×Value))(s:ABe)(z:Value):Value:=match es.find? (λx=>x.1==s)with
 |some x=>x.2
 |none=>z
def mY(es:List (ABe×Value))(s:ABe)(v:Value):List (ABe×Value):=es++[(s,v)]
inductive mS where
 |x (o:gA)
 |mkm (d:Dp)
 |lkp (g:ABd (Nat×Bool)) (d:Dp) (m k:Ar)
 |mup (m k v:Ar)
 |rng (d:Dp) (x:Ar)
 |nxt (d:Dp) (x:Ar)
abbrev iv:=List mS
def gM(g:dq)(d:Dp)(A:dg)(K:dg)(σ:Sg):Prop:=match g with
 |none=>A σ
 |some (s,want)=>gK (σ s) want A (λσ=>K (DZ (JW d.kl d.d σ) d.d .un)) σ
theorem gM_gd{A:dg}{σ:Sg}(h:gM W d A K σ):gdP W A (Yl (some d) K) σ:=by cases W<;>exact h
def lkpK(m k:AV)(μ:Mu)(d:Dp)(K:dg)(σ:Sg):Prop:=match m,k with
 | .sc (.map (some b)),.sc (.string s)=>match μ b with
  |some (.mp es)=>GJ (MS es s (.bool false))=true/\C2 (some d) (.sc (MS es s (.bool false))) K σ
  |_=>False
 |_,_=>False
def mupK(m k v:AV)(μ:Mu)(K:Mu->Prop):Prop:=match m,k,v with
 | .sc (.map (some b)),.sc (.string s),.sc u=>match μ b with
  |some (.mp es)=>es.all (λx=> !(x.1==s))=true/\K (DZ μ b (some (.mp (mY es s u))))
  |_=>False
 |_,_,_=>False
def rngK(x:AV)(d:Dp)(K:dM)(σ:Sg)(μ:Mu):Prop:=match x with
 | .sc (.string s)=>∀b,μ b=none->C2 (some d) (.sc (.pointer (some ⟨b,0,none⟩))) (λσ'=>K σ' (DZ μ b (some (.it s 0)))) σ
 |_=>False
def nxtK(x:AV)(d:Dp)(K:dM)(σ:Sg)(μ:Mu):Prop:=match x with
 | .sc (.pointer (some ⟨b,0,none⟩))=>match μ b with
  |some (.it s pos)=>if pos<s.size then C2 (some d) (.BQ [.sc (.bool true),.sc (.int .i64 pos),.sc (.int .i32 (Utf8.decode s pos).1)]) (λσ'=>K σ' (DZ μ b (some (.it s (pos+(Utf8.decode s pos).2))))) σ
   else C2 (some d) (.BQ [.sc (.bool false)]) (λσ'=>K σ' μ) σ
  |_=>False
 |_=>False
def Og(P:Program)(G:Gi):List mS->(Sg->Mu->Prop)->Sg->Mu->Prop
 |[],K,σ,μ=>K σ μ
 | .x o::l,K,σ,μ=>LG P G [o] (λσ'=>Og P G l K σ' μ) σ
 | .mkm d::l,K,σ,μ=>∀b,μ b=none->C2 (some d) (.sc (.map (some b))) (λσ'=>Og P G l K σ' (DZ μ b (some (.mp [])))) σ
 | .lkp g d m k::l,K,σ,μ=>gM g d (λσ=>lkpK (ar σ m) (ar σ k) μ d (λσ'=>Og P G l K σ' μ) σ) (λσ'=>Og P G l K σ' μ) σ
 | .mup m k v::l,K,σ,μ=>mupK (ar σ m) (ar σ k) (ar σ v) μ (λc=>Og P G l K σ c)
 | .rng d x::l,K,σ,μ=>rngK (ar σ x) d (Og P G l K) σ μ
 | .nxt d x::l,K,σ,μ=>nxtK (ar σ x) d (Og P G l K) σ μ
def V9(P:Program)(t:TypeId)(zb:Bool):Bool:=match P.underlying t with
 |some (.map kt et)=>(match P.underlying kt with|some .string=>true|_=>false)&&(!zb||(match(P.info? et).bind (·.zero)with|some (.bool false)=>true|_=>false))
 |_=>false
def oH(P:Program)(G:Gi)(n:Nat)(ops:Array Oper)(o:Oper):mS->Bool
 | .x io=>iG P G n ops o io
 | .mkm d=>o.guard.isNone&&Dy G n o.dst (some d)&&(match o.op with| .makeMap _ none=>true|_=>false)
 | .lkp g d m k=>Kn n ops o.guard g&&Dy G n o.dst (some d)&&(match o.op with| .lookup t m' k' false=>CR m' m&&CR k' k&&V9 P t true|_=>false)
 | .mup m k v=>o.guard.isNone&&Dy G n o.dst none&&(match o.op with| .mapUpdate t m' k' v'=>CR m' m&&CR k' k&&CR v' v&&V9 P t false|_=>false)
 | .rng d x=>o.guard.isNone&&Dy G n o.dst (some d)&&(match o.op with| .range t x'=>CR x' x&&(match P.underlying t with|some .string=>true|_=>false)|_=>false)
 | .nxt d x=>o.guard.isNone&&Dy G n o.dst (some d)&&(match o.op with| .next x' true=>CR x' x|_=>false)
end
variable{g:List (ABe×Value)}{V:TypeInfo}
section
open Go.MapKept
variable{w w':World}{S S':de}{G:Gi}{δ:dy}{Fr:dh}{P:Program}
variable{n:Nat}{w0:World}{S0 U0:de}{a:Act}{σ:Sg}{μ:Mu}
def okSc(v:Value)(a:GJ v=true)(w:World)(S:de):Ok w S (.lf (.sc v) v) (λ_=>False):=.lf _ _ _ ⟨rfl,a⟩ (λ_ h=>h)
theorem okTup(l:List Value)(b:∀v∈l,GJ v=true)(w:World)(S:de):Ok w S (.BQ (l.map λv=>.lf (.sc v) v)) (λ_=>False):=by refine A8.2 (CN λD a=> ?_);obtain⟨v,c,rfl⟩:=ABO.1 a;exact okSc v (b v c) w S
theorem alTup(l:List Value)(δ:dy):Dc δ (.BQ (l.map λv=>.lf (.sc v) v)):=by refine .BQ _ λi D a=> ?_;obtain⟨v,b,rfl⟩:=ABO.1 (AAP a);exact .lf _ _ trivial
theorem SZ{arr:List MapEntry}(h:arr.map (λe=>(e.key,e.val))=g.map λx=>(Value.string x.1,x.2))(s:ABe)(i:Nat):
 (g.find? (λx=>x.1==s)=none/\Instr.findNow .string (.string s) arr i=some none)\/∃x j,g.find? (λx=>x.1==s)=some x/\Instr.findNow .string (.string s) arr i=some (some (j,x.2)):=by
 induction g generalizing arr i with
 |nil=>cases arr with
  |nil=>exact .inl ⟨rfl,rfl⟩
  |cons e r=>simp at h
 |cons x g ih=>
  cases arr with
  |nil=>simp at h
  |cons e r=>
   simp only[AAU,List.cons.injEq,AAQ]at h;obtain⟨⟨d,b⟩,k⟩:=h;by_cases a:(s==x.1)=true
   . have c:(x.1==s)=true:=(by rw[bytes_beq]at a |-;exact a.symm);exact .inr ⟨x,i,by simp[List.find?,c],by simp[Instr.findNow,d,Instr.sameNow,a,b]⟩
   . have c:(x.1==s)=false:=(by rw[<- Bool.not_eq_true,bytes_beq];rw[bytes_beq]at a;exactλe=>a e.symm);have f:(s==x.1)=false:=(by simpa using a);rcases ih k (i+1)with⟨k1,k2⟩|⟨y,j,k1,k2⟩
     . exact .inl ⟨by simp[List.find?,c,k1],by simp[Instr.findNow,d,Instr.sameNow,f,k2]⟩
     . exact .inr ⟨y,j,by simp[List.find?,c,k1],by simp[Instr.findNow,d,Instr.sameNow,f,k2]⟩
theorem run_look{arr:Array MapEntry}{c:Nat}{n:List (ABe×Value)}(p:P.underlying t=some (.map E e))(d:P.underlying E=some .string)(r:P.info? e=some V)(u:V.zero=some (.bool false))(q:w.heap[f]? =some (.map arr c))(v:arr.toList.map (λo=>(o.key,o.val))=n.map λx=>(Value.string x.1,x.2))(s:ABe):
 (Instr.lookup t (.map (some f)) (.string s) false).run P w= .ok (MS n s (.bool false)) w:=by
 have m:∀a,(Instr.checkKey a 10000 E (.string s)).run P w= .ok () w:=λa=>MapKept.run_checkKey d (k:=.string s) (by simp[IsKey]) a 9999;rcases SZ v s 0 with⟨g,h⟩|⟨x,j,g,h⟩
 . have b:=run_findKey (w:=w) d h;simp[Instr.lookup,run_underlying p,MapKept.run_getObj_map q,m,b,MS,g,zeroValue,typeInfo,r,u]
 . have b:=run_findKey (w:=w) d h;simp[Instr.lookup,run_underlying p,MapKept.run_getObj_map q,m,b,MS,g]
theorem run_upd{n:TypeId}{arr:Array MapEntry}{c:Nat}(o:P.underlying t=some (.map E n))(h:P.underlying E=some .string)(i:w.heap[f]? =some (.map arr c))(p:arr.toList.map (λe=>(e.key,e.val))=g.map λx=>(Value.string x.1,x.2))(s:ABe)(v:Value)(b:g.all (λx=> !(x.1==s))=true):
 (Instr.mapUpdate t (.map (some f)) (.string s) v).run P w= .ok () {w with heap:=w.heap.setIfInBounds f (.map (arr.push {key:=.string s,val:=v,born:=c}) (c+1))}:=by
 have m:(Instr.checkKey false 10000 E (.string s)).run P w= .ok () w:=MapKept.run_checkKey h (k:=.string s) (by simp[IsKey]) false 9999;rcases SZ p s 0 with⟨a,l⟩|⟨x,j,a,l⟩
 . have q:=run_findKey (w:=w) h l;simp[Instr.mapUpdate,run_underlying o,MapKept.run_getObj_map i,m,q,MapKept.run_setObj_map _ i]
 . have r:=ABW a;have u:=List.find?_some a;rw[AAH]at b
   have:=b x r;simp only[u]at this;cases this
end
section
variable{w w':World}{S S':de}{G:Gi}{δ:dy}{Fr:dh}{P:Program}
variable{n:Nat}{w0:World}{S0 U0:de}{a:Act}{σ:Sg}{μ:Mu}
theorem Jb.base(h:Jb G n w0 S0 U0 a w σ μ):∃(b:World)(S1 U1:de),Y2 b S1 U1/\Rel G n b S1 U1 a w σ/\∀c w' σ',Rel G n b S1 U1 c w' σ'->Jb G n w0 S0 U0 c w' σ' μ:=by obtain⟨b,S1,U1,i,e,d,g⟩:=h;exact⟨b,S1,U1,e,g,λc w' σ' f=>⟨b,S1,U1,i,e,d,f⟩⟩
theorem run_mkm(t:TypeId)(w:World):(Instr.makeMap t none).run P w= .ok (.map (some w.heap.size)) (w.alloc (.map #[] 0)):=rfl
theorem am_sound{K:dM}(Q:Exit->Act->World->Prop)(ho:ops[f]? =some o){x:mS}{Z:iv}(h:Jb G n w0 S0 U0 a w σ μ)(p:oH P G n ops o x=true)(e:Og P G (x::Z) K σ μ):wpOp P ops Q f (λH w'=>∃σ' l,Jb G n w0 S0 U0 H w' σ' l/\Og P G Z K σ' l) a w:=by
 have V:o.guard.isNone=true->o.wp P a w (λH w'=>∃σ' l,Jb G n w0 S0 U0 H w' σ' l/\Og P G Z K σ' l) Q->wpOp P ops Q f (λH w'=>∃σ' l,Jb G n w0 S0 U0 H w' σ' l/\Og P G Z K σ' l) a w:=by
  intro hg hwp;unfold wpOp;rw[ho];have hog:o.guard=none:=by simpa using hg
  simp only;rw[AAL (by simp[Region.wanted,hog])];exact .inl hwp
 cases x with
 |x io=>obtain⟨w1,S1,U1,hG,Hv,PH⟩:=h.base;refine wpOp_mono ?_ (gV hG Q ho Hv ⟨p,trivial⟩ e);rintro H w' ⟨σ',I,J⟩;exact⟨σ',μ,PH _ _ _ I,J⟩
 |mkm d=>
  simp only[oH,AAD]at p;obtain⟨⟨z,g2⟩,k⟩:=p;refine V z ?_;split at k
  . rename_i t y;have q:(execOp a.eval o).run P w= .ok (.value (.map (some w.heap.size))) (w.alloc (.map #[] 0)):=(by simp only[execOp,y,Option.map_none,Sem.run_bind,run_mkm,Result.andThen_ok,Sem.run_pure]);unfold Oper.wp;rw[q,Oper.upon_value];have I:=h.turn (w':=w.alloc (.map #[] 0)) (b:=w.heap.size) (o':=.mp []) (ob':=.map #[] 0) (.inr rfl) rfl rfl rfl (by show w.heap.size<=(w.heap.push _).size;rw[Array.size_push];omega) (λc p _=>(MapKept.heap_alloc w _).2 c p) (MapKept.heap_alloc w _).1 ⟨#[],0,rfl,rfl⟩;obtain⟨σ',C,E⟩:=I.Di (o:=o) g2 (D:=.lf (.sc (.map (some w.heap.size))) (.map (some w.heap.size))) (okSc _ rfl) (λ_=>.lf _ _ trivial) (by simpa using e w.heap.size h.fresh);exact⟨σ',_,by simpa using C,E⟩
  . cases k
 |lkp g d m f=>
  simp only[oH,AAD]at p;obtain⟨⟨z,g2⟩,k⟩:=p;obtain⟨w1,S1,U1,hG,Hv,PH⟩:=h.base;refine PG Hv g2 z Q ?_ (λH _ dI J=>⟨_,μ,PH _ _ _ dI,J⟩) (gM_gd e) ho;intro F;split at k
  . rename_i t m' k' y;simp only[AAD]at k;obtain⟨⟨N,L⟩,r⟩:=k;unfold lkpK at F;split at F
    . rename_i b s hm J;split at F
      . rename_i R B;obtain⟨hp,F⟩:=F;obtain⟨ob,j,arr,c,rfl,W⟩:=h.obj B;unfold V9 at r;split at r
        . rename_i kt et U;simp only[AAD,Bool.not_true,Bool.false_or]at r;obtain⟨O,c5⟩:=r;have XU:P.underlying kt=some .string:=by split at O<;>first|assumption|cases O
          obtain⟨i,hi,M⟩:∃i,P.info? et=some i/\i.zero=some (.bool false):=by
           split at c5
           . rename_i M;cases hi:P.info? et with
             |none=>rw[hi]at M;cases M
             |some i=>rw[hi]at M;exact⟨i,rfl,M⟩
           . cases c5
          have q:(execOp a.eval o).run P w= .ok (.value (MS R s (.bool false))) w:=(by simp only[execOp,y,(h.Ew N hm).1,(h.Ew L J).1,Sem.run_bind,run_look U XU hi M j W s,Result.andThen_ok,Sem.run_pure]);unfold Oper.wp;rw[q,Oper.upon_value];obtain⟨σ',C,E⟩:=h.Di (o:=o) g2 (D:=.lf (.sc (MS R s (.bool false))) (MS R s (.bool false))) (okSc _ hp) (λ_=>.lf _ _ trivial) (by simpa using F);exact⟨σ',μ,by simpa using C,E⟩
        . cases r
      . exact F.elim
    . exact F.elim
  . cases k
 |mup m f v=>
  simp only[oH,AAD]at p;obtain⟨⟨z,g2⟩,k⟩:=p;refine V z ?_;split at k
  . rename_i t m' k' v' y;simp only[AAD]at k;obtain⟨⟨⟨N,L⟩,c2'⟩,r⟩:=k;simp only[Og]at e;unfold mupK at e;split at e
    . rename_i b s u hm J hu;split at e
      . rename_i R B;obtain⟨KU,e⟩:=e;obtain⟨ob,j,arr,c,rfl,W⟩:=h.obj B;unfold V9 at r;split at r
        . rename_i kt et U;simp only[AAD]at r;have XU:P.underlying kt=some .string:=by have O:=r.1;split at O<;>first|assumption|cases O
          have q:(execOp a.eval o).run P w= .ok .skip {w with heap:=w.heap.setIfInBounds b (.map (arr.push {key:=.string s,val:=u,born:=c}) (c+1))}:=(by simp only[execOp,y,(h.Ew N hm).1,(h.Ew L J).1,(h.Ew c2' hu).1,Sem.run_bind,run_upd U XU j W s u KU,Result.andThen_ok,Sem.run_pure]);unfold Oper.wp;rw[q,Oper.upon_skip];have hd:o.dst=none:=(by obtain⟨S,δ,Fr,hn,_⟩:=h.toRel;exact EV g2 hn);rw[hd];refine⟨σ,_,h.turn (b:=b) (o':=.mp (mY R s u)) (ob':=.map (arr.push {key:=.string s,val:=u,born:=c}) (c+1)) (.inl ⟨_,B⟩) rfl rfl rfl ak (λc' _ O1=>(MapKept.heap_set j).2 c' O1) (MapKept.heap_set j).1 ⟨_,_,rfl,?_⟩,e⟩;simp[mY,W]
        . cases r
      . exact e.elim
    . exact e.elim
  . cases k
 |rng d x=>
  simp only[oH,AAD]at p;obtain⟨⟨z,g2⟩,k⟩:=p;refine V z ?_;split at k
  . rename_i t x' y;simp only[AAD]at k;obtain⟨N,L⟩:=k;have U:P.underlying t=some .string:=by split at L<;>first|assumption|cases L
    simp only[Og]at e;unfold rngK at e;split at e
    . rename_i s X;have q:(execOp a.eval o).run P w= .ok (.value (.pointer (some ⟨w.heap.size,0,none⟩))) (w.iter s 0):=(by simp only[execOp,y,(h.Ew N X).1,Sem.run_bind,run_range_string w t s U,Result.andThen_ok,Sem.run_pure]);unfold Oper.wp;rw[q,Oper.upon_value];have I:=h.turn (w':=w.iter s 0) (b:=w.heap.size) (o':=.it s 0) (ob':=.stringIter s 0) (.inr rfl) rfl rfl rfl (by show w.heap.size<=(w.heap.push _).size;rw[Array.size_push];omega) (λc p _=>(MapKept.heap_alloc w _).2 c p) (MapKept.heap_alloc w _).1 rfl;obtain⟨σ',C,E⟩:=I.Di (o:=o) g2 (D:=.lf (.sc (.pointer (some ⟨w.heap.size,0,none⟩))) (.pointer (some ⟨w.heap.size,0,none⟩))) (okSc _ rfl) (λ_=>.lf _ _ trivial) (by simpa using e w.heap.size h.fresh);exact⟨σ',_,by simpa using C,E⟩
    . exact e.elim
  . cases k
 |nxt d x=>
  simp only[oH,AAD]at p;obtain⟨⟨z,g2⟩,k⟩:=p;refine V z ?_;split at k
  . rename_i x' y;simp only[Og]at e;unfold nxtK at e;split at e
    . rename_i b X;split at e
      . rename_i s pos T;obtain⟨ob,j,rfl⟩:=h.obj T;split at e
        . rename_i Dz;have q:(execOp a.eval o).run P w= .ok (.value (.tuple #[.bool true,.int .i64 pos,.int .i32 (Utf8.decode s pos).1])) (w.iterAt b s (pos+(Utf8.decode s pos).2)):=(by simp only[execOp,y,(h.Ew k X).1,Sem.run_bind,Lib.run_next_any_at w b s pos o.type j Dz,Result.andThen_ok,Sem.run_pure]);unfold Oper.wp;rw[q,Oper.upon_value];have I:=h.turn (w':=w.iterAt b s (pos+(Utf8.decode s pos).2)) (b:=b) (o':=.it s (pos+(Utf8.decode s pos).2)) (ob':=.stringIter s (pos+(Utf8.decode s pos).2)) (.inl ⟨_,T⟩) rfl rfl rfl (by simp[World.iterAt]) (λc p O1=>(MapKept.heap_set j).2 c O1) (MapKept.heap_set j).1 rfl;obtain⟨σ',C,E⟩:=I.Di (o:=o) g2 (D:=.BQ ([.bool true,.int .i64 pos,.int .i32 (Utf8.decode s pos).1].map λv=>.lf (.sc v) v)) (okTup _ (by simp[GJ])) (alTup _) (by simpa using e);exact⟨σ',_,by simpa using C,E⟩
        . rename_i Dz;have q:(execOp a.eval o).run P w= .ok (.value (.tuple #[.bool false])) w:=(by simp only[execOp,y,(h.Ew k X).1,Sem.run_bind,Lib.run_next_end_at w b s pos o.type j Dz,Result.andThen_ok,Sem.run_pure]);unfold Oper.wp;rw[q,Oper.upon_value];obtain⟨σ',C,E⟩:=h.Di (o:=o) g2 (D:=.BQ ([.bool false].map λv=>.lf (.sc v) v)) (okTup _ (by simp[GJ])) (alTup _) (by simpa using e);exact⟨σ',_,by simpa using C,E⟩
      . exact e.elim
    . exact e.elim
  . cases k
def Z1(P:Program)(G:Gi)(n:Nat)(ops:Array Oper):List Oper->List mS->Bool
 |[],[]=>true
 |o::os,x::xs=>oH P G n ops o x&&Z1 P G n ops os xs
 |_,_=>false
theorem uK{K:dM}(Q:Exit->Act->World->Prop)(l:∀a w σ μ,Jb G n w0 S0 U0 a w σ μ->K σ μ->Q .normal a w)(c:iv):
 ∀(k:Nat){a:Act}{w:World}{σ:Sg}{μ:Mu},Jb G n w0 S0 U0 a w σ μ->Z1 P G n ops (ops.toList.drop k) c=true->Og P G c K σ μ->wpOps P ops Q (List.range' k (ops.size-k)) a w:=by
 induction c with
 |nil=>
  intro k a w σ μ h b f;have g:ops.toList.drop k=[]:=by cases hd:ops.toList.drop k with|nil=>rfl|cons o os=>rw[hd]at b;simp[Z1]at b
  have i:ops.size<=k:=by simpa using g
  rw[show ops.size-k=0 from by omega];exact l a w σ μ h f
 |cons x c ih=>
  intro k a w σ μ h b f;cases hd:ops.toList.drop k with
  |nil=>rw[hd]at b;simp[Z1]at b
  |cons o os=>rw[hd]at b;simp only[Z1,AAD]at b;have g:k<ops.size:=(by have:(ops.toList.drop k).length=os.length+1:=(by rw[hd];rfl);simp at this;omega);have m:ops[k]? =some o:=(by have:(ops.toList.drop k)[0]? =some o:=(by rw[hd];rfl);simpa using this);have e:ops.toList.drop (k+1)=os:=(by have:(ops.toList.drop k).drop 1=os:=(by rw[hd];rfl);rw[List.drop_drop]at this;exact this);rw[show ops.size-k=(ops.size-(k+1))+1 from by omega,List.range'_succ,wpOps_cons];refine wpOp_mono ?_ (am_sound Q m h b.1 f);rintro q w' ⟨σ',p,j,d⟩;exact ih (k+1) j (by rw[e];exact b.2) d
inductive Y3 where
 |ic (c:IC)
 |ZQ (xs:List mS)
 |seq (a b:Y3)
 |cond (c:Ar) (a b:Y3)
 |block (id:Nat) (a:Y3)
 |loop (a:Y3)
def HT(P:Program)(G:Gi)(n:Nat):Code->Y3->Bool
 |c,.ic c'=>Gh P G n c c'
 | .region _ ops false,.ZQ xs=>Z1 P G n ops ops.toList xs
 | .seq a b,.seq a' b'=>HT P G n a a'&&HT P G n b b'
 | .cond c a b,.cond c' a' b'=>CR c c'&&HT P G n a a'&&HT P G n b b'
 | .block id a,.block id' a'=>id==id'&&HT P G n a a'
 | .loop a,.loop a'=>HT P G n a a'
 |_,_=>false
def Exit.Yf(next:dM)(Q:Exit->Sg->Mu->Prop):Exit->Sg->Mu->Prop
 | .normal,σ,μ=>next σ μ
 |e,σ,μ=>Q e σ μ
def Exit.UD(id:Nat)(Q:Exit->Sg->Mu->Prop):Exit->Sg->Mu->Prop
 | .exit i,σ,μ=>if i=id then Q .normal σ μ else Q (.exit i) σ μ
 |e,σ,μ=>Q e σ μ
def rX(x:AV)(a b:dM)(σ:Sg)(μ:Mu):Prop:=match x with
 | .sc (.bool x)=>if x=true then a σ μ else b σ μ
 |_=>False
def Iw(P:Program)(G:Gi):Y3->(Exit->Sg->Mu->Prop)->Sg->Mu->Prop
 | .ic c,Q,σ,μ=>Hg P G c (λe σ'=>Q e σ' μ) σ
 | .ZQ xs,Q,σ,μ=>Og P G xs (Q .normal) σ μ
 | .seq a b,Q,σ,μ=>Iw P G a (Exit.Yf (Iw P G b Q) Q) σ μ
 | .cond c a b,Q,σ,μ=>rX (ar σ c) (Iw P G a Q) (Iw P G b Q) σ μ
 | .block id a,Q,σ,μ=>Iw P G a (Exit.UD id Q) σ μ
 | .loop a,Q,σ,μ=>∃I:Nat->Sg->Mu->Prop,(∃n,I n σ μ)/\∀n τ h,I n τ h->Iw P G a (Exit.Yf (λτ' ν'=>∃n',n'<n/\I n' τ' ν') Q) τ h
def TiedM(G:Gi)(n:Nat)(w0:World)(S0 U0:de)(Q:Exit->Sg->Mu->Prop)(e:Exit)(a:Act)(w:World):Prop:=∃σ μ,Jb G n w0 S0 U0 a w σ μ/\Q e σ μ
theorem nP(R:P.follows .mixedOrders=true)(c:Code):∀(ic:Y3)(Q:Exit->Sg->Mu->Prop)(a:Act)(w:World)(σ:Sg)(μ:Mu),HT P G n c ic=true->Jb G n w0 S0 U0 a w σ μ->Iw P G ic Q σ μ->c.wp P (TiedM G n w0 S0 U0 Q) a w:=by
 have g:∀(c:Code)(ic:IC)(Q:Exit->Sg->Mu->Prop)(a:Act)(w:World)(σ:Sg)(μ:Mu),Gh P G n c ic=true->Jb G n w0 S0 U0 a w σ μ->Hg P G ic (λe σ'=>Q e σ' μ) σ->c.wp P (TiedM G n w0 S0 U0 Q) a w:=by intro c ic Q a w σ μ f h j;obtain⟨W,S1,U1,M,E,F⟩:=h.base;refine wp_mono (Zx M R (m:=0) (a0:=a) c ic _ a w σ f (PA c) (QQ.refl _ _) E j) ?_;rintro e r w' ⟨⟨σ',p,l⟩,_⟩;exact⟨σ',μ,F _ _ _ p,l⟩
 induction c with
 |region id ops d=>
  intro ic Q a w σ μ f h j;cases ic with
  |ic c'=>exact g _ c' Q a w σ μ (by simpa[HT]using f) h j
  |ZQ xs=>
   cases d with
   |true=>simp[HT]at f
   |false=>
    simp only[HT]at f;refine wp_region ?_
    have:=uK (P:=P) (G:=G) (ops:=ops) (K:=Q .normal) (TiedM G n w0 S0 U0 Q) (λa w σ μ h B=>⟨σ,μ,h,B⟩) xs 0 h (by simpa using f) j;rw[List.range_eq_range'];simpa using this
  |_=>simp[HT]at f
 |seq x y ZK ihy=>
  intro ic Q a w σ μ f h j;cases ic with
  |ic c'=>exact g _ c' Q a w σ μ (by simpa[HT]using f) h j
  |seq x' y'=>
   simp only[HT,AAD]at f;refine wp_seq (wp_mono (ZK x' _ a w σ μ f.1 h j) ?_);rintro e r w' ⟨σ',o,p,l⟩;cases e with
   |normal=>exact ihy y' Q r w' σ' o f.2 p l
   |_=>exact⟨σ',o,p,l⟩
  |_=>simp[HT]at f
 |cond c x y ZK ihy=>
  intro ic Q a w σ μ f h j;cases ic with
  |ic c'=>exact g _ c' Q a w σ μ (by simpa[HT]using f) h j
  |cond c' x' y'=>
   simp only[HT,AAD]at f;obtain⟨⟨J,q⟩,L⟩:=f;simp only[Iw]at j;unfold rX at j;split at j
   . rename_i b O;have C:a.eval c= .bool b:=(h.Ew J O).1;split at j
     . rename_i z;subst z;exact wp_cond_true C (ZK x' Q a w σ μ q h j)
     . rename_i v;obtain rfl:b=false:=(by simpa using v);exact wp_cond_false C (ihy y' Q a w σ μ L h j)
   . exact j.elim
  |_=>simp[HT]at f
 |block id x ZK=>
  intro ic Q a w σ μ f h j;cases ic with
  |ic c'=>exact g _ c' Q a w σ μ (by simpa[HT]using f) h j
  |block id' x'=>
   simp only[HT,AAD,AAR]at f;obtain⟨rfl,q⟩:=f;refine wp_block (wp_mono (ZK x' _ a w σ μ q h j) ?_);rintro e r w' ⟨σ',o,p,l⟩;cases e with
   |exit i=>
    simp only[Exit.inBlock];simp only[Exit.UD]at l;split
    . rename_i hi;rw[AAL hi]at l;exact⟨σ',o,p,l⟩
    . rename_i hi;rw[AAK hi]at l;exact⟨σ',o,p,l⟩
   |_=>exact⟨σ',o,p,l⟩
  |_=>simp[HT]at f
 |loop x ZK=>
  intro ic Q a w σ μ f h j;cases ic with
  |ic c'=>exact g _ c' Q a w σ μ (by simpa[HT]using f) h j
  |loop x'=>
   simp only[HT]at f;obtain⟨I,⟨T,H⟩,U⟩:=j;refine wp_loop_ghost (λk a w=>∃σ μ,Jb G n w0 S0 U0 a w σ μ/\I k σ μ) T ⟨σ,μ,h,H⟩ ?_;rintro k r w' ⟨τ,D,p,N⟩;refine wp_mono (ZK x' _ r w' τ D f p (U k τ D N)) ?_;rintro e V X ⟨t,s,q,l⟩;cases e with
   |normal=>obtain⟨S,B,u⟩:=l;exact⟨S,B,t,s,q,u⟩
   |_=>exact⟨t,s,q,l⟩
  |_=>simp[HT]at f
 |_=>
  intro ic Q a w σ μ f h j;cases ic with
  |ic c'=>exact g _ c' Q a w σ μ (by simpa[HT]using f) h j
  |_=>simp[HT]at f
structure FIM where
 c:Y3
 g:Gi
 r:List RV
def rT(P:Program)(fn:Func)(I:FIM):Bool:=
 (match fn.body with
 |some c=>HT P I.g fn.ntmps c I.c
 |none=>false)&&O9 P fn.results.toList I.r&&I.g.rt.all (λx=> !x.2.contains x.1)
theorem lN{I:FIM}{n:AV}(hm:P.follows .mixedOrders=true)(H:P.funcs[f]? =some j)(U:rT P j I=true)(hn:args.length<=j.ntmps)(O:args.all Is=true)(h:Iw P I.g I.c (λe σ _=>Ends I.g I.r n e σ) (start args) (λ_=>none)):Says P f args n:=by
 intro w S ds F NJ JJ L T;subst JJ;simp only[rT,AAD]at U;obtain⟨⟨B,Mo⟩,E⟩:=U;split at B
 . rename_i c u;obtain⟨q,y,hd,z,D⟩:Parts w S ds F:=(by cases L with|BQ _ q _ y hd z D=>exact⟨q,y,hd,z,D⟩);have Q:∀(i:Nat) d,ds[i]? =some d->Is d.er=true:=λi d hi=>(by simp only[AAH]at O;exact O _ (ABH (AAP hi)));refine calls_of_wp H u ?_
   let δ:Nat->DV:=λs=>ds.getD s (.lf .un undef)
   have k:∀s,(∃d,ds[s]? =some d/\δ s=d)\/(ds[s]? =none/\δ s= .lf .un undef):=by
    intro s;cases a:ds[s]? with
    |some d=>exact .inl ⟨d,rfl,by simp[δ,a]⟩
    |none=>exact .inr ⟨rfl,by simp[δ,a]⟩
   have X:St I.g w S δ q:=by
    refine⟨λs=> ?_,λs t x=>hd s t x,λs=> ?_,λs=> ?_,tT E⟩
    . rcases k s with⟨d,a,e⟩|⟨a,e⟩
      . rw[e];exact y s d a
      . rw[e];exact .lf _ _ _ rfl λx p=>by obtain⟨d,hd⟩:=z s x p;rw[a]at hd;cases hd
    . rcases k s with⟨d,a,e⟩|⟨a,e⟩
      . rw[e];exact gO (y s d a).Kt (Q s d a)
      . rw[e];exact .lf _ _ trivial
    . rcases k s with⟨d,a,e⟩|⟨a,e⟩
      . rw[e];exact Zt (Q s d a)
      . rw[e];simp
   have K:(λs=>(δ s).er)=start (ds.map DV.er):=by
    funext s;unfold start;rcases k s with⟨d,a,e⟩|⟨a,e⟩
    . simp[e,a]
    . simp[e,a]
   have xA:ds.length<=j.ntmps:=(by simpa using hn);have Hv:Rel I.g j.ntmps w S F {tmps:=(ds.map DV.A0).toArray++Array.replicate (j.ntmps-(ds.map DV.A0).toArray.size) undef,defers:=[]} w (start (ds.map DV.er)):=(by refine⟨S,δ,q,an,rfl,λs=>XJ ds j.ntmps s,K,X,Nx.less λx ⟨s,p⟩=>(D x).2 ⟨s,p⟩,T⟩);have m:=Jb.start ⟨NJ,λb u=>⟨λH=>L.Et b H u,T b u⟩⟩ Hv;refine wp_mono (nP hm c I.c _ _ w _ _ B m h) ?_;rintro e a' o ⟨σ,μ,J,V⟩;obtain⟨S1,δ1,F1,hn1,M,Qu,rfl,Eu,l,Dz⟩:=J.toRel;have G:=rI V;obtain⟨_,vs,τ,Yx,Sl⟩:=V;obtain⟨Z,FD,g1,g2,g3,g4,_⟩:=JA j.results.toList Eu Qu Mo Yx;have hO:JQ o S1 (ds.map λd=>DV.lf .dead d.A0) (λ_=>False):=(by refine CN λd hd=> ?_;obtain⟨x,_,rfl⟩:=ABO.1 hd;exact .lf _ _ _ trivial (λ_ h=>h));have C:∃v,(results j a'.tmps).run P o= .ok v o/\∃(r:DV)(os:dH)(S' N:de),Ending.returned v= .returned r.A0/\r.er=n/\os.map DV.er=((ds.map DV.er).map λ_=>AV.dead)/\os.map DV.A0=ds.map DV.A0/\
    Ok o S' (.BQ (r::os)) N/\Ext w o F/\(∀b,S b->S' b)/\(∀b,S' b->S b\/F b\/w.heap.size<=b)/\(∀b,S' b->b<o.heap.size)/\(∀x,N x->F x\/w.heap.size<=x):=
    ⟨_,Tj g2,Om Z,ds.map λd=>DV.lf .dead d.A0,S1,FD,rfl,by rw[TD,g1,Sl],ak,ak,A8.2 ⟨FD,λ_=>False,N6 g3,hO,λ_ _ h=>h,λx=>ak⟩,⟨l.os,l.tape,l.output,l.size,l.block⟩,l.sub,l.sup,Dz,λx p=>l.own x (g4 x p)⟩
   obtain⟨v,W,R⟩:=C;rcases G with rfl|rfl
   . exact⟨M,v,W,R⟩
   . exact⟨M,v,W,R⟩
 . cases B
end
variable{s:ABe}
section
variable{P:Program}{G:Gi}
def awpM_ic(c:IC)(Q:Exit->Sg->Mu->Prop)(σ:Sg)(a:Mu):Iw P G (.ic c) Q σ a=Hg P G c (λe σ'=>Q e σ' a) σ:=(rfl)
def u6(a:iv)(Q:Exit->Sg->Mu->Prop)(σ:Sg)(b:Mu):Iw P G (.ZQ a) Q σ b=Og P G a (Q .normal) σ b:=(rfl)
def gR(a b:Y3)(Q:Exit->Sg->Mu->Prop)(σ:Sg)(c:Mu):Iw P G (.seq a b) Q σ c=Iw P G a (Exit.Yf (Iw P G b Q) Q) σ c:=(rfl)
def Ww(c:Ar)(a b:Y3)(Q:Exit->Sg->Mu->Prop)(σ:Sg)(d:Mu):Iw P G (.cond c a b) Q σ d=rX (ar σ c) (Iw P G a Q) (Iw P G b Q) σ d:=(rfl)
def nN(b:Nat)(a:Y3)(Q:Exit->Sg->Mu->Prop)(σ:Sg)(c:Mu):Iw P G (.block b a) Q σ c=Iw P G a (Exit.UD b Q) σ c:=(rfl)
def lQ(next:dM)(Q:Exit->Sg->Mu->Prop)(σ:Sg)(a:Mu):Exit.Yf next Q .normal σ a=next σ a:=(rfl)
def yZ(next:dM)(Q:Exit->Sg->Mu->Prop)(a:Nat)(σ:Sg)(b:Mu):Exit.Yf next Q (.exit a) σ b=Q (.exit a) σ b:=(rfl)
def seqM_ret(next:dM)(Q:Exit->Sg->Mu->Prop)(σ:Sg)(a:Mu):Exit.Yf next Q .ret σ a=Q .ret σ a:=(rfl)
def Y7(b:Nat)(Q:Exit->Sg->Mu->Prop)(σ:Sg)(a:Mu):Exit.UD b Q .normal σ a=Q .normal σ a:=(rfl)
def Uh(b i:Nat)(Q:Exit->Sg->Mu->Prop)(σ:Sg)(a:Mu):Exit.UD b Q (.exit i) σ a=if i=b then Q .normal σ a else Q (.exit i) σ a:=(rfl)
def nT(b:Nat)(Q:Exit->Sg->Mu->Prop)(σ:Sg)(a:Mu):Exit.UD b Q .ret σ a=Q .ret σ a:=(rfl)
def ams_nil(K:dM)(σ:Sg)(a:Mu):Og P G [] K σ a=K σ a:=(rfl)
def ams_x(o:gA)(l:iv)(K:dM)(σ:Sg)(a:Mu):Og P G (.x o::l) K σ a=LG P G [o] (λσ'=>Og P G l K σ' a) σ:=(rfl)
def ams_mkm(d:Dp)(l:iv)(K:dM)(σ:Sg)(a:Mu):Og P G (.mkm d::l) K σ a=∀b,a b=none->C2 (some d) (.sc (.map (some b))) (λσ'=>Og P G l K σ' (DZ a b (some (.mp [])))) σ:=(rfl)
def ams_lkp(g:dq)(d:Dp)(m k:Ar)(l:iv)(K:dM)(σ:Sg)(a:Mu):Og P G (.lkp g d m k::l) K σ a=gM g d (λσ=>lkpK (ar σ m) (ar σ k) a d (λσ'=>Og P G l K σ' a) σ) (λσ'=>Og P G l K σ' a) σ:=(rfl)
def ams_mup(m k v:Ar)(l:iv)(K:dM)(σ:Sg)(a:Mu):Og P G (.mup m k v::l) K σ a=mupK (ar σ m) (ar σ k) (ar σ v) a (λb=>Og P G l K σ b):=(rfl)
def ams_rng(d:Dp)(x:Ar)(l:iv)(K:dM)(σ:Sg)(a:Mu):Og P G (.rng d x::l) K σ a=rngK (ar σ x) d (Og P G l K) σ a:=(rfl)
def ams_nxt(d:Dp)(x:Ar)(l:iv)(K:dM)(σ:Sg)(a:Mu):Og P G (.nxt d x::l) K σ a=nxtK (ar σ x) d (Og P G l K) σ a:=(rfl)
def gM_some(s:Nat)(a:Bool)(d:Dp)(A K:dg)(σ:Sg):gM (some (s,a)) d A K σ=gK (σ s) a A (λσ=>K (DZ (JW d.kl d.d σ) d.d .un)) σ:=(rfl)
def lkpV(x:ABd MO)(s:ABe)(d:Dp)(K:dg)(σ:Sg):Prop:=match x with
 |some (.mp es)=>GJ (MS es s (.bool false))=true/\C2 (some d) (.sc (MS es s (.bool false))) K σ
 |_=>False
def lkpK_at(b:Nat)(s:ABe)(a:Mu)(d:Dp)(K:dg)(σ:Sg):lkpK (.sc (.map (some b))) (.sc (.string s)) a d K σ=lkpV (a b) s d K σ:=(rfl)
def lkpV_mp(a:List (ABe×Value))(s:ABe)(d:Dp)(K:dg)(σ:Sg):lkpV (some (.mp a)) s d K σ=(GJ (MS a s (.bool false))=true/\C2 (some d) (.sc (MS a s (.bool false))) K σ):=(rfl)
def mupV(x:ABd MO)(b:Nat)(s:ABe)(u:Value)(μ:Mu)(K:Mu->Prop):Prop:=match x with
 |some (.mp es)=>es.all (λx=> !(x.1==s))=true/\K (DZ μ b (some (.mp (mY es s u))))
 |_=>False
def mupK_at(b:Nat)(s:ABe)(u:Value)(a:Mu)(K:Mu->Prop):mupK (.sc (.map (some b))) (.sc (.string s)) (.sc u) a K=mupV (a b) b s u a K:=(rfl)
def mupV_mp(a:List (ABe×Value))(b:Nat)(s:ABe)(u:Value)(c:Mu)(K:Mu->Prop):mupV (some (.mp a)) b s u c K=(a.all (λx=> !(x.1==s))=true/\K (DZ c b (some (.mp (mY a s u))))):=(rfl)
def rngK_s(s:ABe)(d:Dp)(K:dM)(σ:Sg)(a:Mu):rngK (.sc (.string s)) d K σ a=∀b,a b=none->C2 (some d) (.sc (.pointer (some ⟨b,0,none⟩))) (λσ'=>K σ' (DZ a b (some (.it s 0)))) σ:=(rfl)
def nxtV(x:ABd MO)(b:Nat)(d:Dp)(K:dM)(σ:Sg)(μ:Mu):Prop:=match x with
 |some (.it s pos)=>if pos<s.size then C2 (some d) (.BQ [.sc (.bool true),.sc (.int .i64 pos),.sc (.int .i32 (Utf8.decode s pos).1)]) (λσ'=>K σ' (DZ μ b (some (.it s (pos+(Utf8.decode s pos).2))))) σ
  else C2 (some d) (.BQ [.sc (.bool false)]) (λσ'=>K σ' μ) σ
 |_=>False
def nxtK_at(b:Nat)(d:Dp)(K:dM)(σ:Sg)(a:Mu):nxtK (.sc (.pointer (some ⟨b,0,none⟩))) d K σ a=nxtV (a b) b d K σ a:=(rfl)
theorem G4(b:Nat)(d:Dp)(K:dM)(σ:Sg)(a:Mu)(h:n<s.size):nxtV (some (.it s n)) b d K σ a=C2 (some d) (.BQ [.sc (.bool true),.sc (.int .i64 n),.sc (.int .i32 (Utf8.decode s n).1)]) (λσ'=>K σ' (DZ a b (some (.it s (n+(Utf8.decode s n).2))))) σ:=by simp[nxtV,h]
theorem Fw(b:Nat)(d:Dp)(K:dM)(σ:Sg)(a:Mu)(h:¬n<s.size):nxtV (some (.it s n)) b d K σ a=C2 (some d) (.BQ [.sc (.bool false)]) (λσ'=>K σ' a) σ:=by simp[nxtV,h]
def uY{a:Y3}{Q:Exit->Sg->Mu->Prop}{f:Mu}(I:ie)(n:Nat)(h:I n σ f)(b:∀n τ g,I n τ g->Iw P G a (Exit.Yf (λd c=>∃e,e<n/\I e d c) Q) τ g):Iw P G (.loop a) Q σ f:=⟨I,⟨n,h⟩,b⟩
attribute [go_sem] awpM_ic u6 gR Ww nN lQ yZ seqM_ret Y7 Uh nT ams_nil ams_x ams_mkm ams_lkp ams_mup ams_rng ams_nxt gM_some lkpK_at lkpV_mp mupK_at mupV_mp rngK_s nxtK_at
end
end Go.Abs
