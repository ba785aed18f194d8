/- A calculus of abstract states of Go memory, and that it is sound. -/
import Derived.Test.YtdojkofgkcmagaaGreatDoorCoreB
import Derived.Scope
import Derived.Laws.Sem
import Derived.Sort.Grow
import Derived.Lib.SlicesCompact
import Derived.Shelf.Slices.SearchI
import Derived.IntWalk
import Derived.MapKept
import Derived.Lib.OthersKept
set_option linter.defProp false
set_option linter.unusedSimpArgs false
set_option linter.unusedVariables false
namespace Go.Abs
variable{l M kl:jh}{n i f:Nat}{o:Oper}{ops:Array Oper}{io:BD}{v out:AV}{b:Bool}{rows r:i6}{args row:i5}{p:i4}{σ σ' τ:Sg}{x y:Ar}
section
variable{G:Gi}{P:iz}{w:ja}
def qO(l:jh):Nat:=l.foldr (λs m=>m |||2^s) 0
theorem xJ(h:n∈l):(qO l).testBit n=true:=by
 induction l with
 |nil=>cases h
 |cons a l ih=>
  simp only[qO,List.foldr_cons,Nat.testBit_or,AAt];simp only[AAr]at h;rcases h with rfl|h
  . simp_all
  . exact .inl (ih h)
theorem LX(h:qO M &&& qO l=0)(c:n∈M)(d:n∈l):False:=by
 have:(qO M &&& qO l).testBit n=true:=by rw[Nat.testBit_and,xJ c,xJ d];rfl
 simp_all
def bef(M:jh)(o:Oper):Nat:=o.after.toList.foldr (λe s=>if Region.binds .any e=true then s |||2^e.on |||M.getD e.on 0 else s) 0
theorem wC(h:(bef M o).testBit i=true):∃e∈o.after.toList,Region.binds .any e=true/\(e.on=i\/(M.getD e.on 0).testBit i=true):=by
 unfold bef at h;generalize o.after.toList=l at h;induction l with
 |nil=>simp at h
 |cons e l ih=>grind
def TJ:List Oper->List Nat->List Nat
 |[],M=>M
 |o::os,M=>TJ os (M++[bef M o])
def UD(M Ws Rs:jh)(j:Nat):Nat->Bool
 |0=>true
 |i+1=>((Ws.getD i 0 &&& Rs.getD j 0==0&&Rs.getD i 0 &&& Ws.getD j 0==0)||(M.getD j 0).testBit i)&&UD M Ws Rs j i
theorem bZ(h:UD M l kl f n=true):∀i,i<n->(l.getD i 0 &&& kl.getD f 0=0/\kl.getD i 0 &&& l.getD f 0=0)\/(M.getD f 0).testBit i=true:=by
 induction n with
 |zero=>omega
 |succ n ih=>simp only[UD,AAT,AAt,AAh]at h;grind
def Uu(M Ws Rs:jh):Nat->List Oper->Bool
 |_,[]=>true
 |j,o::os=>M.getD j 0==bef M o&&(o.after.toList.all λe=> !Region.binds .any e||decide (e.on<j))&&UD M Ws Rs j j&&Uu M Ws Rs (j+1) os
theorem Uv(os:List Oper):∀{j0:Nat},Uu M l kl j0 os=true->∀i o,os[i]? =some o->M.getD (j0+i) 0=bef M o/\(∀e∈o.after.toList,Region.binds .any e=true->e.on<j0+i)/\∀x,x<j0+i->(l.getD x 0 &&& kl.getD (j0+i) 0=0/\kl.getD x 0 &&& l.getD (j0+i) 0=0)\/(M.getD (j0+i) 0).testBit x=true:=by
 induction os with
 |nil=>simp_all
 |cons o os ih=>
  intro j0 h i o' a;simp only[Uu,AAT,AAh,AAY,AAt,ABG,AAl]at h;obtain⟨⟨⟨d,f⟩,g⟩,j⟩:=h;cases i with
  |zero=>simp only[ABA,AAU]at a;subst a;refine⟨d,λe c k=>(f e c).resolve_left (by simp[k]),bZ g⟩
  |succ i=>
   simp only[ABN]at a
   have:=ih j i o' a;grind
def wOf(G:Gi)(Ce:jG)(j:Nat):List Nat:=match Ce[j]? with|some o=>T4 G o|none=>[]
theorem eJ(os:List Oper):∀{a:jG},MN P G n ops os a=true->os.length=a.length/\∀(i:Nat) o io,os[i]? =some o->a[i]? =some io->Hl P G n ops o io=true:=by
 induction os with
 |nil=>intro a h;cases a<;>simp[MN]at h |-
 |cons o os ih=>
  intro a h;cases a with
  |nil=>simp[MN]at h
  |cons io a=>simp only[MN,AAT]at h;grind
theorem eL{p p':js}(h:∀j,p' j=true->p j=true){i:Nat}(a:p i=true)(b:p' i=false):∀N,i<N->(List.range N).countP p'<(List.range N).countP p:=by
 have le:∀N,(List.range N).countP p'<=(List.range N).countP p:=λN=>List.countP_mono_left (λj _=>h j);intro N;induction N with
 |zero=>omega
 |succ N ih=>intro hi;rw[List.range_succ,List.countP_append,List.countP_append];grind
theorem TL(h:Hl P G n ops o io=true):∀d,io.dst=some d->d.rs=G.HA d.d:=by
 intro d hd;simp only[Hl,AAT]at h;have a:=h.1.1;rw[hd]at a;cases ho:o.dst with
 |none=>rw[ho]at a;simp[D5]at a
 |some t=>rw[ho]at a;simp only[D5,AAT,AAh]at a;grind
mutual
def Pc:AV->AV
 | .sc _=>.un
 | .own b k rows=>.own b k (skR rows)
 | .agg cs=>.agg (vB cs)
 | .BZ cs=>.BZ (vB cs)
 |a=>a
def vB:List AV->List AV
 |[]=>[]
 |a::r=>Pc a::vB r
def skR:List (List AV)->List (List AV)
 |[]=>[]
 |a::r=>vB a::skR r
end
theorem vD(l:i5):vB l=l.map Pc:=by
 induction l with
 |nil=>rfl
 |cons a r ih=>simp[vB,ih]
theorem kS(l:i6):skR l=l.map vB:=by
 induction l with
 |nil=>rfl
 |cons a r ih=>simp[skR,ih]
def JN:AV->AV
 | .sc v=>.sc v
 |a=>Pc a
theorem VW(h:JN out=JN v):Pc out=Pc v:=by cases v<;>cases out<;>simp only[JN,Pc]at h |- <;>first|rfl|exact h|cases h
theorem Nr(h:JN out=JN v)(c:match v with| .own .. | .agg _| .BZ _=>False|_=>True):out=v:=by cases v<;>first|exact c.elim| (cases out<;>simp only[JN,Pc]at h<;>first|rfl|exact h|cases h)
theorem VV(h:Pc v= .own b n rows):∃c,v= .own b n c/\skR c=rows:=by cases v<;>simp only[Pc]at h<;>first|simp_all|simp_all
theorem skC_sl(h:Pc v= .sl b n rows):v= .sl b n rows:=by cases v<;>simp only[Pc]at h<;>first|exact h|cases h
theorem xV(h:skR rows=skR r):rows.length=r.length:=by have:=congrArg List.length h;simpa[kS]using this
theorem skR_at(h:skR rows=skR r)(i:Nat):(rows[i]?).map vB=(r[i]?).map vB:=by have:=congrArg (·[i]?) h;simpa[kS]using this
theorem skL_at(h:vB row=vB args)(i:Nat):(row[i]?).map Pc=(args[i]?).map Pc:=by have:=congrArg (·[i]?) h;simpa[vD]using this
theorem sub_sk(p:i4):∀{a d:AV},Pc d=Pc a->(sub d p).map Pc=(sub a p).map Pc:=by
 induction p with
 |nil=>intro a d h;simp[sub,h]
 |cons s p ih=>
  obtain⟨i,j,t⟩:=s;intro a d h;have f:∀{g e:i5},vB e=vB g->(match e[j]? with|some c=>sub c p|none=>none).map Pc=(match g[j]? with|some c=>sub c p|none=>none).map Pc:=by
   intro g e q
   have:=skL_at q j;cases h1:g[j]? with
   |none=>rw[h1]at this;simp at this;simp[this]
   |some c=>rw[h1]at this;simp only[Option.map_some]at this;obtain⟨c',l,m⟩:=Option.map_eq_some_iff.1 this;simp only[l];exact ih m
  cases a with
  |own b k rows=>
   obtain⟨n,rfl,r⟩:=VV h;simp only[sub]
   have:=skR_at r i;cases h1:rows[i]? with
   |none=>rw[h1]at this;simp at this;simp[this]
   |some row=>rw[h1]at this;simp only[Option.map_some]at this;obtain⟨o,l,m⟩:=Option.map_eq_some_iff.1 this;simp only[l];exact f m
  |agg g=>cases d<;>simp only[Pc,AV.agg.injEq,reduceCtorEq]at h;simp only[sub];exact f h
  |BZ g=>cases d<;>simp only[Pc,AV.BZ.injEq,reduceCtorEq]at h;simp only[sub];exact f h
  |_=>cases d<;>simp only[Pc]at h<;>first|rfl|cases h
theorem put_sk(q:i4):∀{a t:AV}{h u:jn},sub a q=some (.sc h)->put a q (.sc u)=some t->Pc t=Pc a:=by
 induction q with
 |nil=>intro a t h u e d;simp only[sub,Option.some.injEq]at e;simp only[put,Option.some.injEq]at d;subst e;subst d;rfl
 |cons s q ih=>
  obtain⟨i,j,n⟩:=s;have g:∀{f:i5}{c c':AV},f[j]? =some c->Pc c'=Pc c->vB (f.set j c')=vB f:=by
   intro f c c' e d;rw[vD,vD,List.map_set,d];obtain⟨l,rfl⟩:=List.getElem?_eq_some_iff.1 e;apply List.ext_getElem?;intro m;rw[List.getElem?_set];split
   . grind
   . rfl
  intro a t h u e d;cases a with
  |own b k rows=>
   simp only[sub]at e;simp only[put]at d;cases hr:rows[i]? with
   |none=>simp_all
   |some row=>
    rw[hr]at e d;simp only at e d;cases hc:row[j]? with
    |none=>simp_all
    |some c=>
     rw[hc]at e d;simp only at e d;cases hp:put c q (.sc u)with
     |none=>simp_all
     |some c'=>rw[hp]at d;obtain rfl:=Option.some.inj d;simp only[Pc,AV.own.injEq,true_and];rw[kS,kS,List.map_set,g hc (ih e hp)];obtain⟨hi,rfl⟩:=List.getElem?_eq_some_iff.1 hr;apply List.ext_getElem?;grind
  |agg f=>
   simp only[sub]at e;simp only[put]at d;cases hc:f[j]? with
   |none=>simp_all
   |some c=>
    rw[hc]at e d;simp only at e d;cases hp:put c q (.sc u)with
    |none=>simp_all
    |some c'=>rw[hp]at d;obtain rfl:=Option.some.inj d;simp only[Pc,AV.agg.injEq];grind
  |BZ f=>
   simp only[sub]at e;simp only[put]at d;cases hc:f[j]? with
   |none=>simp_all
   |some c=>
    rw[hc]at e d;simp only at e d;cases hp:put c q (.sc u)with
    |none=>simp_all
    |some c'=>rw[hp]at d;obtain rfl:=Option.some.inj d;simp only[Pc,AV.BZ.injEq];grind
  |_=>simp[sub]at e
theorem sub_snoc(p:i4):∀{a:AV}{b:Bool}{k:Nat}{rows:i6}{row:i5}{c:AV}{i j d:Nat},sub a p=some (.own b k rows)->rows[i]? =some row->row[j]? =some c->sub a (p++[(i,j,d)])=some c:=by
 induction p with
 |nil=>intro a b k rows row c i j d h e f;simp only[sub,Option.some.injEq]at h;subst h;simp[sub,e,f]
 |cons s p ih=>
  obtain⟨i0,j0,g⟩:=s;intro a b k rows row c i j d h e f;cases a with
  |own b0 k1 MB=>
   simp only[List.cons_append,sub]at h |-;cases hr:MB[i0]? with
   |none=>simp_all
   |some r0=>grind
  |agg cs=>
   simp only[List.cons_append,sub]at h |-;cases hc:cs[j0]? with
   |none=>simp_all
   |some c0=>grind
  |BZ cs=>
   simp only[List.cons_append,sub]at h |-;cases hc:cs[j0]? with
   |none=>simp_all
   |some c0=>grind
  |_=>simp[sub]at h
def SkA(G:Gi)(σ σ':Sg):Ar->Prop
 | .t s=>(∀r∈Gy G (.t s),JN (σ' r)=JN (σ r))/\GL (G.HA s) (σ s)=true
 | .c _=>True
theorem kW(h:JN out=JN v)(g:sub v p=some (.own b n rows)):∃d,sub out p=some (.own b n d)/\skR d=skR rows:=by have:=sub_sk p (VW h);rw[g]at this;simp only[Option.map_some,Pc]at this;obtain⟨c,i,f⟩:=Option.map_eq_some_iff.1 this;obtain⟨d,rfl,j⟩:=VV f;simp_all
theorem sub_slS(h:JN out=JN v)(g:sub v p=some (.sl b n rows)):sub out p=some (.sl b n rows):=by have:=sub_sk p (VW h);rw[g]at this;simp only[Option.map_some,Pc]at this;obtain⟨c,e,f⟩:=Option.map_eq_some_iff.1 this;rw[skC_sl f]at e;exact e
theorem mE(h:SkA G σ σ' x){v:Nat×List Step×Nat×Nat×Nat}(a:ER σ x=some v):ER σ' x=some v/\JN (σ' v.1)=JN (σ v.1):=by
 cases x with
 |c=>cases a
 |t s=>
  obtain⟨l,f⟩:=h;have g:=l s (by simp[Gy]);simp only[ER]at a |-;cases hs:σ s with
  |own b k rows=>rw[hs]at a g;obtain⟨d,o,_⟩:=VV (show Pc (σ' s)= .own b k (skR rows)from by have:=VW g;simpa[Pc]using this);grind
  |al r p=>
   rw[hs]at a g f;have e:=Nr g trivial;rw[e];simp only[K7,List.contains_iff_mem]at f;have m:=l r (by simp[Gy,f]);simp only at a |-;split at a
   . rename_i k rows n;obtain⟨d,q,_⟩:=kW m n;grind
   . cases a
  |Lm r p i j k=>rw[hs]at a g f;have e:=Nr g trivial;rw[e];simp only[YK,List.contains_iff_mem]at f;have m:=l r (by simp[Gy,f]);grind
  |_=>simp_all
theorem sk_fad(h:SkA G σ σ' x)(a:valOf (.Wc n x) σ=some v):valOf (.Wc n x) σ'=some v:=by
 cases x with
 |c=>cases a
 |t s=>
  have b:=h.1 s (by simp[Gy]);simp only[valOf]at a |-;cases hs:σ s with
  |fp d=>rw[hs]at a b;rw[Nr b trivial];exact a
  |vb q o f=>rw[hs]at a b;rw[Nr b trivial];exact a
  |_=>
   rw[hs]at a;simp only at a;cases ha:ER σ (.t s)with
   |none=>simp_all
   |some q=>rw[ha]at a;obtain⟨i,_⟩:=mE h ha;have hn:∀d,σ' s≠ .fp d:=λd e=>(by rw[e,hs]at b;simp[JN,Pc]at b);have g:∀q o f,σ' s≠ .vb q o f:=λq o f e=>(by rw[e,hs]at b;simp[JN,Pc]at b);simp_all
theorem sk_lda(h:SkA G σ σ' x)(a:valOf (.ZX x) σ=some v):valOf (.ZX x) σ'=some v:=by
 simp only[valOf]at a |-;split at a
 . rename_i r p i j k s;obtain⟨g,g2⟩:=mE h s;rw[g];simp only at g2 |-;split at a
   . rename_i b B rows f;obtain⟨c,l,m⟩:=kW g2 f;rw[l];simp only;split at a
     . rename_i row u
       have:=skR_at m i;rw[u]at this;obtain⟨e,n,o⟩:=Option.map_eq_some_iff.1 this;rw[n];simp only;split at a
       . rename_i y C w t
         have:=skL_at o j;rw[t]at this;simp only[Option.map_some,Pc]at this;obtain⟨c',z,q⟩:=Option.map_eq_some_iff.1 this;obtain⟨d,rfl,_⟩:=VV q;simp_all
       . cases a
     . cases a
   . cases a
 . cases a
theorem sk_iad(h:SkA G σ σ' x)(B:SkA G σ σ' y)(q:valOf (.ZG n x y) σ=some v):valOf (.ZG n x y) σ'=some v:=by
 simp only[valOf]at q |-;have hi:∀k,rL (ar σ y)=some k->rL (ar σ' y)=some k:=by
  intro k hn;cases y with
  |c=>exact hn
  |t s=>
   have f:=B.1 s (by simp[Gy]);simp only[ar]at hn |-;cases hs:σ s with
   |sc u=>rw[hs]at hn f;rw[Nr f trivial];exact hn
   |_=>rw[hs]at hn;cases hn
 split at q
 . rename_i w rows r p k e hn;rw[hi k hn];have:∃d,hd σ' x=some (.own false w d,some (r,p))/\d.length=rows.length:=by
    cases x with
    |c a=>cases a<;>simp[hd]at e
    |t s=>
     have f:=h.1 s (by simp[Gy]);have g:=h.2;simp only[hd]at e |-;cases hs:σ s with
     |own b0 k0 MB=>rw[hs]at e f;simp only[Option.some.injEq,Prod.mk.injEq,AV.own.injEq]at e;obtain⟨⟨rfl,rfl,rfl⟩,rfl,rfl⟩:=e;obtain⟨d,i,C⟩:=VV (show Pc (σ' s)= .own false k0 (skR MB)from by have:=VW f;simpa[Pc]using this);rw[i];exact⟨d,rfl,xV C⟩
     |al r0 p0=>
      rw[hs]at e f g;rw[Nr f trivial];simp only[K7,List.contains_iff_mem]at g;have l:=h.1 r0 (by simp[Gy,g]);simp only at e |-;split at e
      . rename_i m j;simp only[Option.some.injEq,Prod.mk.injEq]at e;obtain⟨rfl,rfl,rfl⟩:=e;obtain⟨d,z,g2⟩:=kW l j;rw[z];exact⟨d,rfl,xV g2⟩
      . cases e
     |_=>simp_all
   grind
 . rename_i b w rows o k e hn;rw[hi k hn];have:∃o',hd σ' x=some (.sl b w rows,o'):=by
    cases x with
    |c a=>cases a<;>simp[hd]at e
    |t s=>
     have f:=h.1 s (by simp[Gy]);have g:=h.2;simp only[hd]at e |-;cases hs:σ s with
     |sl b0 k0 MB=>rw[hs]at e f;rw[Nr f trivial];simp_all
     |al r0 p0=>
      rw[hs]at e f g;rw[Nr f trivial];simp only[K7,List.contains_iff_mem]at g;have l:=h.1 r0 (by simp[Gy,g]);simp only at e |-;split at e
      . rename_i m j;simp only[Option.some.injEq,Prod.mk.injEq]at e;obtain⟨rfl,_⟩:=e;rw[sub_slS l j];simp_all
      . cases e
     |_=>simp_all
   grind
 . cases q
def W2(G:Gi)(o:BD):List Nat:=match o.op,o.guard,o.dst with
 | .YM a _,none,none=>(Gy G a).map λs=>2*s+1
 |_,_,_=>(T4 G o).flatMap λs=>[2*s,2*s+1]
def R2(G:Gi)(o:BD):List Nat:=W2 G o++(match o.op,o.guard,o.dst with
 | .YM _ v,none,none=>(Gy G v).map λs=>2*s+1
 | .Wc _ x,none,some _=>(Gy G x).map λs=>2*s
 | .ZX x,none,some _=>(Gy G x).map λs=>2*s
 | .ZG _ x i,none,some _=>(Gy G x++Gy G i).map λs=>2*s
 |_,_,_=>(kI G o).map λs=>2*s+1)
theorem jT:2*n+1∈(l.flatMap λn=>[2*n,2*n+1])↔n∈l:=aS
theorem Rm(s:Nat):Jl kl n σ s=if s∈kl then Dv n (σ s)else σ s:=by unfold Jl;cases kl<;>simp
theorem wr_both{d:D3}(f:∀s∈d.kl,σ' s=σ s)(c:wr d v σ=some τ):∃a,wr d v σ'=some a/\(∀s∈d.d::d.kl,a s=τ s)/\∀s,s∉d.d::d.kl->a s=σ' s:=by
 unfold wr at c |-;split at c
 . rename_i g;obtain rfl:=Option.some.inj c;rw[if_pos g];refine⟨_,rfl,λs b=> ?_,λs b=> ?_⟩
   . by_cases e:s=d.d
     . subst e;simp[Dn]
     . have:s∈d.kl:=(by simpa[e]using b);rw[Br _ _ e,Br _ _ e,Rm,Rm,f s this]
   . simp only[List.mem_cons,not_or]at b;rw[Br _ _ b.1,Rm,if_neg b.2]
 . cases c
theorem TE(F:N5 io=true)(H:∀d,io.dst=some d->d.rs=G.HA d.d)(E:∀s,GL (G.HA s) (σ s)=true)(D:∀s,2*s+1∈R2 G io->σ' s=σ s)(T:∀s,2*s∈R2 G io->JN (σ' s)=JN (σ s))(l:Jo P G io (· =τ) σ):
 ∃b,Jo P G io (· =b) σ'/\(∀s,2*s+1∈W2 G io->b s=τ s)/\∀s,2*s+1∉W2 G io->b s=σ' s:=by
 have q:W2 G io=((T4 G io).flatMap λs=>[2*s,2*s+1])->(∀s,s∈kI G io->2*s+1∈R2 G io)->∃b,Jo P G io (· =b) σ'/\(∀s,2*s+1∈W2 G io->b s=τ s)/\∀s,2*s+1∉W2 G io->b s=σ' s:=by
  intro C M;obtain⟨b,L,g2⟩:=dZ F H (⟨λs e=>D s (M s e),λs _=>E s⟩:Ag G (· ∈kI G io) σ σ') l;refine⟨b,L,λs e=> ?_,λs e=> ?_⟩
  . rw[C,jT]at e;exact g2.ag.eq s e
  . rw[C,jT]at e;exact(g2.off s e).1
 have f:∀d op,io=⟨some d,op,none⟩->takes op=[]->W2 G io=((T4 G io).flatMap λs=>[2*s,2*s+1])->(∀K σ,EE P G ⟨some d,op,none⟩ K σ=match(match valOf op σ with|some v=>wr d v σ|none=>none)with|some τ=>K τ|none=>False)->
  (∀v,valOf op σ=some v->valOf op σ'=some v)->∃b,Jo P G io (· =b) σ'/\(∀s,2*s+1∈W2 G io->b s=τ s)/\∀s,2*s+1∉W2 G io->b s=σ' s:=by
  intro d op N U W O B0;have I:T4 G io=d.d::d.kl:=by subst N;simp[T4,U]
  subst N;simp only[Jo]at l |-;rw[O]at l;cases m:valOf op σ with
  |none=>simp_all
  |some v=>
   rw[m]at l;simp only at l;cases hwv:wr d v σ with
   |none=>simp_all
   |some Z=>
    rw[hwv]at l;simp only at l;subst l;obtain⟨b,L,g2,g3⟩:=wr_both (σ':=σ') (λs e=>D s (by simp only[R2,List.mem_append];grind)) hwv;refine⟨b,?_,λs e=> ?_,λs e=> ?_⟩
    . simp_all
    . rw[W,jT,I]at e;grind
    grind
 obtain⟨dst,op,guard⟩:=io;have n:∀x:Ar,(∀s∈Gy G x,2*s∈R2 G ⟨dst,op,guard⟩)->SkA G σ σ' x:=by
  intro x X;cases x with
  |c=>trivial
  |t s=>exact⟨λr w=>T r (X r w),E s⟩
 cases guard with
 |some g=>exact q (by cases op<;>rfl) (λs e=>by cases op<;>(simp only[R2,List.mem_append,List.mem_map];grind))
 |none=>
  cases dst with
  |none=>
   cases op with
   |YM a v=>
    simp only[Jo,EE]at l |-;have m:ar σ' v=ar σ v:=by
     cases v with
     |c=>rfl
     |t s=>exact D s (by simp[R2,Gy])
    have z:∀s∈Gy G a,σ' s=σ s:=λs e=>D s (by simp only[R2,W2,List.mem_append,List.mem_map];grind);have y:Ag G (· ∈Gy G a) σ σ':=⟨z,λs _=>E s⟩;have Q:cOK a=true:=(by simp only[N5,takes,Bool.and_eq_true,List.all_eq_true]at F;exact F.1 a (by simp));have B:WU G (· ∈Gy G a) a:=by
     cases a with
     |c c=>exact Q
     |t s=>exact⟨by simp[Gy],λr w=>by simp[Gy,w]⟩
    split at l
    . rename_i Z h;subst l;simp only[G8]at h |-;rw[m,y.ER B];split at h
      . rename_i u V;split at h
        . rename_i r p i j k R;have w:r∈Gy G a:=y.Oy B R;rw[z r w];split at h
          . rename_i b0 k0 rows CU;split at h
            . rename_i row FP;split at h
              . rename_i u0 S;split at h
                . rename_i t CX;cases h;refine⟨Dn σ' r t,rfl,λs e=> ?_,λs e=> ?_⟩
                  . have J:s∈Gy G a:=(by simp only[W2,List.mem_map]at e;obtain⟨x,C,M⟩:=e;have:x=s:=ah;exact this▸C);simp only[Dn];simp_all
                  . have J:s≠r:=(by rintro rfl;apply e;simp only[W2,List.mem_map];exact⟨s,w,rfl⟩);rw[Br _ _ J]
                . cases h
              . cases h
            . cases h
          . cases h
        . cases h
      . cases h
    simp_all
   |_=>exact q rfl (λs e=>by simp only[R2,List.mem_append,List.mem_map];grind)
  |some d=>
   cases op with
   |Wc off x=>exact f d _ rfl rfl rfl (λK σ=>rfl) (λv m=>sk_fad (n x λs e=>by simp only[R2,List.mem_append,List.mem_map];grind) m)
   |ZX x=>exact f d _ rfl rfl rfl (λK σ=>rfl) (λv m=>sk_lda (n x λs e=>by simp only[R2,List.mem_append,List.mem_map];grind) m)
   |ZG k x i=>exact f d _ rfl rfl rfl (λK σ=>rfl) (λv m=>sk_iad (n x λs e=>by simp only[R2,List.mem_append,List.mem_map];grind) (n i λs e=>by simp only[R2,List.mem_append,List.mem_map];grind) m)
   |_=>exact q rfl (λs e=>by simp only[R2,List.mem_append,List.mem_map];grind)
theorem Ln(q:N5 io=true)(z:∀d,io.dst=some d->d.rs=G.HA d.d)(C:∀s,GL (G.HA s) (σ s)=true)(m:Jo P G io (· =τ) σ):
 (∀s,2*s+1∉W2 G io->τ s=σ s)/\(∀s,2*s∉W2 G io->JN (τ s)=JN (σ s))/\∀s,GL (G.HA s) (τ s)=true:=by
 have E:=aop_off q z C m;have f:W2 G io=((T4 G io).flatMap λs=>[2*s,2*s+1])->(∀s,2*s+1∉W2 G io->τ s=σ s)/\(∀s,2*s∉W2 G io->JN (τ s)=JN (σ s))/\∀s,GL (G.HA s) (τ s)=true:=by
  intro l;refine⟨λs B=> ?_,λs B=> ?_,E.2⟩
  . grind
  . grind
 obtain⟨dst,op,guard⟩:=io;cases guard with
 |some g=>exact f (by cases op<;>rfl)
 |none=>
  cases dst with
  |some d=>exact f (by cases op<;>rfl)
  |none=>
   cases op with
   |YM a v=>
    simp only[Jo,EE]at m;split at m
    . rename_i Q b;subst m;simp only[G8]at b;split at b
      . rename_i u L;split at b
        . rename_i r p i j k K;have J:cOK a=true:=(by simp only[N5,takes,Bool.and_eq_true,List.all_eq_true]at q;exact q.1 a (by simp));have n:Ag G (· ∈Gy G a) σ σ:=⟨λ_ _=>rfl,λs _=>C s⟩;have x:WU G (· ∈Gy G a) a:=by
           cases a with
           |c c=>exact J
           |t s=>exact⟨by simp[Gy],λr F=>by simp[Gy,F]⟩
          have F:r∈Gy G a:=n.Oy x K;split at b
          . rename_i M N rows h;split at b
            . rename_i row I;split at b
              . rename_i O w;split at b
                . rename_i t H;cases b;refine⟨λs B=> ?_,λs _=> ?_,E.2⟩
                  . rw[Br];rintro rfl;apply B;simp only[W2,List.mem_map];grind
                  . by_cases e:s=r
                    . subst e;rw[BW];have l:=put_sk _ (sub_snoc p h I w) H;have D:∀u,σ s≠ .sc u:=λu e=>by
                       rw[e]at h;cases p with
                       |nil=>simp[sub]at h
                       |cons=>simp[sub]at h
                      have y:∀u,t≠ .sc u:=λu e=>by subst e;cases hσ:σ s<;>rw[hσ]at l h<;>first|exact absurd hσ (D _)| (cases p<;>simp[sub]at h;done)| (simp[Pc]at l;done)
                      cases hσ:σ s<;>first|exact absurd hσ (D _)| (rw[hσ]at l;cases t<;>first|exact absurd rfl (y _)|exact l)
                    . rw[Br _ _ e]
                . cases b
              . cases b
            . cases b
          . cases b
        . cases b
      . cases b
    simp_all
   |_=>exact f rfl
def Mq(G:Gi)(ops:List Oper)(Ce:jG):Bool:=
 Ce.all N5&&Uu (TJ ops []) (Ce.map λo=>qO (W2 G o)) (Ce.map λo=>qO (R2 G o)) 0 ops
def HS(G:Gi)(Ce:jG)(j:Nat):List Nat:=match Ce[j]? with|some o=>W2 G o|none=>[]
def Xe(G:Gi)(Ce:jG)(j:Nat):List Nat:=match Ce[j]? with|some o=>R2 G o|none=>[]
end
variable{w0:ja}{S0 U0 F:iu}{K:iv}{X:jG}{a:Act}{L:js}{H:nj}{δ:ji}{Fr:iy}{D:DV}{Q:Exit->Act->World->Prop}{u:jn}{J B:Act->World->Prop}
section
variable{G:Gi}{P:iz}{w:ja}
theorem UI(Q:Exit->Act->World->Prop){w:ja}(h:Rel G n w0 S0 U0 a w σ)(hN:X.length=ops.size)(B:∀(i:Nat)(o:Oper)(io:BD),ops.toList[i]? =some o->X[i]? =some io->∀d:D3,io.dst=some d->d.rs=G.HA d.d)(hd:Mq G ops.toList X=true)(q:Nat->Sg)(hq0:q 0=σ)(Hf:∀i io,X[i]? =some io->Jo P G io (· =q (i+1)) (q i))(hK:K (q X.length))(J:(Nat->Bool)->Act->World->Prop)(hQ:∀(L:js) a w σ,(∀j,j<ops.size->L j=true)->J L a w->Rel G n w0 S0 U0 a w σ->K σ->Q .normal a w)(hJ0:J (λj=>(Array.replicate ops.size false).getD j true) a w)(hS:∀(L:js)(i:Nat) o io a w σ E,ops[i]? =some o->X[i]? =some io->i<ops.size->L i=false->(∀x,((TJ ops.toList []).getD i 0).testBit x=true->L x=true)->(∀j,j<ops.size->L j=true->∀x,((TJ ops.toList []).getD j 0).testBit x=true->L x=true)->
  J L a w->Rel G n w0 S0 U0 a w σ->Jo P G io (· =E) σ->(∀s,E s=q (GA (λj=>(L j||j==i)) (HS G X) (2*s+1) ops.size) s)->wpOp P ops Q i (λa' w'=>(∃σ',Rel G n w0 S0 U0 a' w' σ'/\σ'=E)/\J (λj=>(L j||j==i)) a' w') a w):
 wpAny P .any ops Q ops.size (Array.replicate ops.size false) a w:=by
 simp only[Mq,AAT,AAY]at hd;obtain⟨F9,LJ⟩:=hd;generalize hM:TJ ops.toList []=M at LJ hS;have Ps:=Uv _ LJ;simp only[ABW]at Ps;have N:∀i,i<ops.size->∃o io,ops[i]? =some o/\ops.toList[i]? =some o/\X[i]? =some io:=by intro i hi;refine⟨ops[i],X[i]' ah,?_,?_,?_⟩<;>simp[hi,hN]
 -- the states of the text's order
 have hwf:∀i,i<=ops.size->∀s,GL (G.HA s) (q i s)=true:=by
  intro i;induction i with
  |zero=>intro _ s;rw[hq0];obtain⟨S,δ,Fr,_,_,_,rfl,CX,_⟩:=h;exact CX.rt s
  |succ i ih=>intro hi;obtain⟨o,io,t,u,k⟩:=N i ah;exact(Ln (F9 io (AAg k)) (B i o io u k) (ih ah) (Hf i io k)).2.2
 have Z:∀j s,j<ops.size->2*s+1∉HS G X j->q (j+1) s=q j s:=by intro j s l r;obtain⟨o,io,t,u,k⟩:=N j l;exact(Ln (F9 io (AAg k)) (B j o io u k) (hwf j ah) (Hf j io k)).1 s (by simpa[HS,k]using r)
 have z:∀j s,j<ops.size->2*s∉HS G X j->JN (q (j+1) s)=JN (q j s):=by intro j s l r;obtain⟨o,io,t,u,k⟩:=N j l;exact(Ln (F9 io (AAg k)) (B j o io u k) (hwf j ah) (Hf j io k)).2.1 s (by simpa[HS,k]using r)
 -- the states with their skeletons beside them
 let Q2:Nat->Sg:=λj x=>if x%2=1 then q j (x/2)else JN (q j (x/2))
 have dV:∀j s,Q2 j (2*s+1)=q j s:=λj s=>by
  show(if(2*s+1)%2=1 then q j ((2*s+1)/2)else JN (q j ((2*s+1)/2)))=q j s
  rw[AAb ah,show(2*s+1)/2=s from by omega]
 have gU:∀j s,Q2 j (2*s)=JN (q j s):=λj s=>by
  show(if(2*s)%2=1 then q j ((2*s)/2)else JN (q j ((2*s)/2)))=JN (q j s)
  simp_all
 have UW:∀j x,j<ops.size->x∉HS G X j->Q2 (j+1) x=Q2 j x:=by
  intro j x l F;obtain⟨s,rfl|rfl⟩:∃s,x=2*s\/x=2*s+1:=⟨x/2,ah⟩
  . rw[gU,gU];exact z j s l F
  . rw[dV,dV];exact Z j s l F
 have hWs:∀j,j<ops.size->(X.map λo=>qO (W2 G o)).getD j 0=qO (HS G X j):=by intro j l;obtain⟨o,io,t,u,k⟩:=N j l;simp[List.getD_eq_getElem?_getD,HS,k]
 have hRs:∀j,j<ops.size->(X.map λo=>qO (R2 G o)).getD j 0=qO (Xe G X j):=by intro j l;obtain⟨o,io,t,u,k⟩:=N j l;simp[List.getD_eq_getElem?_getD,Xe,k]
 have hWR:∀j s,s∈HS G X j->s∈Xe G X j:=by
  intro j s r;cases k:X[j]? with
  |none=>simp[HS,k]at r
  |some io=>simp only[HS,Xe,k]at r |-;simp only[R2,AAo];grind
 have T:∀j s,2*s∈HS G X j->2*s+1∈HS G X j:=by
  intro j s r;cases k:X[j]? with
  |none=>simp[HS,k]at r
  |some io=>simp only[HS,k]at r |-;unfold W2 at r |-;grind
 -- pairs that meet are ordered
 have y:∀i j s,i<j->j<ops.size->(s∈HS G X i/\s∈Xe G X j)\/(s∈Xe G X i/\s∈HS G X j)->(M.getD j 0).testBit i=true:=by
  intro i j s KC l r;obtain⟨o,io,t,u,k⟩:=N j l;rcases(Ps j o u).2.2 i KC with⟨g1,g2⟩|g
  . rw[hWs i ah,hRs j l]at g1;rw[hRs i ah,hWs j l]at g2;rcases r with r|r
    . exact(LX g1 r.1 r.2).elim
    . exact(LX g2 r.1 r.2).elim
  . exact g
 -- any order
 have main:∀(fuel:Nat)(b:Array Bool)(a:Act)(w:ja),b.size=ops.size->(List.range ops.size).countP (λi=> !b.getD i true)<=fuel->
  (∀j,j<ops.size->b.getD j true=true->∀i,(M.getD j 0).testBit i=true->b.getD i true=true)->
  (∃σ,Rel G n w0 S0 U0 a w σ/\∀s,σ s=q (GA (λj=>b.getD j true) (HS G X) (2*s+1) ops.size) s)->J (λj=>b.getD j true) a w->wpAny P .any ops Q fuel b a w:=by
  have done:∀(b:Array Bool)(a:Act)(w:ja),(∀j,j<ops.size->b.getD j true=true)->J (λj=>b.getD j true) a w->(∃σ,Rel G n w0 S0 U0 a w σ/\∀s,σ s=q (GA (λj=>b.getD j true) (HS G X) (2*s+1) ops.size) s)->Q .normal a w:=by
   rintro b a w V hJ ⟨σ,t,u⟩;have:σ=q ops.size:=by
    funext s;rw[u s]
    have:=lastW_all V UW (2*s+1) _ (AAv _);rw[dV,dV]at this;exact this
   subst this;exact hQ _ a w _ V hJ t (by rw[<- hN];exact hK)
  intro fuel;induction fuel with
  |zero=>
   intro b a w Pt hcnt LF CX hJ;have V:∀j,j<ops.size->b.getD j true=true:=by
    intro j l;have W:(List.range ops.size).countP (λi=> !b.getD i true)=0:=ah;rw[List.countP_eq_zero]at W
    have:=W j (by simp[l]);simpa using this
   refine⟨?_,done b a w V hJ CX⟩;simp only[Region.ready,List.filter_eq_nil_iff,ABo];intro j l;simp[V j l]
  |succ fuel ih=>
   intro b a w Pt hcnt LF CX hJ;refine⟨λtS=> ?_,λi hi=> ?_⟩
   . refine done b a w ?_ hJ CX;intro j;induction j using Nat.strongRecOn with
     |_ j ihj=>
      intro l;cases v:b.getD j true with
      |true=>rfl
      |false=>
       exfalso;obtain⟨o,io,t,u,k⟩:=N j l;have:j∈Region.ready .any ops b:=by
        simp only[Region.ready,List.mem_filter,ABo];refine⟨l,?_⟩;simp only[v,Bool.not_false,AAq,t,AA1,ABf,Array.all_eq_true'];intro e he;cases hb:Region.binds .any e with
        |false=>rfl
        |true=>have EP:=(Ps j o u).2.1 e (by simpa using he) hb;have hl':=ihj e.on EP ah;have r:e.on<b.size:=ah;simp only[AAn,ABa r,ABf]at hl' |-;simp[hl']
       rw[tS]at this;cases this
   . simp only[Region.ready,List.mem_filter,ABo,AAT,ABG]at hi;obtain⟨qL,I,P6⟩:=hi;obtain⟨o,io,t,u,k⟩:=N i qL;simp only[t,AA1,ABf,Array.all_eq_true',AAt,ABG]at P6;obtain⟨hsp1,hsp2,_⟩:=Ps i o u;obtain⟨σ,IG,hσ⟩:=CX
     -- all that is ahead of i is listed
     have Jr:∀x,(M.getD i 0).testBit x=true->b.getD x true=true:=by
      intro x F;rw[hsp1]at F;obtain⟨e,he,hb,hor⟩:=wC F;have EP:=hsp2 e he hb;have hle:b.getD e.on true=true:=(by have:=(P6 e (by simpa using he)).resolve_left (by simp[hb]);have r:e.on<b.size:=ah;simp only[AAn,ABa r,ABf]at this |-;exact this);rcases hor with rfl|hor
      . exact hle
      . exact LF e.on ah hle x hor
     have H:∀j,(b.setIfInBounds i true).getD j true=(b.getD j true||j==i):=by
      intro j;simp only[AAn,ABJ];by_cases e:i=j
      . subst e;simp;split<;>simp
      . have e':¬j=i:=λx=>e x.symm;simp[e,e']
     have cE:∀j s,j<i->s∈HS G X j->s∈Xe G X i->b.getD j true=true:=λj s l r Hb=>Jr j (y j i s l qL (.inl ⟨r,Hb⟩));have Oa:∀j s,i<j->j<ops.size->s∈HS G X j->s∈Xe G X i->b.getD j true=true->b.getD i true=true:=λj s l C r Hb v=>LF j C v i (y i j s l C (.inr ⟨Hb,r⟩));have hA:∀x,x∈Xe G X i->Q2 (GA (λj=>b.getD j true) (HS G X) x ops.size) x=Q2 i x:=λx F=>
      lastW_at (L:=λj=>b.getD j true) (R:=Xe G X) I qL UW cE Oa F
     have hf:∀s,2*s+1∈R2 G io->σ s=q i s:=λs r=>by
      rw[hσ s]
      have:=hA (2*s+1) (by simpa[Xe,k]using r);rw[dV,dV]at this;exact this
     -- writers of one slot are ordered
     have hord:∀j m s,j<m->m<ops.size->2*s+1∈HS G X j->2*s+1∈HS G X m->b.getD m true=true->b.getD j true=true:=
      λj m s hjm hm t u v=>LF m hm v j (y j m (2*s+1) hjm hm (.inl ⟨t,hWR m _ u⟩))
     have V:∀s m,m<=ops.size->(∀j,j<m->2*s∈HS G X j->b.getD j true=true)->JN (q (GA (λj=>b.getD j true) (HS G X) (2*s) m) s)=JN (q m s):=by
      intro s m;induction m with
      |zero=>intro _ _;rfl
      |succ m ihm=>
       intro hm v;simp only[GA];by_cases h:2*s∈HS G X m
       . rw[AAb ⟨v m ah h,h⟩]
       . rw[AAa (λx=>h x.2),ihm ah (λj l=>v j ah),z m s ah h]
     have f:∀s m,m<=ops.size->JN (q (GA (λj=>b.getD j true) (HS G X) (2*s+1) m) s)=JN (q (GA (λj=>b.getD j true) (HS G X) (2*s) m) s):=by
      intro s m;induction m with
      |zero=>intro _;rfl
      |succ m ihm=>
       intro hm;simp only[GA];by_cases D:b.getD m true=true
       . by_cases W:2*s∈HS G X m
         . rw[AAb ⟨D,T m s W⟩,AAb ⟨D,W⟩]
         . rw[AAa (c:=_/\2*s∈_) (λx=>W x.2)];by_cases t:2*s+1∈HS G X m
           . rw[AAb ⟨D,t⟩,z m s ah W];exact(V s m ah λj l hw=>hord j m s l ah (T j s hw) t D).symm
           . rw[AAa (λx=>t x.2)];exact ihm ah
       . rw[AAa (λx=>D x.1),AAa (λx=>D x.1)];exact ihm ah
     have hk:∀s,2*s∈R2 G io->JN (σ s)=JN (q i s):=λs r=>by
      rw[hσ s,f s _ (AAv _)]
      have:=hA (2*s) (by simpa[Xe,k]using r);rw[gU,gU]at this;exact this
     obtain⟨E,hτ,hmv1,hmv2⟩:=TE (F9 io (AAg k)) (B i o io u k) (hwf i ah) hf hk (Hf i io k);have O:(λj=>(b.setIfInBounds i true).getD j true)=λj=>(b.getD j true||j==i):=funext H;have U:∀s,E s=q (GA (λj=>(b.getD j true||j==i)) (HS G X) (2*s+1) ops.size) s:=by
      intro s;by_cases r:2*s+1∈HS G X i
      . rw[lastW_in (L:=λj=>b.getD j true) qL (λj=>rfl) I (λj s l C t u k=>Oa j s l C t (hWR i s u) k) r];exact hmv1 s (by simpa[HS,k]using r)
      . rw[lastW_out (L:=λj=>b.getD j true) (i:=i) (λj=>rfl) r,<- hσ s];exact hmv2 s (by simpa[HS,k]using r)
     refine wpOp_mono ?_ (hS (λj=>b.getD j true) i o io a w σ E t k qL I Jr LF hJ IG hτ U)
     . rintro a' w' ⟨⟨σ2,Wh,rfl⟩,hJ'⟩;refine ih _ a' w' (by simp[Pt]) ?_ ?_ ⟨σ2,Wh,?_⟩ (by rw[O];exact hJ')
       . have:=eL (p:=λi=> !b.getD i true) (p':=λj=> !(b.setIfInBounds i true).getD j true) (λj l=>by simp only[H]at l;simp at l |-;exact l.1) (i:=i) (by simp[I]) (by simp[H]) ops.size qL;omega
       . intro j C v x F;rw[H]at v |-;simp only[AAt,AAh]at v |-;rcases v with v|rfl
         . exact .inl (LF j C v x F)
         . exact .inl (Jr x F)
       . intro s;rw[O];exact U s
 refine main ops.size _ a w ak (by exact ABO (List.countP_le_length) (by simp)) ?_ ⟨σ,h,λs=> ?_⟩ hJ0
 . intro j l v;simp[AAn,l]at v
 . have:∀m,m<=ops.size->GA (λj=>(Array.replicate ops.size false).getD j true) (HS G X) (2*s+1) m=0:=by
    intro m;induction m with
    |zero=>intro _;rfl
    |succ m ih=>intro hm;simp only[GA];rw[AAa,ih ah];rintro⟨t,_⟩;have SF:m<ops.size:=ah;simp[AAn,SF]at t
   rw[this _ (AAv _),hq0]
theorem Wk:∀m,(∀j,j<m->L j=true->j<f)->GA L H n m<=f
 |0,_=>Nat.zero_le _
 |m+1,h=>by
  simp only[GA];split
  . grind
  . exact Wk m λj a=>h j ah
theorem VK{d:D3}(hn:a.tmps.size=n)(m:a.defers=[])(i:Rd δ a)(g:St G w S0 δ Fr)(q:Nx w0 F U0 w S0 (BN Fr))(l:∀b,S0 b->b<w.heap.size)(hd:I9 G a o (some d))(E:Ok w S0 D (λ_=>False))(u:Dr δ D)(z:wr d D.er (λs=>(δ s).er)=some τ):Rel G n w0 F U0 (a.put o.dst D.A0) w τ:=by
 obtain⟨c,g2,B,C⟩:=hd;obtain⟨f,t,y,v,p,r⟩:=g.wr (D:=D) (Ff:=λ_=>False) g2 B (λ_ _=>rfl) (λ_ _ _=>rfl) (λ_ h=>h) (λs x e=>(g.ok s).FQ x e) E (λ_ _ _ h=>h) u z;refine⟨S0,f,t,?_,?_,?_,v,y,q.trans (Nx.less λx e=>(r x e).elim id False.elim),l⟩
 . rw[c];simpa[Act.put]using hn
 . rw[c];simpa[Act.put]using m
 . intro s;rw[c,Ja a d.d D.A0 C s,p s];split
   . rfl
   . exact i s
def eP:bH->Bool
 | .cp _| .Wc .. | .ld .. | .ZX _| .ZG .. | .mkf .. =>true
 |_=>false
def Yp(P:iz)(G:Gi)(n:Nat)(f:Flo)(ops:Array Oper)(M:jh)(i:Nat)(o:Oper)(io:BD):Bool:=
 D5 G n o.dst io.dst&&o.guard.isNone&&io.guard.isNone&&
 (if i=f.i0 then(match io.op,io.dst with| .fl,some d=>d.d==f.d0|_,_=>false)&&(match o.op with
  | .fieldAddr t (.tmp s) fi=>s==f.r&&(match P.underlying t with
   |some (.struct fs)=>match fs[fi]? with
    |some fd=>fd.offset==f.off&&(match HI P fd.type with|some m=>m != 0|none=>false)
    |none=>false
   |_=>false)
  |_=>false)
  else if i=f.i1 then(match io.op,io.dst with| .fl,some d=>d.d==f.d1|_,_=>false)&&(match o.op with
   | .load t (.tmp s)=>s==f.d0&&HI P t==some 1&&KL P t==some false
   |_=>false)&&(M.getD i 0).testBit f.i0
  else(match io.dst with|some d=>d.d != f.r&&d.d != f.d0&&d.d != f.d1|none=>true)&&
   (if i=f.i2 then(match io.op,o.op,io.dst with
    | .nW r off kb k j,.indexAddr t (.tmp s) x,some _=>r==f.r&&off==f.off&&kb==f.kb&&s==f.d1&&(match P.underlying t with|some (.slice e)=>HI P e==some k|_=>false)&&Cc x j
    |_,_,_=>false)&&(M.getD i 0).testBit f.i1&&(M.getD i 0).testBit f.i0
   else Hl P G n ops o io&&(if i<f.i2 then eP io.op||(match io.op with| .call _ _ 4=>true|_=>false)else(M.getD i 0).testBit f.i2)))
def sH(P:iz)(G:Gi)(n:Nat)(f:Flo)(ops:Array Oper)(Ce:jG):Bool:=
 decide (Ce.length=ops.size)&&decide (f.d0≠f.r)&&decide (f.d1≠f.r)&&decide (f.d0≠f.d1)&&decide (f.i0≠f.i1)&&decide (f.i0<f.i2)&&decide (f.i1<f.i2)&&decide (f.i2<ops.size)&&Mq G ops.toList Ce&&
 (List.range ops.size).all λi=>match ops[i]?,Ce[i]? with
  |some o,some io=>Yp P G n f ops (TJ ops.toList []) i o io
  |_,_=>false
theorem RP(hi:ops[i]? =some o)(c:o.guard=none)(b:(execOp a.eval o).run P w= .ok (.value u) w)(h:J (a.put o.dst u) w):wpOp P ops Q i J a w:=by unfold wpOp;rw[hi];simp only[Region.wanted,c,AAy];refine .inl ?_;unfold Oper.wp;rw[b];exact h
theorem qE(hi:ops[i]? =some o)(e:o.guard=none)(c:(execOp a.eval o).run P w= .ok (.value u) w)(d:J (a.put o.dst u) w)(h:wpOp P ops Q i B a w):wpOp P ops Q i (λb w'=>B b w'/\J b w') a w:=by unfold wpOp at h |-;rw[hi]at h |-;simp only[Region.wanted,e,AAy]at h |-;refine h.imp (λh=> ?_) id;unfold Oper.wp at h |-;rw[c]at h |-;exact⟨h,d⟩
theorem fl_run(h:Rel G n w0 F U0 a w σ)(b:KU P o.op io.op=true)(s:eP io.op=true)(d:valOf io.op σ=some v):∃u,(execOp a.eval o).run P w= .ok (.value u) w:=by
 obtain⟨S,δ,Fr,hn,L,l,rfl,i,M,K⟩:=h;have E:Gives P w S δ a o v->∃u,(execOp a.eval o).run P w= .ok (.value u) w:=λ⟨u,h,_⟩=>⟨u,h⟩;apply E;obtain⟨dst,J,g⟩:=io;simp only at b s d;cases J with
 |cp y=>cases ho:o.op<;>rw[ho]at b<;>first| (simp[KU]at b;done)|exact UP i l (.inl ho) b d|exact UP i l (.inr ho) b d
 |Wc off y=>
  cases ho:o.op<;>rw[ho]at b<;>first| (simp[KU]at b;done)|skip
  rename_i t x Q;simp only[KU,AAT]at b;obtain⟨c,p⟩:=b;split at c
  . rename_i R r;split at c
    . rename_i O q;simp only[AAT,AAh]at c;obtain⟨D,g2⟩:=c;split at g2
      . rename_i m H;simp only[ABl]at g2;exact eT i l ho r q D H g2 p d
      . cases g2
    . cases c
  . cases c
 |ld gg m y=>
  cases ho:o.op<;>rw[ho]at b<;>first| (simp[KU]at b;done)|skip
  simp only[KU,AAT,AAt,AAh]at b;exact UQ i l ho b.1.1.1 b.1.1.2 b.1.2 b.2 d
 |ZX y=>
  cases ho:o.op<;>rw[ho]at b<;>first| (simp[KU]at b;done)|skip
  simp only[KU,AAT,AAh]at b;exact UQ i l ho b.1.1 b.1.2 (.inr rfl) b.2 (lda_ld d)
 |ZG k y j=>
  cases ho:o.op<;>rw[ho]at b<;>first| (simp[KU]at b;done)|skip
  simp only[KU,AAT]at b;obtain⟨⟨c,p⟩,z⟩:=b;split at c
  . rename_i e r;exact eU i l ho r (V1 c) p z d
  . cases c
 |mkf f ys=>
  cases ho:o.op<;>rw[ho]at b<;>first| (simp[KU]at b;done)|skip
  rename_i C first N
  cases C with
  |func f'=>simp only[KU,AAT,AAh]at b;obtain⟨⟨rfl,c⟩,p⟩:=b;exact eV i l ho am p d
  |_=>simp[KU]at b
 |_=>cases s
theorem nG(t:X4 w0 F U0)(Q:Exit->Act->World->Prop)(v:∀a w σ,Rel G n w0 F U0 a w σ->K σ->Q .normal a w){w:ja}(h:Rel G n w0 F U0 a w σ)(x:MN P G n ops ops.toList X=true)(hd:Mq G ops.toList X=true)(y:O0 P G X K σ):wpAny P .any ops Q ops.size (Array.replicate ops.size false) a w:=by
 obtain⟨m,l⟩:=eJ _ x;obtain⟨q,g,r,u⟩:=TF X y;refine UI Q h am (λi o io e f=>TL (l i o io e f)) hd q g r u (λ_ _ _=>True) (λ_ a w σ _ _ h k=>v a w σ h k) trivial ?_;intro L i o io a w σ z e f _ _ _ _ _ s p _;exact wpOp_mono (λB w' h=>⟨h,trivial⟩) (Is t s (l i o io am f) p Q e)
end
variable{Ce:jG}
section
variable{G:Gi}{P:iz}{w:ja}
def FJ(f:Flo)(b:Nat)(h:jn)(L:js)(a:Act)(w:ja):Prop:=
 L f.i2=false->a.tmps.getD f.r undef= .pointer (some ⟨b,0,none⟩)/\w.cell? ⟨b,f.off,none⟩=some h/\(L f.i0=true->a.tmps.getD f.d0 undef= .pointer (some ⟨b,f.off,none⟩))/\(L f.i1=true->a.tmps.getD f.d1 undef=h)
theorem nZ(h:jQ n f v=true):∃row,v= .own true n [row]/\f<row.length:=by
 unfold jQ at h;split at h
 . rename_i k row;simp only[AAT,AAh,AAl]at h;exact⟨row,by rw[h.1],h.2⟩
 . cases h
theorem box_at(h:St G w F δ Fr)(a:(δ n).er= .own true f [row]):∃b e,δ n= .own (.pointer (some ⟨b,0,none⟩)) true f [e]/\e.map DV.er=row/\
 (∀(j:Nat) d,e[j]? =some d->w.cell? ⟨b,j,none⟩=some d.A0/\∃S,Ok w F d S):=by
 have kb:=h.ok n;cases hδ:δ n with
 |lf x v=>rw[hδ]at a kb;simp at a;subst a;cases kb with|lf _ _ _ hl _=>simp[Hh]at hl
 |agg=>rw[hδ]at a;simp at a
 |BZ=>rw[hδ]at a;simp at a
 |own hh bx k0 Au=>
  rw[hδ]at a kb;simp only[FO,AV.own.injEq]at a;obtain⟨rfl,rfl,i⟩:=a;obtain⟨e,rfl,k⟩:=ABb.1 i;cases kb with
  |own _ _ _ b c arr E Fs _ hb hk Ee Md hv hrr hd B0 LR hF=>
   refine⟨b,e,by simp[KW],k,λj d g=>⟨?_,Fs 0 j,hrr 0 j e d rfl g⟩⟩
   have:=hv 0 j e d rfl g;simp only[Nat.zero_mul,ABW]at this;simp[World.cell?,hb,this]
theorem AAC(hG:X4 w0 S0 U0)(Q:Exit->Act->World->Prop)(hQ:∀a w σ,Rel G n w0 S0 U0 a w σ->K σ->Q .normal a w){w:ja}{f:Flo}(h:Rel G n w0 S0 U0 a w σ)(hc:sH P G n f ops X=true)(q:Nat->Sg)(hq0:q 0=σ)(Hf:∀i io,X[i]? =some io->Jo P G io (· =q (i+1)) (q i))(hK:K (q X.length))(hbx:∀m,m<=f.i2->jQ f.kb f.off (q m f.r)=true):
 wpAny P .any ops Q ops.size (Array.replicate ops.size false) a w:=by
 simp only[sH,AAT,AAl,AAY]at hc;obtain⟨⟨⟨⟨⟨⟨⟨⟨⟨hN,n1⟩,n2⟩,n3⟩,n4⟩,n5⟩,n6⟩,n7⟩,nL⟩,Hy⟩:=hc;have F8:∀i o io,ops[i]? =some o->X[i]? =some io->Yp P G n f ops (TJ ops.toList []) i o io=true:=by
  intro i o io M h2;have hi:i<ops.size:=(ABD.1 M).1
  have:=Hy i (by simpa using hi);rw[M,h2]at this;exact this
 -- the beginning
 obtain⟨N,hL,hJ0⟩:∃N hL,FJ f N hL (λj=>(Array.replicate ops.size false).getD j true) a w:=by
  obtain⟨S,δ,Fr,hn,EF,ha,rfl,CX,Er,DA⟩:=h;obtain⟨row,hr,Z⟩:=nZ (hbx 0 (Nat.zero_le _));rw[hq0]at hr;obtain⟨b,Jf,M,h2,h3⟩:=box_at CX hr;have hl:f.off<Jf.length:=by rw[<- h2]at Z;simpa using Z
  refine⟨b,(Jf[f.off]).A0,λ_=>⟨?_,(h3 f.off _ (AAZ hl)).1,?_,?_⟩⟩
  . rw[ha f.r,M];simp
  . intro z;simp[AAn,show f.i0<ops.size by omega]at z
  . intro z;simp[AAn,show f.i1<ops.size by omega]at z
 refine UI Q h hN ?_ nL q hq0 Hf hK (FJ f N hL) (λ_ a w σ _ _ h k=>hQ a w σ h k) hJ0 ?_
 . intro i o io M h2 d hd
   have:=F8 i o io (by simpa using M) h2;simp only[Yp,AAT]at this;have h3:=this.1.1.1;rw[hd]at h3;cases ho:o.dst with
   |none=>rw[ho]at h3;simp[D5]at h3
   |some t=>rw[ho]at h3;simp only[D5,AAT,AAh]at h3;exact h3.1.2
 . intro L i o io a w σ J M h2 qL hLi Jr LF hJ IG p hτs;have C:=F8 i o io M h2;simp only[Yp,AAT,ABH]at C;obtain⟨⟨⟨Lu,tK⟩,NM⟩,C⟩:=C;obtain⟨dst,xF,g⟩:=io;simp only at NM;subst NM;simp only at Lu C;by_cases e0:i=f.i0
   . -- the address
     subst e0;rw[AAb rfl]at C;simp only[AAT]at C;obtain⟨I,F⟩:=C;split at I
     . rename_i d;simp only[AAh]at I;split at F
       . rename_i t s fi ho;simp only[AAT,AAh]at F;obtain⟨rfl,F⟩:=F;split at F
         . rename_i fs hu;split at F
           . rename_i fd hff;simp only[AAT,AAh]at F;obtain⟨g1,g2⟩:=F;split at g2
             . rename_i m hm;simp only[ABl]at g2;obtain⟨S,δ,Fr,hn,EF,ha,rfl,CX,Er,DA⟩:=IG;have hd:=Ec (a:=a) Lu hn;have U:∀u s,(a.put o.dst u).tmps.getD s undef=if s=d.d then u else a.tmps.getD s undef:=λu s=>by rw[hd.1,Ja a d.d u hd.2.2.2 s]
               have N9:wr d (DV.lf .dead (.pointer (some ⟨N,f.off,none⟩))).er (λs=>(δ s).er)=some J:=by
                simp only[Jo,EE,G8,valOf]at p;split at p
                . rename_i υ y;rw[Eb,y,p]
                . exact p.elim
               by_cases T:L f.i2=true
               . exact absurd (LF f.i2 n7 T f.i0 (by
                  obtain⟨W,B,q1,q2⟩:∃W B,ops[f.i2]? =some W/\X[f.i2]? =some B:=⟨ops[f.i2],X[f.i2]' ah,by simp[n7],by simp[hN,n7]⟩
                  have:=F8 f.i2 W B q1 q2;simp only[Yp,AAT]at this;rw[AAa ah,AAa ah]at this;simp only[AAy,AAT]at this;exact this.2.2.2)) (by rw[hLi];decide)
               . have O:L f.i2=false:=(by simpa using T);obtain⟨j1,j2,j3,j4⟩:=hJ O;refine RP (u:=.pointer (some ⟨N,f.off,none⟩)) M tK ?_ ⟨⟨J,VK (D:=.lf .dead (.pointer (some ⟨N,f.off,none⟩))) hn EF ha CX Er DA hd (.lf _ _ _ trivial (λ_ h=>h)) (Dr.dead _) N9,rfl⟩,λz=> ?_⟩
                 . have he:a.eval (.tmp f.r)= .pointer (some ⟨N,0,none⟩):=(by simpa[Act.eval]using j1);simp only[execOp,ho,he,Sem.run_bind,Np hu hff hm g2,Result.andThen_ok,Sem.run_pure,g1,ABW]
                 . simp only[Kn];refine⟨by rw[U,AAa (by rw[I];exact Ne.symm n1)];exact j1,j2,λ_=>by rw[U,AAb I.symm],λhx1=> ?_⟩;rw[U,AAa (by rw[I];exact Ne.symm n3)];exact j4 (by simpa[Ne.symm n4]using hx1)
             . cases g2
           . cases F
         . cases F
       . cases F
     . cases I
   rw[AAa e0]at C;by_cases e1:i=f.i1
   . -- the load
     subst e1;rw[AAb rfl]at C;simp only[AAT]at C;obtain⟨⟨I,F⟩,k3⟩:=C;split at I
     . rename_i d;simp only[AAh]at I;split at F
       . rename_i t s ho;simp only[AAT,AAh]at F;obtain⟨⟨rfl,F⟩,k4⟩:=F;obtain⟨S,δ,Fr,hn,EF,ha,rfl,CX,Er,DA⟩:=IG;have hd:=Ec (a:=a) Lu hn;have U:∀u s,(a.put o.dst u).tmps.getD s undef=if s=d.d then u else a.tmps.getD s undef:=λu s=>by rw[hd.1,Ja a d.d u hd.2.2.2 s]
         have N9:wr d (DV.lf .dead hL).er (λs=>(δ s).er)=some J:=by
          simp only[Jo,EE,G8,valOf]at p;split at p
          . rename_i υ y;rw[Eb,y,p]
          . exact p.elim
         by_cases T:L f.i2=true
         . exact absurd (LF f.i2 n7 T f.i1 (by
            obtain⟨W,B,q1,q2⟩:∃W B,ops[f.i2]? =some W/\X[f.i2]? =some B:=⟨ops[f.i2],X[f.i2]' ah,by simp[n7],by simp[hN,n7]⟩
            have:=F8 f.i2 W B q1 q2;simp only[Yp,AAT]at this;rw[AAa ah,AAa ah]at this;simp only[AAy,AAT]at this;exact this.2.2.1.2)) (by rw[hLi];decide)
         . have O:L f.i2=false:=(by simpa using T);obtain⟨j1,j2,j3,j4⟩:=hJ O;have j3':=j3 (Jr f.i0 k3);refine RP (u:=hL) M tK ?_ ⟨⟨J,VK (D:=.lf .dead hL) hn EF ha CX Er DA hd (.lf _ _ _ trivial (λ_ h=>h)) (Dr.dead _) N9,rfl⟩,λz=> ?_⟩
           . have he:a.eval (.tmp f.d0)= .pointer (some ⟨N,f.off,none⟩):=by simpa[Act.eval]using j3'
             have:=MC (P:=P) (w:=w) (b:=N) (off:=f.off) (vs:=[hL]) F k4 (.inr rfl) rfl (λj v H=>by
              cases j with
              |zero=>simp only[ABA,AAU]at H;subst H;exact j2
              |succ j=>simp at H)
             simp only[execOp,ho,he,Instr.loadAt,Instr.sureAddr,Sem.run_bind,Sem.run_pure,Result.andThen_ok,this];rfl
           . simp only[Kn];refine⟨by rw[U,AAa (by rw[I];exact Ne.symm n2)];exact j1,j2,λhx0=> ?_,λ_=>by rw[U,AAb I.symm]⟩;rw[U,AAa (by rw[I];exact n3)];exact j3'
       . cases F
     . cases I
   rw[AAa e1]at C;simp only[AAT]at C;obtain⟨ON,C⟩:=C;by_cases e2:i=f.i2
   . -- the index
     subst e2;rw[AAb rfl]at C;simp only[AAT]at C;obtain⟨⟨I,F⟩,k3⟩:=C;split at I
     . rename_i r off kb k j t s x d ho;simp only[AAT,AAh]at I;obtain⟨⟨⟨⟨⟨rfl,rfl⟩,rfl⟩,rfl⟩,k4⟩,k5⟩:=I;split at k4
       . rename_i e hu;have hk:=V1 k4;obtain⟨S,δ,Fr,hn,EF,ha,rfl,CX,Er,DA⟩:=IG;have hd:=Ec (a:=a) Lu hn;obtain⟨j1,j2,j3,j4⟩:=hJ hLi;have j4':=j4 (Jr f.i1 F);obtain⟨hj,hej⟩:=Aq k5 ha;simp only[Jo,EE,G8]at p;cases H:valOf (.nW f.r f.off f.kb k j) (λs=>(δ s).er)with
         |none=>rw[H]at p;exact p.elim
         |some v=>
          rw[H]at p;simp only at p;have hwv:wr d v (λs=>(δ s).er)=some J:=by
           split at p
           . rename_i υ y;rw[y,p]
           . exact p.elim
          simp only[valOf]at H;split at H
          . rename_i kb' row n0 hr hn0;split at H
            . rename_i k' rows B2;split at H
              . rename_i GQ;obtain⟨rfl,rfl,h0,Z⟩:=GQ;obtain rfl:=AAW H;obtain⟨b,Jf,g1,g2,g3⟩:=box_at CX hr;have hb:b=N:=(by have:=ha f.r;rw[j1,g1]at this;simpa using this.symm);subst hb;rw[<- g2,AAf,AA4]at B2;obtain⟨D,hD,GP⟩:=B2;obtain⟨g4,FD,g5⟩:=g3 f.off D hD;rw[j2,AAU]at g4;obtain⟨kk,hn0⟩:=O1 hn0;obtain⟨ei,_⟩:=CX.FV hj hn0;have CU:Ax (δ f.r) [(0,f.off,f.kb)]=some D:=(by rw[g1];simp[Ax,hD]);have he1:a.eval (.tmp f.d1)=hL:=(by simpa[Act.eval]using j4');cases hDD:D with
                |lf x1 v1=>rw[hDD]at GP g5;simp at GP;subst GP;cases g5 with|lf _ _ _ hl _=>simp[Hh]at hl
                |agg=>rw[hDD]at GP;simp at GP
                |BZ=>rw[hDD]at GP;simp at GP
                |own hh bx k0 Au=>
                 rw[hDD]at GP g5 g4 CU;simp only[FO,AV.own.injEq]at GP;obtain⟨rfl,rfl,LJ⟩:=GP;simp only[Ma]at g4;have V:Au.length=rows.length:=(by rw[<- LJ];simp);cases g5 with
                 |nil=>simp at V;rw[<- V]at Z;simp at Z;omega
                 |own _ _ _ bb c arr E Fs _ lR eX Ee Md tW jM hdd' B0 LR hF=>
                  have hLf:Lf w S δ (.Lm f.r [(0,f.off,f.kb)] n0.toNat 0 k0) (.pointer (some ⟨bb,n0.toNat*k0+0,none⟩)):=Lf.Lm CU ak;obtain⟨D2,q1,q2,q3,q4⟩:=hLf;refine RP (u:=D2.A0) M tK ?_ ⟨⟨J,VK (D:=D2) hn EF ha CX Er DA hd q3 q4 (by rw[q1];exact hwv),rfl⟩,λz=> ?_⟩
                  . rw[q2];simp only[execOp,ho,he1,g4,hej,ei,KW,Sem.run_bind,AAd,AAk,run_indexAt_slice hu hk h0 (show n0<(Au.length:Nat)by rw[V];exact Z),Result.andThen_ok,Sem.run_pure];simp
                  . simp at z
              . cases H
            . cases H
          . cases H
       . cases k4
     . cases I
   rw[AAa e2,AAT]at C;obtain⟨Ip,R⟩:=C;have hJn:∀(u:jn) w',(L f.i2=false->w'.cell? ⟨N,f.off,none⟩=w.cell? ⟨N,f.off,none⟩)->FJ f N hL (λj=>(L j||j==i)) (a.put o.dst u) w':=by
    intro u w' hw' z;have T6:L f.i2=false:=(by simp only[Bool.or_eq_false_iff]at z;exact z.1);obtain⟨j1,j2,j3,j4⟩:=hJ T6;have U:∀s,s=f.r\/s=f.d0\/s=f.d1->(a.put o.dst u).tmps.getD s undef=a.tmps.getD s undef:=by
     intro s hs;obtain⟨S,δ,Fr,hn,_⟩:=IG;cases dst with
     |none=>have h0:o.dst=none:=Ec (a:=a) Lu hn;rw[h0];rfl
     |some d=>
      have hd:=Ec (a:=a) Lu hn;rw[hd.1,Ja a d.d u hd.2.2.2 s,AAa];simp only[AAT,ABl]at ON;rintro rfl;rcases hs with hs|hs|hs
      . exact ON.1.1 hs
      . exact ON.1.2 hs
      . exact ON.2 hs
    refine⟨by rw[U _ (.inl rfl)];exact j1,by rw[hw' T6];exact j2,λh0=> ?_,λh0=> ?_⟩
    . rw[U _ (.inr (.inl rfl))];exact j3 (by simpa[Ne.symm e0]using h0)
    . rw[U _ (.inr (.inr rfl))];exact j4 (by simpa[Ne.symm e1]using h0)
   by_cases Z:i<f.i2
   . rw[AAb Z]at R;simp only[AAt]at R;rcases R with R|R
     . -- a value
       have hop':KU P o.op xF=true:=by
        simp only[Hl,AAT]at Ip
        have:=Ip.2;cases xF<;>first|exact this|cases R
       have H:∃v,valOf xF σ=some v:=by
        simp only[Jo,EE]at p;cases xF<;>first| (cases R;done)|skip
        all_goals
         cases dst with
         |none=>simp[G8]at p
         |some d=>
          simp only[G8]at p;split at p
          . rename_i υ y;split at y
            . exact⟨_,bn⟩
            . cases y
          . exact p.elim
       obtain⟨v,H⟩:=H;obtain⟨u,hu⟩:=fl_run (io:=⟨dst,xF,none⟩) IG hop' R H;exact qE M tK hu (hJn u w λ_=>rfl) (Is hG IG Ip p Q M)
     . -- the call
       split at R
       . rename_i fn args;have hcall:Kp P o.op fn args 4=true:=(by simp only[Hl,AAT]at Ip;exact Ip.2);by_cases T:L f.i2=true
         . refine wpOp_mono ?_ (Is hG IG Ip p Q M);intro a' w' hr;exact⟨hr,λz=>by simp[T]at z⟩
         have O:L f.i2=false:=(by simpa using T);have hLf:∀j,j<ops.size->(L j||j==i)=true->j<f.i2:=by
          intro j hj z;simp only[AAt,AAh]at z;rcases z with z|rfl
          . rcases Nat.lt_trichotomy j f.i2 with h|h|h
            . exact h
            . subst h;exact absurd z T
            . exfalso;refine T (LF j hj z f.i2 ?_);obtain⟨W,B,q1,q2⟩:∃W B,ops[j]? =some W/\X[j]? =some B:=⟨ops[j],X[j]' ah,by simp[hj],by simp[hN,hj]⟩
              have:=F8 j W B q1 q2;simp only[Yp,AAT]at this;rw[AAa ah,AAa ah,AAa ah]at this;simp only[AAT]at this
              have:=this.2.2.2;rw[AAa ah]at this;exact this
          . exact Z
         obtain⟨row,l,_⟩:∃row,J f.r= .own true f.kb [row]/\f.off<row.length:=(by rw[hτs f.r];exact nZ (hbx _ (Wk _ hLf)));obtain⟨S,δ,Fr,hn,_⟩:=id IG;have hd:I9 G a o dst:=Ec (a:=a) Lu hn;unfold wpOp;rw[M];simp only[Region.wanted,tK,AAy];refine .inl (Oper.wp_mono ?_ (mS (io:=⟨dst,.call fn args 4,none⟩) hG IG rfl hcall hd (K:=(· =J)) p (rr:=f.r) (kb:=f.kb) ?_ Q))
         . rintro a' w' ⟨hr,Jk,u,rfl⟩;refine⟨hr,hJn u w' λz=> ?_⟩;obtain⟨j1,_⟩:=hJ z;simp only[World.cell?,Jk N j1]
         . intro aZ9 τ1 KB;simp only[Jo,EE]at p;rw[KB]at p;obtain⟨res,_,FW⟩:=p;split at FW
           . rename_i v H;cases dst with
             |none=>simp only[C2]at FW;rw[FW];exact⟨_,l⟩
             |some d=>
              simp only[C2]at FW;split at FW
              . rename_i υ y;subst FW;unfold wr at y;split at y
                . obtain rfl:=AAW y;simp only[AAT,ABl]at ON;rw[Br _ _ (Ne.symm ON.1.1),Rm]at l;split at l
                  . cases z:τ1 f.r with
                    |own b0 k0 MB=>rw[z]at l;simp only[Dv]at l;cases l;exact⟨_,rfl⟩
                    |_=>rw[z]at l;simp only[Dv]at l;first| (split at l<;>cases l;done)|cases l
                  . exact⟨_,l⟩
                . cases y
              . exact FW.elim
           . exact FW.elim
       . cases R
   . -- behind the index
     rw[AAa Z]at R;have T:L f.i2=true:=Jr f.i2 R;refine wpOp_mono ?_ (Is hG IG Ip p Q M);intro a' w' hr;exact⟨hr,λz=>by simp[T]at z⟩
theorem mI{f:Flo}(a:jG):∀{σ:Sg}{K:iv},Sl P G f a K σ->∃q:Nat->Sg,q 0=σ/\(∀i io,a[i]? =some io->Jo P G io (· =q (i+1)) (q i))/\(∀i,i<a.length->jQ f.kb f.off (q i f.r)=true)/\K (q a.length):=by
 induction a with
 |nil=>intro σ K h;exact⟨λ_=>σ,rfl,λi io hi=>by simp at hi,λi hi=>by simp at hi,h⟩
 |cons o os ih=>
  intro σ K h;obtain⟨d,h⟩:=h;obtain⟨τ,b,c⟩:=FE.1 h;obtain⟨q,e,g,j,k⟩:=ih c;refine⟨λi=>match i with|0=>σ|i+1=>q i,rfl,λi io hi=> ?_,λi hi=> ?_,by simpa using k⟩
  . cases i with
    |zero=>simp only[ABA,AAU]at hi;subst hi;simp only[e];exact b
    |succ i=>exact g i io (by simpa using hi)
  . cases i with
    |zero=>exact d
    |succ i=>exact j i (by simpa using hi)
theorem floRun{f:Flo}(h:Sl P G f X (O0 P G Ce K) σ):∃q:Nat->Sg,q 0=σ/\(∀i io,(X++Ce)[i]? =some io->Jo P G io (· =q (i+1)) (q i))/\(∀i,i<X.length->jQ f.kb f.off (q i f.r)=true)/\K (q (X++Ce).length):=by
 obtain⟨q,j,m,n,o⟩:=mI X h;obtain⟨p,g,k,l⟩:=TF Ce o;refine⟨λi=>if i<X.length then q i else p (i-X.length),?_,λi io hi=> ?_,λi hi=> ?_,?_⟩
 . simp only;split
   . exact j
   . rename_i s;have:X.length=0:=ah;rw[this,Nat.sub_zero,g,this];exact j
 . by_cases c:i<X.length
   . rw[AA0 c]at hi
     have:=m i io hi;simp only[c,AAy];by_cases d:i+1<X.length
     . simp only[d,AAy];exact this
     . have e:i+1=X.length:=ah;simp only[d,AAk];rw[e,Nat.sub_self,g,<- e];exact this
   . rw[AAx ah]at hi
     have:=k _ io hi;simp only[c,AAk,show¬i+1<X.length by omega];rw[show i+1-X.length=i-X.length+1 by omega];exact this
 . simp only[hi,AAy];exact n i hi
 . simp only[AA8,show¬X.length+Ce.length<X.length by omega,AAk,Nat.add_sub_cancel_left];exact l
end
section
variable{G:Gi}{P:iz}{w:ja}
theorem gH{J:Array Value->Prop}(hi:ops[i]? =some o)(c:∀(b:Act) v,b.tmps=a.tmps->J (b.put o.dst v).tmps)(h:wpOp P ops Q i B a w):
 wpOp P ops Q i (λk w'=>B k w'/\J k.tmps) a w:=by
 unfold wpOp at h |-;rw[hi]at h |-;simp only at h |-;by_cases l:Region.wanted o (yielded ops a.tmps)=true
 . simp only[l,AAy]at h |-;refine h.imp (λh=> ?_) id;unfold Oper.wp at*;generalize (execOp a.eval o).run P w=r at*;cases r with
   |ok x w'=>
    cases x with
    |value v=>exact⟨h,c _ _ rfl⟩
    |skip=>exact⟨h,c _ _ rfl⟩
    |defer d=>exact⟨h,c _ _ rfl⟩
    |enter f args=>
     simp only[Oper.upon]at h |-;refine Calls.mono h λe j g=> ?_;cases e with
     |returned v=>exact⟨g,c _ _ rfl⟩
     |panicked chain=>exact g
     |outgrown=>exact g
    |row row args=>simp only[Oper.upon]at h |-;exact Rows.mono h λv j g=>⟨g,c _ _ rfl⟩
    |_=>simp only[Oper.upon]at h
   |halt x w'=>
    cases x with
    |panic v=>exact h
    |_=>simp only[Oper.upon]at h
 . simp only[l]at h |-;exact⟨h,c _ _ rfl⟩
def rnX(d r:Nat):Operand->Operand
 | .tmp s=>if s=d then .tmp r else .tmp s
 |x=>x
def u6(d r:Nat):Op->Op
 | .indexAddr t x y=>.indexAddr t (rnX d r x) y
 | .nilCheck x=>.nilCheck (rnX d r x)
 | .extract x k=>.extract (rnX d r x) k
 | .call ⟨.value f,xs,ts⟩=>.call ⟨.value f,xs.map (rnX d r),ts⟩
 |o=>o
theorem VL(h:a.tmps.getD n undef=a.tmps.getD f undef)(x:ki):a.eval (rnX n f x)=a.eval x:=by
 cases x with
 |tmp s=>
  simp only[rnX];split
  . rename_i e;subst e;simp only[Act.eval];exact h.symm
  . rfl
 |_=>rfl
theorem rnOp_exec(h:a.tmps.getD n undef=a.tmps.getD f undef)(o:Oper):execOp a.eval {o with op:=u6 n f o.op}=execOp a.eval o:=by
 have e:a.eval ∘ rnX n f=a.eval:=funext λx=>VL h x;obtain⟨dst,op,ty,i,b,g⟩:=o;cases op with
 |indexAddr t x y=>simp only[execOp,u6,VL h]
 |nilCheck x=>simp only[execOp,u6,VL h]
 |extract x k=>simp only[execOp,u6,VL h]
 |call c=>
  obtain⟨cl,l,j⟩:=c;cases cl with
  |value r=>simp only[execOp,u6,resolve,Array.map_map,e]
  |_=>rfl
 |_=>rfl
def We(Ce:jG)(i1:Nat):ABu Nat:=match Ce[i1]? with
 |some ⟨_,.flk _ k,_⟩=>some k
 |_=>none
def arO(o:m8)(v:jn):Prop:=match o with
 |some k=>∃vs:Array Value,v= .tuple vs/\k<vs.size
 |none=>True
def wG(P:iz)(G:Gi)(n:Nat)(fs:lu)(ops:Array Oper)(Ce:jG)(M:jh)(i:Nat)(o:Oper)(io:BD):Bool:=
 D5 G n o.dst io.dst&&
 (match fs.find? (·.2.1==i)with
  |some (r,_,_,d1)=>o.guard.isNone&&io.guard.isNone&&(match io.op,io.dst with| .fl,some d=>d.d==d1| .flk (.t x) _,some d=>d.d==d1&&x==r|_,_=>false)&&(match o.op with| .move (.tmp s)=>s==r|_=>false)&&
   fs.all λf=>f.1 != d1&&(if f.2.1==i then f.1==r&&f.2.2.2==d1 else f.2.2.2 != d1)
  |none=>(match io.dst with|some d=>fs.all λf=>(f.1 != d.d||(M.getD f.2.1 0).testBit i)&&f.2.2.2 != d.d|none=>true)&&
   (match io.op with
   | .fl=>o.guard.isNone&&io.guard.isNone&&io.dst.isSome&&(match o.op with
    | .extract (.tmp t) k=>fs.any λf=>f.2.2.2==t&&(M.getD i 0).testBit f.2.1&&(match We Ce f.2.1 with|some m=>decide (k<=m)|none=>false)
    |_=>false)
   |_=>match fs.find? (·.2.2.1==i)with
    |some (r,i1,_,d1)=>o.guard.isNone&&(M.getD i 0).testBit i1&&Hl P G n (ops.setIfInBounds i {o with op:=u6 d1 r o.op}) {o with op:=u6 d1 r o.op} io
    |none=>Hl P G n ops o io))
def sG(P:iz)(G:Gi)(n:Nat)(fs:lu)(ops:Array Oper)(Ce:jG):Bool:=
 decide (Ce.length=ops.size)&&(fs.all λf=>decide (f.2.1<ops.size))&&Mq G ops.toList Ce&&
 (List.range ops.size).all λi=>match ops[i]?,Ce[i]? with
  |some o,some io=>wG P G n fs ops Ce (TJ ops.toList []) i o io
  |_,_=>false
theorem tup_ar(h:St G w F δ Fr)(b:(δ n).er= .BZ args)(e:f<args.length):∃vs:Array Value,(δ n).A0= .tuple vs/\f<vs.size:=by
 have c:=(h.ok n).Lh;cases hδ:δ n with
 |lf a v=>rw[hδ]at c b;cases c with|lf _ _ c=>simp only[Eb]at b;subst b;simp[DS]at c
 |own=>rw[hδ]at b;simp at b
 |agg=>rw[hδ]at b;simp at b
 |BZ ds=>rw[hδ]at b;simp only[LP,AV.BZ.injEq]at b;subst b;exact⟨_,Oz _,by simpa using e⟩
theorem AAB(hG:X4 w0 S0 U0)(Q:Exit->Act->World->Prop)(hQ:∀a w σ,Rel G n w0 S0 U0 a w σ->K σ->Q .normal a w){w:ja}{W:lu}(h:Rel G n w0 S0 U0 a w σ)(hc:sG P G n W ops X=true)(C4:O0 P G X K σ):
 wpAny P .any ops Q ops.size (Array.replicate ops.size false) a w:=by
 simp only[sG,AAT,AAl]at hc;obtain⟨⟨⟨hN,n2⟩,nL⟩,Hy⟩:=hc;rw[AAY]at n2 Hy;obtain⟨q,hq0,Hf,hK⟩:=TF X C4;have F8:∀i o io,ops[i]? =some o->X[i]? =some io->wG P G n W ops X (TJ ops.toList []) i o io=true:=by
  intro i o io z O;have hi:i<ops.size:=(ABD.1 z).1
  have:=Hy i (by simpa using hi);rw[z,O]at this;exact this
 refine UI Q h hN ?_ nL q hq0 Hf hK (λL a _=>∀f∈W,L f.2.1=true->a.tmps.getD f.2.2.2 undef=a.tmps.getD f.1 undef/\arO (We X f.2.1) (a.tmps.getD f.2.2.2 undef)) (λ_ a w σ _ _ h k=>hQ a w σ h k) ?_ ?_
 . intro i o io z O d hd
   have:=F8 i o io (by simpa using z) O;simp only[wG,AAT]at this;have I:=this.1;rw[hd]at I;cases E:o.dst with
   |none=>rw[E]at I;simp[D5]at I
   |some t=>rw[E]at I;simp only[D5,AAT,AAh]at I;exact I.1.2
 . intro f y l
   have:=n2 f y;simp only[AAl]at this;simp[AAn,this]at l
 . intro L i o io a w σ M z O qL hLi Jr LF hJ IG j hτs;have c:=F8 i o io z O;simp only[wG,AAT]at c;obtain⟨H,c⟩:=c;split at c
   . rename_i r _ _ d1 B;simp only[AAT,ABH,AAY,ABl]at c;obtain⟨⟨⟨⟨tK,NM⟩,p⟩,k2⟩,k3⟩:=c;obtain⟨dst,xF,g⟩:=io;simp only at NM H p;subst NM;split at k2
     . rename_i s E;simp only[AAh]at k2;subst k2;obtain⟨S,δ,Fr,hn,EF,ha,rfl,CX,Er,DA⟩:=IG;have key:∃d,dst=some d/\d.d=d1/\wr d .dead (λs=>(δ s).er)=some M/\arO (We X i) (a.tmps.getD s undef):=by
        split at p
        . rename_i d;refine⟨d,rfl,by simpa using p,?_,by simp[We,O,arO]⟩;simp only[Jo,EE,G8,valOf]at j;split at j
          . rename_i υ C;rw[C,j]
          . exact j.elim
        . rename_i x k d;simp only[AAT,AAh]at p;obtain⟨p,rfl⟩:=p;simp only[Jo,EE,G8,valOf]at j;cases l:(δ x).er with
          |BZ cs=>
           simp only[l]at j;by_cases U:k<cs.length
           . simp only[U,AAy]at j;refine⟨d,rfl,p,?_,?_⟩
             . split at j
               . rename_i υ C;rw[C,j]
               . exact j.elim
             . simp only[We,O,arO];rw[ha x];exact tup_ar CX l U
           . simp[U]at j
          |_=>simp[l]at j
        . cases p
       obtain⟨d,rfl,p,N9,har⟩:=key;have hd:=Ec (a:=a) H hn;have Hp:∀u s,(a.put o.dst u).tmps.getD s undef=if s=d.d then u else a.tmps.getD s undef:=λu s=>by rw[hd.1,Ja a d.d u hd.2.2.2 s]
       rw[<- Eb .dead (a.tmps.getD s undef)]at N9;refine RP (u:=a.tmps.getD s undef) z tK ?_ ⟨⟨M,VK (D:=.lf .dead (a.tmps.getD s undef)) hn EF ha CX Er DA hd (.lf _ _ _ trivial (λ_ h=>h)) (Dr.dead _) N9,rfl⟩,λf y l=> ?_⟩
       . simp[execOp,E,Act.eval]
       . obtain⟨j1,Z⟩:=k3 f y;rw[Hp,Hp,p,AAa j1];split at Z
         . rename_i e;simp only[AAT,AAh]at Z e;rw[AAb Z.2,Z.1,e];exact⟨rfl,har⟩
         . rename_i e;simp only[ABl]at Z;rw[AAa Z];refine hJ f y ?_;simp only[AAt]at l;exact l.resolve_right e
     . cases k2
   . rename_i nS;simp only[AAT]at c;obtain⟨p,c⟩:=c;have R:∀(b:Act) v,b.tmps=a.tmps->∀f∈W,(L f.2.1||f.2.1==i)=true->(b.put o.dst v).tmps.getD f.2.2.2 undef=(b.put o.dst v).tmps.getD f.1 undef/\arO (We X f.2.1) ((b.put o.dst v).tmps.getD f.2.2.2 undef):=by
      intro b v F f y l;have e1:¬(f.2.1==i)=true:=List.find?_eq_none.1 nS f y;have MH:L f.2.1=true:=(by simpa[e1]using l);have T:=hJ f y MH;cases hod:o.dst with
      |none=>simp only[Act.put,F];exact T
      |some t=>
       cases vT:io.dst with
       |none=>rw[hod,vT]at H;simp[D5]at H
       |some d=>rw[hod,vT]at H;rw[vT]at p;simp only[D5,AAT,AAh]at H;simp only[AAY,AAT,AAt,ABl]at p;have ht:t=d.d:=H.1.1.1;obtain⟨u1,u2⟩:=p f y;have u1:f.1≠d.d:=u1.elim id λlR=>(by have I:=LF f.2.1 (AAc (n2 f y)) MH i lR;rw[hLi]at I;cases I);simp only[Act.put,F,AAn,ABJ];rw[AAa (by rw[ht];exact Ne.symm u2),AAa (by rw[ht];exact Ne.symm u1)];simpa[AAn]using T
     split at c
     . rename_i N;simp only[AAT,ABH,Option.isSome_iff_exists]at c;obtain⟨⟨⟨tK,NM⟩,d,vT⟩,c⟩:=c;obtain⟨dst,xF,g⟩:=io;simp only at NM H p vT N;subst NM vT N;split at c
       . rename_i t k E;rw[List.any_eq_true]at c;obtain⟨f,y,c⟩:=c;simp only[AAT,AAh]at c;obtain⟨⟨ht,F⟩,U⟩:=c;have T:=hJ f y (Jr _ F);split at U
         . rename_i m hm;rw[hm]at T;obtain⟨vs,hv,hmv⟩:=T.2;have hkv:k<vs.size:=Nat.lt_of_le_of_lt (AAc U) hmv;obtain⟨S,δ,Fr,hn,EF,ha,rfl,CX,Er,DA⟩:=IG;have hd:=Ec (a:=a) H hn;have N9:wr d (DV.lf .dead vs[k]).er (λs=>(δ s).er)=some M:=by
            simp only[Jo,EE,G8,valOf]at j;split at j
            . rename_i υ C;rw[Eb,C,j]
            . exact j.elim
           refine RP (u:=vs[k]) z tK ?_ ⟨⟨M,VK (D:=.lf .dead vs[k]) hn EF ha CX Er DA hd (.lf _ _ _ trivial (λ_ h=>h)) (Dr.dead _) N9,rfl⟩,λf y l=>R a _ rfl f y l⟩;simp only[execOp,E,Act.eval,<- ht,hv,Instr.extract,ABa hkv];rfl
         . cases U
       . cases c
     split at c
     . rename_i r i1 _ d1 B;simp only[AAT,ABH]at c;obtain⟨⟨tK,F⟩,c⟩:=c;have T:=(hJ _ (ABn B) (Jr _ F)).1;have key:=Is hG IG c j Q (i:=i) (by simp[qL]);refine gH z (J:=λV=>∀f∈W,(L f.2.1||f.2.1==i)=true->V.getD f.2.2.2 undef=V.getD f.1 undef/\arO (We X f.2.1) (V.getD f.2.2.2 undef)) (λb v F=>R b v F) ?_;unfold wpOp at key |-;rw[z];simp only[Array.getElem?_setIfInBounds_self_of_lt qL,Region.wanted,tK,AAy]at key |-;unfold Oper.wp Oper.asks at*;have l:=rnOp_exec T o;simp only[tK]at l;rw[l]at key;exact key
     . exact gH z (J:=λV=>∀f∈W,(L f.2.1||f.2.1==i)=true->V.getD f.2.2.2 undef=V.getD f.1 undef/\arO (We X f.2.1) (V.getD f.2.2.2 undef)) (λb v F=>R b v F) (Is hG IG c j Q z)
end
variable{E:jo}{tmps:jt}
section
variable{G:Gi}{P:iz}{w:ja}
theorem Ue(a:L f=true)(b:n∈H f):∀m,f<m->f<GA L H n m
 |0,h=>absurd h (Nat.not_lt_zero _)
 |m+1,h=>by
  simp only[GA];split
  . omega
  . rename_i c;by_cases e:f=m
    . simp_all
    . exact Ue a b m ah
theorem put_same(p:i4):∀{t x:AV},sub t p=some x->put t p x=some t:=by
 induction p with
 |nil=>intro t x h;simp only[sub,AAU]at h;subst h;rfl
 |cons s p ih=>
  obtain⟨i,j,k⟩:=s;intro t x h;cases t with
  |own b k' rows=>
   simp only[sub]at h;split at h
   . rename_i row hi;split at h
     . rename_i c d;obtain⟨g,f⟩:=AAV.1 hi;obtain⟨e,a⟩:=AAV.1 d;simp only[put,hi,d,ih h];rw[<- a,List.set_getElem_self,<- f,List.set_getElem_self]
     . cases h
   . cases h
  |agg cs=>
   simp only[sub]at h;split at h
   . rename_i c d;obtain⟨e,a⟩:=AAV.1 d;simp only[put,d,ih h];rw[<- a,List.set_getElem_self]
   . cases h
  |BZ cs=>
   simp only[sub]at h;split at h
   . rename_i c d;obtain⟨e,a⟩:=AAV.1 d;simp only[put,d,ih h];rw[<- a,List.set_getElem_self]
   . cases h
  |_=>simp[sub]at h
theorem sub_k(p:i4)(k d:Nat):∀{t:AV},sub t (p++[(i,n,k)])=sub t (p++[(i,n,d)]):=by
 induction p with
 |nil=>intro t;cases t<;>simp[sub]
 |cons s p ih=>obtain⟨a,b,c⟩:=s;intro t;cases t<;>simp[sub,ih]
theorem st_frame(h:St G w F δ Fr)(B:Rd δ a){z u:ki}(ho:o.op= .store E z u)(hn:HI P E=some n)(hc:Cc z (.t f)=true)(W:Cc u x=true)(c:G8 G (.st n (.t f) x) none (λf=>(δ f).er)=some σ'):∃w' b off,(execOp a.eval o).run P w= .ok .skip w'/\(∀z,z≠b->w'.heap[z]? =w.heap[z]?)/\a.tmps.getD f undef= .pointer (some ⟨b,off,none⟩):=by
 obtain⟨hy,V⟩:=Aq hc B;obtain⟨hz,g⟩:=Aq W B;simp only[G8]at c;split at c
 . rename_i v τ ht;obtain⟨δ1,F1,D,Ff,d,T,O,K⟩:=h.tk hz ht;subst T;subst O;split at c
   . rename_i r p i j k Z;obtain⟨vh,bx,Au,b,Fx,S,hb,hp,Cq,_⟩:=d.st.ER Z;split at c
     . rename_i lI k' rows C;obtain⟨D',s,e⟩:=ED (d.st.ok r).Lh C;rw[S]at s;obtain rfl:=AAW s;simp only[FO,AV.own.injEq]at e;obtain⟨rfl,rfl,rfl⟩:=e;split at c
       . rename_i row I;rw[AAf,AA4]at I;obtain⟨Jf,t,rfl⟩:=I;split at c
         . rename_i Q;obtain⟨l,y,hjn⟩:=Q;split at c
           . rename_i t' H;have M:=Mj D d.ok.Lh;have hl:(cellsD D).length=n:=(by rw[<- l,<- M];simp);have J:=Mp d.ok y;rw[<- M]at H y;obtain⟨w',td,F',N,Qd,L,UR,MX,ZD,_⟩:=fY (P:=P) (cellsD D) (d.st.ok r) S hb t am (OS d.ok) (λz hx U=>d.NK r z U hx) y H 0 (i*k+j) rfl;have m:(δ f).A0= .pointer (some ⟨b,i*k+j,none⟩):=(by rw[<- d.A0 f];exact hp);refine⟨w',b,i*k+j,?_,ZD,by rw[B f];exact m⟩;have X:¬((DL δ x).cells.size≠n):=(by rw[<- K,J];simp[hl]);have R:(DL δ x).cells.toList=(cellsD D).map DV.A0:=(by rw[<- K,J]);have q:DL δ (.t f)= .pointer (some ⟨b,i*k+j,none⟩):=m;simp only[execOp,ho,V,g,q,Instr.storeAt,Instr.sureAddr,storeVar,Sem.run_bind,Sem.run_pure,Result.andThen_ok,run_sizeOf hn,Sem.run_ite,X,AAk,R,N]
           . cases c
         . cases c
       . cases c
     . cases c
   . cases c
 . cases c
theorem mJ{f:Apd}(os:jG):∀{m:Nat}{σ:Sg}{K:iv},Pn P G f m os K σ->∃q:Nat->Sg,q 0=σ/\(∀i io,os[i]? =some io->Jo P G io (· =q (i+1)) (q i))/\(∀i,i<=os.length->okD f (m+i) (q i)=true)/\K (q os.length):=by
 induction os with
 |nil=>intro m σ K h;exact⟨λ_=>σ,rfl,λi io hi=>by simp at hi,λi hi=>by simp only[ABc,Nat.le_zero]at hi;subst hi;exact h.1,h.2⟩
 |cons o os ih=>
  intro m σ K h;obtain⟨c,h⟩:=h;obtain⟨τ,b,a⟩:=FE.1 h;obtain⟨q,d,e,g,j⟩:=ih a;refine⟨λi=>match i with|0=>σ|i+1=>q i,rfl,λi io hi=> ?_,λi hi=> ?_,ah⟩
  all_goals grind
def mV(P:iz)(G:Gi)(n:Nat)(f:Apd)(ops:Array Oper)(M:jh)(i:Nat)(o:Oper)(io:BD):Bool:=
 if i=f.i12 then o.guard.isNone&&o.dst.isNone&&io.guard.isNone&&io.dst.isNone&&(match io.op with| .std (.t s)=>s==f.ap|_=>false)&&
  (match o.op with| .store t (.tmp x) (.tmp u)=>x==f.ap&&u==f.s&&HI P t==some 1|_=>false)&&(M.getD i 0).testBit f.i7&&(M.getD i 0).testBit f.i11
 else Hl P G n ops o io&&((M.getD f.i12 0).testBit i||(o.guard.isNone&&io.guard.isNone&&(match io.dst with|some d=>d.d != f.s&&d.d != f.ap|none=>true)&&
  (if i=f.i9 then o.dst.isNone&&io.dst.isNone&&(match io.op,o.op with| .st n (.t s) z,.store t x u=>s==f.e&&HI P t==some n&&Cc x (.t s)&&Cc u z|_,_=>false)&&(M.getD i 0).testBit f.i8
   else eP io.op)))
def sB(P:iz)(G:Gi)(n:Nat)(f:Apd)(ops:Array Oper)(Ce:jG):Bool:=
 decide (Ce.length=ops.size)&&decide (f.i12<ops.size)&&Mq G ops.toList Ce&&(HS G Ce f.i7).contains (2*f.s+1)&&(HS G Ce f.i8).contains (2*f.e+1)&&(HS G Ce f.i11).contains (2*f.ap+1)&&
 ((G.HA f.e).all λr=> !(G.HA f.ap).contains r)&&decide (f.i7<ops.size)&&decide (f.i8<ops.size)&&decide (f.i11<ops.size)&&
 (List.range ops.size).all λi=>match ops[i]?,Ce[i]? with
  |some o,some io=>mV P G n f ops (TJ ops.toList []) i o io
  |_,_=>false
def AJ(f:Apd)(L:js)(a:Act)(w:ja):Prop:=L f.i12=true->∃b o arr E,a.tmps.getD f.ap undef= .pointer (some ⟨b,o,none⟩)/\w.heap[b]? =some (.cells arr E (0,0))/\arr[o]? =some (a.tmps.getD f.s undef)
theorem kN{fz:Nat×Nat}(a:w.heap[n]? =some (.cells tmps E fz))(c:tmps[f]? =some u):w.setCell ⟨n,f,none⟩ u=w:=by
 have e:tmps.setIfInBounds f u=tmps:=by
  apply Array.ext_getElem?;intro i;rw[ABJ];split
  . grind
  . rfl
 obtain⟨heap,_⟩:=w;simp only[World.setCell,World.mk.injEq,and_true]at a |-;grind
theorem adr_of(h:Tb (σ n)=true):∃r p i j k,σ n= .Lm r p i j k/\ER σ (.t n)=some (r,p,i,j,k):=by
 cases hs:σ n with
 |Lm r p i j k=>exact⟨r,p,i,j,k,rfl,by simp[ER,hs]⟩
 |_=>rw[hs]at h;simp[Tb]at h
theorem wpOp_skip(hi:ops[i]? =some o)(c:o.guard=none)(b:(execOp a.eval o).run P w= .ok .skip w0)(h:J (a.put o.dst undef) w0):wpOp P ops Q i J a w:=by unfold wpOp;rw[hi];simp only[Region.wanted,c,AAy];refine .inl ?_;unfold Oper.wp;rw[b];exact h
theorem vR(hi:ops[i]? =some o)(e:o.guard=none)(d:(execOp a.eval o).run P w= .ok .skip w0)(h:wpOp P ops Q i J a w):wpOp P ops Q i (λb c=>J b c/\b=a.put o.dst undef/\c=w0) a w:=by unfold wpOp at h |-;rw[hi]at h |-;simp only[Region.wanted,e,AAy]at h |-;refine h.imp (λh=> ?_) id;unfold Oper.wp at h |-;rw[d]at h |-;exact⟨h,rfl,rfl⟩
theorem yM(hG:X4 w0 S0 U0)(Q:Exit->Act->World->Prop)(hQ:∀a w σ,Rel G n w0 S0 U0 a w σ->K σ->Q .normal a w){w:ja}{f:Apd}(h:Rel G n w0 S0 U0 a w σ)(hc:sB P G n f ops X=true)(C4:Pn P G f 0 X (Jo P G ⟨none,.st 1 (.t f.ap) (.t f.s),none⟩ K) σ):
 wpAny P .any ops Q ops.size (Array.replicate ops.size false) a w:=by
 simp only[sB,AAT,AAl,AAu]at hc;obtain⟨⟨⟨⟨⟨⟨⟨⟨⟨⟨hN,n12⟩,nL⟩,w7⟩,w8⟩,w11⟩,hdj⟩,n7⟩,n8⟩,n11⟩,Hy⟩:=hc;rw[AAY]at hdj Hy;obtain⟨q,hq0,Hf,Cq,hK⟩:=mJ X C4;simp only[ABW]at Cq;have Ke:∀i o io,ops[i]? =some o->X[i]? =some io->mV P G n f ops (TJ ops.toList []) i o io=true:=by
  intro i o io D I;have hi:i<ops.size:=(ABD.1 D).1
  have:=Hy i (by simpa using hi);rw[D,I]at this;exact this
 obtain⟨o12,N,p1,p2⟩:∃o io,ops[f.i12]? =some o/\X[f.i12]? =some io:=⟨ops[f.i12],X[f.i12]' ah,by simp[n12],by simp[hN,n12]⟩;have h12:=Ke _ _ _ p1 p2;simp only[mV,AAb,AAT,ABH]at h12;obtain⟨⟨⟨⟨⟨⟨⟨g1,g2⟩,g3⟩,g4⟩,g5⟩,g6⟩,b7⟩,b11⟩:=h12;obtain⟨ty,wK,Pt⟩:∃ty,o12.op= .store ty (.tmp f.ap) (.tmp f.s)/\HI P ty=some 1:=by
  split at g6
  . rename_i ty x u ho;simp only[AAT,AAh]at g6;obtain⟨⟨rfl,rfl⟩,T⟩:=g6;exact⟨ty,ho,T⟩
  . cases g6
 have ei12:N=⟨none,.std (.t f.ap),none⟩:=by
  obtain⟨d,op,g⟩:=N;simp only at g3 g4 g5;subst g3;subst g4;split at g5
  . simp only[AAh]at g5;rw[g5]
  . cases g5
 -- where the slots stand
 have own:∀{L:js}{σ:Sg},L f.i7=true->σ f.s=q (GA L (HS G X) (2*f.s+1) ops.size) f.s->Qh (σ f.s)=true:=by intro L σ hL J;have D:=Ue hL w7 ops.size n7;have I:=ZT L (HS G X) (2*f.s+1) ops.size;have T:=Cq _ (by omega:GA L (HS G X) (2*f.s+1) ops.size<=X.length);simp only[okD,AAT,AAt,AAl]at T;rw[J];exact T.1.1.resolve_left ah
 have adr8:∀{L:js}{σ:Sg},L f.i8=true->σ f.e=q (GA L (HS G X) (2*f.e+1) ops.size) f.e->Tb (σ f.e)=true:=by intro L σ hL J;have D:=Ue hL w8 ops.size n8;have I:=ZT L (HS G X) (2*f.e+1) ops.size;have T:=Cq _ (by omega:GA L (HS G X) (2*f.e+1) ops.size<=X.length);simp only[okD,AAT,AAt,AAl]at T;rw[J];exact T.1.2.resolve_left ah
 have adr11:∀{L:js}{σ:Sg},L f.i11=true->σ f.ap=q (GA L (HS G X) (2*f.ap+1) ops.size) f.ap->Tb (σ f.ap)=true:=by intro L σ hL J;have D:=Ue hL w11 ops.size n11;have I:=ZT L (HS G X) (2*f.ap+1) ops.size;have T:=Cq _ (by omega:GA L (HS G X) (2*f.ap+1) ops.size<=X.length);simp only[okD,AAT,AAt,AAl]at T;rw[J];exact T.2.resolve_left ah
 -- the slice's store, executed
 have run12:∀{a:Act}{w:ja}{b o:Nat}{arr:jt}{E:jo}{C:ABu Addr}{m c:Nat}{u:jn},a.tmps.getD f.ap undef= .pointer (some ⟨b,o,none⟩)->w.heap[b]? =some (.cells arr E (0,0))->arr[o]? =some u->a.tmps.getD f.s undef= .slice C m c->
  (execOp a.eval o12).run P w= .ok .skip (w.setCell ⟨b,o,none⟩ (.slice C m c)):=by
  intro a w b o arr E C m c u D I T h4;have FZ:=RD (P:=P) (w:=w) (off:=o) (v:=.slice C m c) I T rfl;have e1:a.eval (.tmp f.ap)= .pointer (some ⟨b,o,none⟩):=D;have e2:a.eval (.tmp f.s)= .slice C m c:=h4;simp only[execOp,wK,e1,e2,Instr.storeAt,Instr.sureAddr,storeVar,Sem.run_bind,Sem.run_pure,Result.andThen_ok,run_sizeOf Pt,Sem.run_ite,Value.cells,storeCells];simp[FZ,Addr.add,storeCells]
 -- a slice's own slot holds a slice
 have Z:∀{S:iu}{δ:ji}{Fr:iy}{w:ja},St G w S δ Fr->Qh (δ f.s).er=true->∃C m c,(δ f.s).A0= .slice C m c:=by
  intro S δ Fr w y ho;have hk:=y.ok f.s;cases hd:δ f.s with
  |own v bx k rows=>
   rw[hd]at ho hk;cases bx with
   |true=>simp[Qh]at ho
   |false=>obtain⟨a,c,e⟩:=fN hk;exact⟨a,_,c,by simpa using e⟩
  |lf x v=>
   rw[hd]at ho hk;cases hk with
   |lf _ _ _ F=>simp only[Eb]at ho;cases x<;>first|exact F.elim|simp[Qh]at ho
  |agg=>rw[hd]at ho;simp[Qh]at ho
  |BZ=>rw[hd]at ho;simp[Qh]at ho
 refine UI Q h hN ?_ nL (K:=λσ=>okD f X.length σ=true/\Jo P G ⟨none,.st 1 (.t f.ap) (.t f.s),none⟩ K σ) q hq0 Hf ⟨Cq _ (AAv _),hK⟩ (AJ f) ?_ ?_ ?_
 . intro i o io D I d hd
   have:=Ke i o io (by simpa using D) I;by_cases e:i=f.i12
   . subst e;have:io=N:=(by rw[p2]at I;exact(AAW I).symm);subst this;rw[ei12]at hd;cases hd
   . simp only[mV,AAa e,AAT]at this;exact TL this.1 d hd
 . -- the end: the slice comes into its cell, where it is already
   intro L a w σ hL hJ IG U;obtain⟨hoks,U⟩:=U;obtain⟨b,o,arr,E,j1,j2,j3⟩:=hJ (hL _ n12);have y:=Yh hG (K:=K) IG (ops:=ops) (o:=o12) (io:=⟨none,.st 1 (.t f.ap) (.t f.s),none⟩) (P:=P) (by simp[Hl,g1,g2,D5,Lo,wK,KU,Pt,Cc]) U Q;obtain⟨C,m,c,J⟩:∃C m c,a.tmps.getD f.s undef= .slice C m c:=(by obtain⟨S,δ,Fr,hn,EF,ha,rfl,y,Er,DA⟩:=IG;simp only[okD,AAT,AAt,AAl]at hoks;obtain⟨C,m,c,e⟩:=Z y (hoks.1.1.resolve_left ah);exact⟨C,m,c,(ha _).trans e⟩);rw[J]at j3;have hr:=run12 j1 j2 j3 J;rw[kN j2 j3]at hr;unfold Oper.wp at y;rw[hr,Oper.upon_skip,g2]at y;obtain⟨σ',D,I⟩:=y;exact hQ a w σ' D I
 . intro l;simp[AAn,n12]at l
 . intro L i o io a w σ τ' D I qL hLi Jr LF hJ IG R hτs;have O:=Ke i o io D I;have L12:∀j,((TJ ops.toList []).getD f.i12 0).testBit j=true->L f.i12=true->L j=true:=λj hb F=>LF f.i12 n12 F j hb;by_cases e:i=f.i12
   . -- the slice's own store
     subst e;have:io=N:=(by rw[p2]at I;exact(AAW I).symm);subst this;have:o=o12:=(by rw[p1]at D;exact(AAW D).symm);subst this;obtain⟨S,δ,Fr,hn,EF,ha,rfl,y,Er,DA⟩:=IG;rw[ei12]at R;simp only[Jo,EE,G8]at R;split at R
     . rename_i υ H;split at H
       . rename_i r p i j k XN;split at H
         . rename_i OY;simp only[AAU]at H;subst H;subst R;have Eu:=own (L:=λj=>(L j||j==f.i12)) (σ:=λs=>(δ s).er) (by simp[Jr _ b7]) (hτs f.s);obtain⟨C,m,c,hsv⟩:=Z y Eu;have hsv':a.tmps.getD f.s undef= .slice C m c:=(ha _).trans hsv;obtain⟨vh,bx,Au,b,Fx,CU,hb,hp,hokx,hFx⟩:=y.ER XN;have tT:a.tmps.getD f.ap undef= .pointer (some ⟨b,i*k+j,none⟩):=(ha _).trans hp;obtain⟨x,l,qN⟩:=ED (y.ok r).Lh OY;have hx0:=l;rw[JP,CU,AAS]at l;simp only[Ax]at l;split at l
           . rename_i Jf FP;split at l
             . rename_i cc B2;simp only[AAU]at l;subst l;obtain⟨Sr,arr,E,hbb,SD⟩:=Qr hokx hb;have hold:=SD i j Jf cc FP B2;have hr:=run12 tT hbb hold hsv';obtain⟨t,F',Hp,Qd,hsubF,V,hFr⟩:=(y.ok r).store p CU FP B2 hb (new:=.lf .dead (.slice C m c)) (Fn:=λ_=>False) (.lf _ _ _ trivial (λ_ h=>h)) (λ_ h=>h.elim);simp only[Kn]at Qd;have XQ:∀x,x≠b->(w.setCell ⟨b,i*k+j,none⟩ (.slice C m c)).heap[x]? =w.heap[x]? :=λx l=>Dc _ _ _ _ _ l;have hbS:¬S b:=(y.ok r).FQ b hFr;have qM:∃v0,cc= .lf .dead v0:=by
                cases cc with
                |lf a0 v0=>simp only[Eb]at qN;subst qN;exact⟨v0,rfl⟩
                |own=>simp at qN
                |agg=>simp at qN
                |BZ=>simp at qN
               obtain⟨v0,rfl⟩:=qM;have hter:t.er=(δ r).er:=(by obtain⟨t2,q1,q2⟩:=Ht (d:=δ r) (p:=p++[(i,j,k)]) (a:=(δ r).er) (.lf .dead (.slice C m c)) (y.ok r).Lh (by rw[Eb];exact put_same _ ((sub_k p k 0).trans OY));rw[Hp]at q1;obtain rfl:=AAW q1;exact q2);have tF:∀x,F' x->Fr r x:=λx l=>(hsubF x l).elim id False.elim;have TZ:∀q v bx k rows,Ax (δ r) q=some (.own v bx k rows)->∃M,Ax t q=some (.own v bx k M):=λq v' lI k' M hq=>(by have hold2:Ax (δ r) (p++[(i,j,k)])=some (.lf .dead v0):=(by rw[JP,CU];simp[Ax,FP,B2]);exact S6 _ Hp hold2 ak ak ak q v' lI k' M hq);have hpoke:=y.poke (w':=w.setCell ⟨b,i*k+j,none⟩ (.slice C m c)) r t F' (λx l=>XQ x (by rintro rfl;exact hbS l)) (λs J x l=>XQ x (by rintro rfl;exact J (y.NK s r _ l hFr))) Qd
                (λs J x l hy=>J (y.NK s r x hy (tF x l))) (by rw[hter];exact y.rt r) (Nj _ Hp (y.al r) (.lf _ _ trivial)) TZ V
               refine wpOp_skip D g1 hr ⟨⟨_,⟨S,Dn δ r t,Dn Fr r F',?_,?_,?_,?_,hpoke,Er.trans ?_,λx l=>by simpa using DA x l⟩,rfl⟩,λ_=>⟨b,i*k+j,arr.setIfInBounds (i*k+j) (.slice C m c),E,?_,S5 _ _ _ _ _ _ _ hbb,?_⟩⟩
               . rw[g2];exact hn
               . rw[g2];exact EF
               . intro s';rw[g2];simp only[Act.put];by_cases e:s'=r
                 . subst e;rw[BW,V];exact ha s'
                 . rw[Br _ _ e];exact ha s'
               . funext s';by_cases e:s'=r
                 . subst e;simp only[BW,hter]
                 . simp only[Br _ _ e]
               . refine⟨rfl,rfl,rfl,ak,λx _ hU=>XQ x (by rintro rfl;exact hU ⟨r,hFr⟩),λ_ h=>h,λ_ h=>.inl h,λF x l=>by simpa using F x l,λx l=>.inl ?_⟩;obtain⟨s,l⟩:=l;by_cases e:s=r
                 . subst e;rw[BW]at l;exact⟨s,tF x l⟩
                 . rw[Br _ _ e]at l;exact⟨s,l⟩
               . rw[g2];exact tT
               . rw[g2];simp only[Act.put,hsv']
                 have:=(ABD.1 hold).1;simp[this]
             . cases l
           . cases l
         . cases H
       . cases H
     . exact R.elim
   . simp only[mV,AAa e,AAT,AAt,ABH]at O;obtain⟨hco,O⟩:=O;have hK:=Is hG IG hco R Q D;have hLe:(L f.i12||f.i12==i)=L f.i12:=(by rw[show(f.i12==i)=false from by simpa using Ne.symm e,Bool.or_false]);rcases O with hb|⟨⟨⟨tK,NM⟩,hd⟩,O⟩
     . -- ahead of it
       refine wpOp_mono (λa' w' h=>⟨h,λF=> ?_⟩) hK;replace F:=hLe.symm.trans F;rw[L12 i hb F]at hLi;cases hLi
     . split at O
       . -- the element's store
         rename_i e9;subst e9;simp only[AAT,ABH]at O;obtain⟨⟨⟨k1,k2⟩,k3⟩,k4⟩:=O;obtain⟨dst,xF,g⟩:=io;simp only at NM k2 k3;subst NM;subst k2;split at k3
         . rename_i nn s' z ty' x' u' YF;simp only[AAT,AAh]at k3;obtain⟨⟨⟨rfl,m2⟩,m3⟩,m4⟩:=k3;obtain⟨w',b9,off,hr,qJ,hp9⟩:∃w' b off,(execOp a.eval o).run P w= .ok .skip w'/\(∀x,x≠b->w'.heap[x]? =w.heap[x]?)/\a.tmps.getD f.e undef= .pointer (some ⟨b,off,none⟩):=by
            obtain⟨S,δ,Fr,hn,EF,ha,rfl,y,Er,DA⟩:=IG;simp only[Jo,EE]at R;split at R
            . rename_i υ H;exact st_frame y ha YF m2 m3 m4 H
            . exact R.elim
           refine wpOp_mono ?_ (vR D tK hr hK);rintro a' w1 ⟨⟨σ',Wh,rfl⟩,rfl,rfl⟩;rw[k1]at Wh |-;simp only[Act.put]at Wh |-;refine⟨⟨_,Wh,rfl⟩,λF=> ?_⟩;replace F:=hLe.symm.trans F;obtain⟨b,oo,arr,E,j1,j2,j3⟩:=hJ F;refine⟨b,oo,arr,E,j1,?_,j3⟩;rw[qJ b ?_];exact j2;rintro rfl;obtain⟨S',δ',Fr',hn',hdef',ha',rfl,LS,hnx',Wf⟩:=Wh;obtain⟨r1,p1',i1,j1',k1',q1,q2⟩:=adr_of (σ:=λs=>(δ' s).er) (adr8 (L:=λj=>(L j||j==f.i9)) (σ:=λs=>(δ' s).er) (by simp[Jr _ k4]) (hτs f.e));obtain⟨r2,p2',i2,j2',k2',q3,q4⟩:=adr_of (σ:=λs=>(δ' s).er) (adr11 (L:=λj=>(L j||j==f.i9)) (σ:=λs=>(δ' s).er) (by simp[L12 _ b11 F]) (hτs f.ap));obtain⟨v1,bx1,rw1,c1,F1,s1,s2,s3,s4,s5⟩:=LS.ER q2;obtain⟨v2,bx2,rw2,c2,F2,t1,t2,t3,t4,t5⟩:=LS.ER q4;have z1:b=c1:=(by have:=(ha' f.e).symm.trans hp9;rw[s3]at this;simp only[Value.pointer.injEq,AAU,Addr.mk.injEq]at this;exact this.1.symm);have z2:b=c2:=(by have:=(ha' f.ap).symm.trans j1;rw[t3]at this;simp only[Value.pointer.injEq,AAU,Addr.mk.injEq]at this;exact this.1.symm);have hr12:=LS.NK r1 r2 b (s5 b (by rw[z1];exact(Qr s4 s2).1)) (t5 b (by rw[z2];exact(Qr t4 t2).1));subst hr12;have u1:=LS.rt f.e;have u2:=LS.rt f.ap;rw[q1]at u1;rw[q3]at u2;simp only[YK,AAu]at u1 u2
           have:=hdj _ u1;simp[u2]at this
         . cases k3
       . -- a plain one
         rename_i e9;have B:=hco;simp only[Hl,AAT]at B;have hcop2:KU P o.op io.op=true:=by have:=B.2;cases Ip:io.op<;>rw[Ip]at this O<;>first|exact this|simp[eP]at O
         obtain⟨v,hv⟩:∃v,valOf io.op σ=some v:=by
          obtain⟨dst,xF,g⟩:=io;simp only at NM O;subst NM;cases dst with
          |none=>cases xF<;>simp[eP]at O<;>simp[Jo,EE,G8]at R
          |some d=>
           simp only[Jo]at R;cases hv:valOf xF σ with
           |some v=>exact⟨v,rfl⟩
           |none=>cases xF<;>simp[eP]at O<;>simp[EE,G8,hv]at R
         obtain⟨u,hr⟩:=fl_run IG hcop2 O hv;have W:D5 G n o.dst io.dst=true:=B.1.1;refine qE D tK hr (λF=> ?_) hK;replace F:=hLe.symm.trans F;obtain⟨b,oo,arr,E,j1,j2,j3⟩:=hJ F;have Hp:∀s,(match io.dst with|some d=>d.d≠s|none=>True)->(a.put o.dst u).tmps.getD s undef=a.tmps.getD s undef:=by
          intro s J;cases hod:o.dst with
          |none=>rfl
          |some t=>
           cases vT:io.dst with
           |none=>rw[hod,vT]at W;simp[D5]at W
           |some d=>rw[hod,vT]at W;rw[vT]at J;simp only[D5,AAT,AAh]at W;have ht:t=d.d:=W.1.1.1;simp only[Act.put,AAn,ABJ];rw[AAa (by rw[ht];exact J)]
         refine⟨b,oo,arr,E,?_,j2,?_⟩
         . rw[Hp];exact j1;cases vT:io.dst with
           |none=>trivial
           |some d=>rw[vT]at hd;simp only[AAT,ABl]at hd;exact hd.2
         . rw[Hp];exact j3;cases vT:io.dst with
           |none=>trivial
           |some d=>rw[vT]at hd;simp only[AAT,ABl]at hd;exact hd.1
end
variable{t new:DV}{ds:jl}{d:ABu D3}
section
variable{w w':ja}{S S':iu}{G:Gi}{δ:ji}{Fr:iy}{P:iz}
theorem subD_putD(p:i4)(d:D4 t p new=some D):Ax D p=some new:=by
 induction p generalizing t D with
 |nil=>simp only[D4,AAU]at d;subst d;rfl
 |cons s p ih=>
  obtain⟨i0,j0,f⟩:=s;cases t with
  |lf a v=>simp[D4]at d
  |own hh b k1 Kb=>
   simp only[D4]at d;cases hi:Kb[i0]? with
   |none=>simp[hi]at d
   |some row1=>
    simp only[hi]at d;cases hj:row1[j0]? with
    |none=>simp[hj]at d
    |some c=>
     simp only[hj]at d;cases hc:D4 c p new with
     |none=>simp[hc]at d
     |some c'=>simp only[hc,AAU]at d;subst d;simp only[Ax,AAX (AAV.1 hi).1,AAX (AAV.1 hj).1];exact ih hc
  |agg cs=>
   simp only[D4]at d;cases hj:cs[j0]? with
   |none=>simp[hj]at d
   |some c=>
    simp only[hj]at d;cases hc:D4 c p new with
    |none=>simp[hc]at d
    |some c'=>simp only[hc,AAU]at d;subst d;simp only[Ax,AAX (AAV.1 hj).1];exact ih hc
  |BZ cs=>
   simp only[D4]at d;cases hj:cs[j0]? with
   |none=>simp[hj]at d
   |some c=>
    simp only[hj]at d;cases hc:D4 c p new with
    |none=>simp[hc]at d
    |some c'=>simp only[hc,AAU]at d;subst d;simp only[Ax,AAX (AAV.1 hj).1];exact ih hc
theorem WL(n d:Nat)(q:i4)(h:Ax t q=some (.lf .dead u)):Ax (HW n d t) q=some (.lf .dead u):=by
 induction q generalizing t with
 |nil=>simp only[Ax,AAU]at h;subst h;rfl
 |cons s q ih=>
  obtain⟨i,j,e⟩:=s;cases t with
  |lf a u=>simp[Ax]at h
  |own hh b k1 Kb=>rw[PK];exact h
  |agg cs=>
   simp only[Ax]at h;cases hj:cs[j]? with
   |none=>simp[hj]at h
   |some c=>simp only[hj]at h;simp only[PJ,Ax,AAf,hj,AA1];exact ih h
  |BZ cs=>
   simp only[Ax]at h;cases hj:cs[j]? with
   |none=>simp[hj]at h
   |some c=>simp only[hj]at h;simp only[PL,Ax,AAf,hj,AA1];exact ih h
theorem St.tkd(h:St G w S δ Fr){a:AV}(g:Abs.dN G n p (λs=>(δ s).er)=some (a,τ)):
 ∃f l D Ff,St G w S f l/\(λs=>(f s).er)=τ/\(∀s,(f s).A0=(δ s).A0)/\Ok w S D Ff/\D.er=a/\Ax (δ n) p=some D/\(∀s x,l s x->¬Ff x)/\
  (∀x,BN l x\/Ff x->BN Fr x)/\Ax (f n) p=some (.lf .dead D.A0):=by
 unfold Abs.dN at g;split at g
 . rename_i b k rows K;split at g
   . rename_i t J;simp only[AAU,AAj]at g;obtain⟨rfl,rfl⟩:=g;obtain⟨D,u,C⟩:=ED (h.ok n).Lh K;obtain⟨B,I,r,E⟩:=h.oZ n p u;obtain⟨L,l,j,y,o,z⟩:=E S (.lf .dead D.A0) ak (.lf _ _ _ trivial (λ_ h=>h)) (λ_ h=>h) (λt b H _=>(h.ok t).FQ b H) ak (Dr.dead _);have m:L.er=t:=(by obtain⟨M,q,F⟩:=Ht (d:=δ n) (p:=p) (a:=t) (.lf .dead D.A0) (h.ok n).Lh (by simpa using J);rw[j]at q;obtain rfl:=AAW q;exact F);refine⟨_,_,D,B,y,by rw[O9 h,m],?_,I,C,u,?_,?_,by rw[BW];exact subD_putD p j⟩
     . intro s;rw[N4 h];split
       . rename_i e;rw[e,z]
       . rfl
     . intro s x c v;by_cases i:s=n
       . subst i;rw[BW]at c;exact((o x).1 c).2 v
       . rw[Br _ _ i]at c;exact i (h.NK s n x c (r x v))
     . rintro x (⟨s,c⟩|c)
       . by_cases i:s=n
         . subst i;rw[BW]at c;exact⟨s,((o x).1 c).1⟩
         . rw[Br _ _ i]at c;exact⟨s,c⟩
       . exact⟨n,r x c⟩
   . cases g
 . cases g
theorem OkL_two(e:Ok w S D F)(g:∀d∈ds,Ok w S d (λ_=>False))(f:Ok w S t U0)(a:∀x,F x->¬U0 x):KT w S (D::(ds++[t])) (λx=>F x\/U0 x):=by
 have c:KT w S [t] U0:=⟨U0,λ_=>False,f,CZ ak,λ_ _ h=>h,λx=>ak⟩;have b:KT w S (ds++[t]) U0:=(Mn (CZ g) c (λ_ h=>h.elim)).congr λx=>ak
 exact⟨F,U0,e,b,a,λx=>Iff.rfl⟩
theorem lb_sound(hG:X4 w0 S0 U0)(h:Rel G n w0 S0 U0 a w σ){Uj:j7}(Lt:Kp P o.op f (x::(Uj++[y])) 0=true)(jH:D5 G n o.dst d=true)(I:lbP P G d f x Uj y K σ)(Q:Exit->Act->World->Prop):
 o.wp P a w (λa' w'=>∃σ',Rel G n w0 S0 U0 a' w' σ'/\K σ') Q:=by
 obtain⟨S,δ,Fr,hn,EF,ha,rfl,CX,Er,DA⟩:=h;obtain⟨cc,fn,ho,Ls,hf,hfb,qI,hm3,UT⟩:=Mb Lt;have hd:=Ec jH hn;obtain⟨x0,xs,y0,F9,hx0,hxs,hy0⟩:∃x0 xs y0,cc.args.toList=x0::(xs++[y0])/\Cc x0 x=true/\Gk xs Uj=true/\Cc y0 y=true:=by
  generalize cc.args.toList=l at UT;cases l with
  |nil=>simp[Gk]at UT
  |cons x0 l=>
   simp only[Gk,AAT]at UT;obtain⟨j,C⟩:=UT;clear Lt I;obtain⟨xs,y0,e,h3,h4⟩:∃xs y0,l=xs++[y0]/\Gk xs Uj=true/\Cc y0 y=true:=by
    induction Uj generalizing l with
    |nil=>
     cases l with
     |nil=>simp[Gk]at C
     |cons y0 l=>
      simp only[List.nil_append,Gk,AAT]at C;cases l with
      |nil=>exact⟨[],y0,rfl,rfl,C.1⟩
      |cons=>simp[Gk]at C
    |cons z Uj ih=>
     cases l with
     |nil=>simp[Gk]at C
     |cons z0 l=>simp only[ABE,Gk,AAT]at C;obtain⟨xs,y0,e,h3,h4⟩:=ih l C.2;exact⟨z0::xs,y0,by simp[e],by simp[Gk,C.1,h3],h4⟩
   exact⟨x0,xs,y0,by rw[e],j,h3,h4⟩
 obtain⟨hxo,ex0⟩:=Aq hx0 ha;obtain⟨hyo,ey0⟩:=Aq hy0 ha;unfold lbP at I;split at I
 case h_2=>exact I.elim
 rename_i u F hp2;split at I
 case h_2=>exact I.elim
 rename_i v τ ZF;obtain⟨b2,k2,W,rfl,lK⟩:∃b2 k2 W,v= .own b2 k2 W/\sub (δ u).er F=some (.own b2 k2 W):=by
  unfold Abs.dN at ZF;split at ZF
  . rename_i b2 k2 W C;split at ZF
    . simp only[AAU,AAj]at ZF;exact⟨_,_,_,ZF.1.symm,C⟩
    . cases ZF
  . cases ZF
 obtain⟨m,V,DY,Ff,R,rfl,Kr,hokY,hYe,hsubY,nK,UY,OY⟩:=CX.tkd ZF;obtain⟨O,q1,q2⟩:=V3 CX (x:=y) hp2 lK;rw[hsubY]at q1;obtain rfl:=AAW q1;have hargv:∀z,DL m z=DL δ z:=by
  intro z;cases z with
  |t s=>exact Kr s
  |c c=>rfl
 have ha0:Rd m a:=λs=>(ha s).trans (Kr s).symm;split at I
 case h_2=>exact I.elim
 rename_i r p ms hp hmid;split at I
 case h_2=>exact I.elim
 rename_i b k rows hs;unfold lbQ at I;obtain⟨Me,res,out,I2,OX,HT,Hp⟩:=I;split at Hp
 case h_2=>exact Hp.elim
 rename_i t hput1;split at Hp
 case h_2=>exact Hp.elim
 rename_i t2 Z;have hK:=Hp;obtain⟨Au,hD,GP⟩:=V3 R (x:=x) hp hs;obtain⟨Fo,XO,CU,N8⟩:=(R.ok r).replace p hD;obtain⟨Ds,p1,p3,p4⟩:=Tm R ha0 Uj hxs hmid;have hFoF:∀x,Fo x->¬Ff x:=λx h=>nK r x (CU x h);have GU:=I2 w S (.own (DL m x) b k Au::(Ds++[.own (DL δ y) b2 k2 O])) (λx=>Fo x\/Ff x) (hG.now Er) (by rw[AAm,AA5,p1,GP,List.map_singleton,hYe]) (BK.2 (OkL_two XO p4 hokY hFoF)) DA;have Vq:(List.map DV.A0 (.own (DL m x) b k Au::(Ds++[.own (DL δ y) b2 k2 O])))=cc.args.toList.map a.eval:=by rw[F9];simp[p3,ex0,ey0,hargv]
 unfold Oper.wp;rw[VP ho Ls hf hfb qI,Oper.upon_enter,<- Vq];refine GU.mono ?_;rintro e w' ⟨rD,os,S',F',rfl,OO,hoe,hoa,Cq,En,NL,wW,Lr,Y6⟩;obtain⟨Fa,Fb,hra',hosk,hdab,SB⟩:=BK.1 Cq;obtain⟨oX,os1,M,rfl,H,hYe',hXa,hYa⟩:∃oX os1 M,os=oX::(os1++[M])/\oX.er=out/\M.er= .own b2 k2 W/\oX.A0=DL m x/\M.A0=DL δ y:=by
  cases os with
  |nil=>simp at hoe
  |cons oX l=>
   simp only[AAm,ABt]at hoe hoa;obtain⟨e1,e2⟩:=hoe;obtain⟨l1,l2,rfl,e3,e4⟩:=List.map_eq_append_iff.1 e2;obtain⟨M,rfl,e5⟩:∃M,l2=[M]/\M.er= .own b2 k2 W:=by
    cases l2 with
    |nil=>simp at e4
    |cons M l3=>simp only[AAm,ABt,List.map_eq_nil_iff]at e4;exact⟨M,by rw[e4.2],e4.1⟩
   refine⟨oX,l1,M,rfl,e1,e5,by simpa using hoa.1,?_⟩
   have:=hoa.2;rw[AA5,AA5]at this
   have:=(List.append_inj' this rfl).2;simpa using this
 obtain⟨FX,FR,hoX,hoR,hdXR,Sr⟩:=hosk;obtain⟨FY,hoY,X⟩:=OkL_at (l:=os1) (r:=[]) hoR;have EP:∀s x,V s x->x<w.heap.size:=λs x i=>(R.ok s).lt x i;have L:∀x,Fa x\/FX x\/FY x->(Fo x\/Ff x)\/w.heap.size<=x:=λx i=>Y6 x ((SB x).2 (i.imp id λh=>(Sr x).2 (h.imp id (X x))))
 -- what a slot owns meets nothing that the call has, but for the lent part
 have w9:∀s x,V s x->¬Fo x->¬(Fa x\/FX x\/FY x):=by
  intro s x i T hh;rcases L x hh with(j|j)|j
  . exact T j
  . exact nK s x i j
  . have:=EP s x i;omega
 have xC:∀b,S b->w'.heap[b]? =w.heap[b]? :=λb D=>En.block b (DA b D) (λhf=>hf.elim (λh=>XO.FQ b h D) λh=>hokY.FQ b h D);have tX:∀s b,V s b->¬Fo b->w'.heap[b]? =w.heap[b]? :=λs b D T=>En.block b (EP s b D) λhf=>hf.elim T (nK s b D);have hS'n:∀s b,V s b->¬Fo b->¬S' b:=by
  intro s b D T h';rcases wW b h' with j| (j|j)|j
  . exact(R.ok s).FQ b D j
  . exact T j
  . exact nK s b D j
  . have:=EP s b D;omega
 have UU:∀s,s≠r->∀x,V s x->¬Fo x:=λs B x i hf=>B (R.NK s r x i (CU x hf));obtain⟨tD,F2,xB,hokt,KK,EJ⟩:=N8 w' S' oX FX (by rw[hXa];simp) hoX (λx i I=>Classical.byContradiction λT=>w9 r x I T (.inr (.inl i))) xC (λb D T=>tX r b D T) NL (λb D T=>hS'n r b D T);have hte:tD.er=t:=by obtain⟨t',j,C⟩:=Ht (d:=m r) (p:=p) (a:=t) oX (R.ok r).Lh (by rw[H];exact hput1);rw[xB]at j;obtain rfl:=AAW j;exact C
 have hdisr:∀s,s≠r->∀x,F2 x->¬V s x:=by
  intro s B x i E;rcases(KK x).1 i with⟨j,_⟩|j
  . exact B (R.NK s r x E j)
  . exact w9 s x E (UU s B x E) (.inr (.inl j))
 have hbX:Ix oX.er=true:=by rw[H];exact OX
 generalize hN:Tf out b k p=N at hK Z;have hab:∀q v' bx k' J,q.length<N->Ax (m r) q=some (.own v' bx k' J)->∃W,Ax tD q=some (.own v' bx k' W):=by
  intro q v' bx k' J hq hsq;subst hN;unfold Tf at hq;split at hq
  . rename_i b1 k1 Kb;split at hq
    . rename_i e;obtain⟨rfl,rfl⟩:=e;refine Oh q p ah xB (λ_ v2 bx2 k2 W C=> ?_) hsq;rw[hD]at C;cases C;cases oX with
      |own hh b2 k2 W=>simp only[FO,AV.own.injEq]at H;obtain⟨rfl,rfl,_⟩:=H;simp only[Ma]at hXa;exact⟨W,by rw[hXa]⟩
      |lf a v=>simp only[Eb]at H;subst H;cases hoX with|lf _ _ _ h=>exact h.elim
      |agg=>simp at H
      |BZ=>simp at H
    . omega
  . omega
 have U:St G w' S' (Dn (Eo G N r m) r tD) (Dn V r F2):=
  R.setn N r tD F2 xC (λs B x i=>tX s x i (UU s B x i)) NL (λs B x i=>hS'n s x i (UU s B x i)) hokt hdisr (NA p xB (R.rt r) (O2 hbX)) (Nj p xB (R.al r) (Vj hbX)) hab
 have TY:(λs=>(Dn (Eo G N r m) r tD s).er)=Dn (GJ G N r λs=>(m s).er) r t:=by
  funext s;unfold Dn;split
  . exact hte
  . exact R.Rl N r s
 have Nb:∀s,(Dn (Eo G N r m) r tD s).A0=(m s).A0:=by
  intro s;unfold Dn;split
  . rename_i e;rw[e,EJ]
  . exact R.Mz N r s
 have YD:Ax (Dn (Eo G N r m) r tD u) F=some (.lf .dead (DL δ y)):=by
  rw[Br _ _ (Ne.symm Me)];unfold Eo;have OY:Ax (m u) F=some (.lf .dead (DL δ y)):=by simpa using OY
  split
  . exact WL N r F OY
  . exact OY
 generalize hδ2:Dn (Eo G N r m) r tD=δ2 at U TY Nb YD;have Y7:∀s x,Dn V r F2 s x->¬(Fa x\/FY x):=by
  intro s x i E;have key:FX x->False:=λhX=>by
   rcases E with E|E
   . exact hdab x E ((Sr x).2 (.inl hX))
   . exact hdXR x hX (X x E)
  by_cases B:s=r
  . subst B;rw[BW]at i;rcases(KK x).1 i with⟨j,C⟩|j
    . exact w9 s x j C (E.imp id .inr)
    . exact key j
  . rw[Br _ _ B]at i;exact w9 s x i (UU s B x i) (E.imp id .inr)
 have hO2:∀s x,Dn V r F2 s x->BN Fr x\/w.heap.size<=x:=by
  intro s x i;have up:V s x->BN Fr x\/w.heap.size<=x:=λh=>.inl (UY x (.inl ⟨s,h⟩));by_cases B:s=r
  . subst B;rw[BW]at i;rcases(KK x).1 i with⟨j,_⟩|j
    . exact up j
    . exact(L x (.inr (.inl j))).imp (λh=>UY x (h.imp (λh=>⟨s,CU x h⟩) id)) id
  . rw[Br _ _ B]at i;exact up i
 generalize Dn V r F2=G2 at U Y7 hO2;obtain⟨Fd,hokd,hsubd,hrepd⟩:=(U.ok u).replace F YD;obtain⟨tE,F3,htE,hokE,hiffE,hannE⟩:=hrepd w' S' M FY (by rw[hYa];simp) hoY (λx i I=>(Y7 _ x I (.inr i)).elim) (λ_ _=>rfl) (λ_ _ _=>rfl) (λ_ h=>h) (λb D _=>(U.ok u).FQ b D);have hteE:tE.er=t2:=by obtain⟨t',j,C⟩:=Ht (d:=δ2 u) (p:=F) (a:=t2) M (U.ok u).Lh (by rw[hYe',<- Z];exact congrArg (λg=>put (g u) F _) TY);rw[htE]at j;obtain rfl:=AAW j;exact C
 have hbY:Ix M.er=true:=by rw[hYe'];rfl
 have hF3:∀x,F3 x->G2 u x\/FY x:=λx i=>((hiffE x).1 i).imp (λh=>h.1) id;have hst3:St G w' S' (Dn (Eo G F.length u δ2) u tE) (Dn G2 u F3):=
  U.setn F.length u tE F3 (λ_ _=>rfl) (λ_ _ _ _=>rfl) (λ_ h=>h) (λs _ x i=>(U.ok s).FQ x i) hokE
   (λs B x i E=>(hF3 x i).elim (λh=>B (U.NK s u x E h)) λh=>Y7 s x E (.inr h)) (NA F htE (U.rt u) (O2 hbY)) (Nj F htE (U.al u) (Vj hbY))
   λq v' bx k' J hq hsq=>Oh q F ah htE (λe=>absurd e ah) hsq
 have her3:(λs=>(Dn (Eo G F.length u δ2) u tE s).er)=Dn (GJ G F.length u (Dn (GJ G N r λs=>(m s).er) r t)) u t2:=by
  rw[<- TY];funext s;unfold Dn;split
  . exact hteE
  . exact U.Rl F.length u s
 have hann3:∀s,(Dn (Eo G F.length u δ2) u tE s).A0=(δ s).A0:=by
  intro s;rw[<- Kr s,<- Nb s];unfold Dn;split
  . rename_i e;rw[e,hannE]
  . exact U.Mz F.length u s
 have hdisD:∀s x,Dn G2 u F3 s x->¬Fa x:=by
  intro s x i E;by_cases B:s=u
  . subst B;rw[BW]at i;exact(hF3 x i).elim (λh=>Y7 s x h (.inl E)) λh=>hdab x E ((Sr x).2 (.inr (X x h)))
  . rw[Br _ _ B]at i;exact Y7 s x i (.inl E)
 have Eu:∀x,(Fo x\/Ff x)->BN Fr x:=λx h=>UY x (h.imp (λh=>⟨r,CU x h⟩) id);have hOwn3:∀x,BN (Dn G2 u F3) x->BN Fr x\/w.heap.size<=x:=by
  rintro x ⟨s,i⟩;by_cases B:s=u
  . subst B;rw[BW]at i;exact(hF3 x i).elim (hO2 s x) λh=>(L x (.inr (.inr h))).imp (Eu x) id
  . rw[Br _ _ B]at i;exact hO2 s x i
 have Hf:∀F4:Nat->Nat->Prop,(∀x,BN F4 x->BN (Dn G2 u F3) x\/Fa x)->Nx w0 S0 U0 w' S' (BN F4):=by
  intro F4 hF4;refine Er.trans ⟨En.os,En.tape,En.output,En.size,λb D T=>En.block b D λhf=>T (Eu b hf),NL,λb D=>(wW b D).imp id (Or.imp (Eu b) id),λ_=>Lr,λx i=> ?_⟩;rcases hF4 x i with j|j
  . exact hOwn3 x j
  . exact(L x (.inl j)).imp (Eu x) id
 rw[<- her3]at hK;have TV:Rd (Dn (Eo G F.length u δ2) u tE) a:=λs=>(ha s).trans (hann3 s).symm;simp only;cases d with
 |none=>
  have h0:o.dst=none:=hd;refine⟨_,⟨S',_,_,?_,?_,?_,rfl,hst3,Hf _ (λx i=>.inl i),Lr⟩,hK⟩
  . rw[h0];exact hn
  . rw[h0];exact EF
  . rw[h0];exact TV
 |some d=>
  simp only[C2]at hK;split at hK
  . rename_i τ' N9;obtain⟨j,C,h3,h4⟩:=hd;rw[<- OO]at N9;obtain⟨δ',F5,LS,KJ,UR,ZE⟩:=hst3.wr C h3 (λ_ _=>rfl) (λ_ _ _=>rfl) (λ_ h=>h) (λs x i=>(hst3.ok s).FQ x i) hra' hdisD (Yq hra' (by rw[OO];exact HT)) N9;refine⟨τ',⟨S',δ',F5,?_,?_,?_,KJ,LS,Hf F5 ZE,Lr⟩,hK⟩
    . rw[j];simpa[Act.put]using hn
    . rw[j];simpa[Act.put]using EF
    . intro s;rw[j,Ja a d.d rD.A0 h4 s,UR s];split
      . rfl
      . exact TV s
  . exact hK.elim
end
variable{e:iv}
section
variable{P:iz}{G:Gi}
theorem HZ(h:∀σ,K σ->e σ)(a:C2 d v K τ):C2 d v e τ:=by
 unfold C2 at*;split at a
 . split at a
   . exact h _ a
   . exact a.elim
 . exact h _ a
theorem arun_mono(h:∀σ,K σ->e σ)(d:EE P G io K σ):EE P G io e σ:=by obtain⟨τ,b,c⟩:=RZ.1 d;exact RZ.2 ⟨τ,b,h _ c⟩
theorem OQ(h:∀σ,K σ->e σ)(d:Jo P G io K σ):Jo P G io e σ:=by obtain⟨τ,b,c⟩:=FE.1 d;exact FE.2 ⟨τ,b,h _ c⟩
def RY(h:∀σ,K σ->e σ):∀{os:jG}{σ:Sg},O0 P G os K σ->O0 P G os e σ
 |[],_,ht=>h _ ht
 |_::_,_,ht=>OQ (λ_ b=>RY h b) ht
theorem Ko(h:∀σ,K σ->e σ):∀{c:np}{σ:Sg},ML P G c K σ->ML P G c e σ
 |[],_,a=>h _ a
 | .o _::_,_,a=>OQ (λ_ i=>Ko h i) a
 | .jU d neg x::c,σ,a=>by
  simp only[ML]at a |-;split at a
  . split at a
    . exactλb B=>HZ (λ_ i=>Ko h i) (a b B)
    . exact a.elim
  . exact a.elim
 | .gld d g n::c,σ,a=>by
  simp only[ML]at a |-;split at a
  . exact HZ (λ_ i=>Ko h i) a
  . exact a.elim
 | .bxv d n s::c,σ,a=>by
  simp only[ML]at a |-;split at a
  . exact⟨a.1,λD C=>HZ (λ_ i=>Ko h i) (a.2 D C)⟩
  . exact a.elim
 | .lb d f x Uj y::c,σ,a=>by
  have r:∀τ,ML P G c K τ->ML P G c e τ:=λ_ i=>Ko h i;simp only[ML,lbP]at a |-;split at a
  case h_2=>exact a.elim
  split at a
  case h_2=>exact a.elim
  split at a
  case h_2=>exact a.elim
  split at a
  case h_2=>exact a.elim
  unfold lbQ at a |-;obtain⟨p,j,out,t,l,u,k⟩:=a;refine⟨p,j,out,t,l,u,?_⟩;split at k
  case h_2=>exact k.elim
  split at k
  case h_2=>exact k.elim
  exact HZ r k
 | .clv d x args::c,σ,a=>by
  simp only[ML,clvP]at a |-;split at a
  . obtain⟨p,t,l,j,u,k⟩:=a;refine⟨p,t,l,j,u,?_⟩;split at k
    . exact HZ (λ_ i=>Ko h i) k
    . exact k.elim
  . exact a.elim
 | .clo d f x args g::c,σ,a=>by
  have r:∀τ,ML P G c K τ->ML P G c e τ:=λ_ i=>Ko h i;have w:sN P d f x args (ML P G c K) σ->sN P d f x args (ML P G c e) σ:=by
   unfold sN;intro a;split at a
   . obtain⟨j,p,l⟩:=a;refine⟨j,p,?_⟩;split at l
     . exact HZ r l
     . exact l.elim
   . exact a.elim
  have z:aU d (ML P G c K) σ->aU d (ML P G c e) σ:=by cases d<;>exact r _
  show gdP g _ _ σ;have a:gdP g _ _ σ:=a;cases g with
  |none=>exact w a
  |some g=>
   obtain⟨g,q⟩:=g;simp only[gdP]at a |-;cases hg:σ g with
   |sc v=>
    cases v with
    |bool b=>
     rw[hg]at a;by_cases m:b=q
     . simp only[AAb m]at a |-;exact w a
     . simp only[AAa m]at a |-;exact z a
    |_=>rw[hg]at a;exact a.elim
   |un=>rw[hg]at a;exact z a
   |_=>rw[hg]at a;exact a.elim
def Yc{f:Apd}(h:∀σ,K σ->e σ):∀{os:jG}{m:Nat}{σ:Sg},Pn P G f m os K σ->Pn P G f m os e σ
 |[],_,_,ht=>⟨ht.1,h _ ht.2⟩
 |_::_,_,_,ht=>⟨ht.1,OQ (λ_ b=>Yc h b) ht.2⟩
def Yb{f:Flo}(h:∀σ,K σ->e σ):∀{os:jG}{σ:Sg},Sl P G f os K σ->Sl P G f os e σ
 |[],_,ht=>h _ ht
 |_::_,_,ht=>⟨ht.1,OQ (λ_ b=>Yb h b) ht.2⟩
theorem runT_mono(h:∀σ,K σ->e σ)(t:Tr):∀{σ:Sg},runT P G X t K σ->runT P G X t e σ:=by
 induction t with
 |leaf=>exactλc=>h _ c
 |one i t ih=>
  intro σ c;simp only[runT]at c |-;split at c
  . exact OQ (λ_=>ih) c
  . exact c.elim
 |fork f m a b Qf tZ=>exactλc=>⟨Qf c.1,tZ c.2⟩
def goA:Exit->Bool
 | .goto _=>true
 |_=>false
theorem eC{ic:IC}:∀{Q k:Exit->Sg->Prop}{σ:Sg},(∀e σ,goA e=false->Q e σ->k e σ)->IU P G ic Q σ->IU P G ic k σ:=by
 induction ic with
 |skip=>exactλh d=>h _ _ rfl d
 |bad=>exactλ_ d=>d
 |fR xs=>exactλh d=>Ko (λσ=>h .normal σ rfl) d
 |dH ops=>exactλh d=>RY (λσ=>h .normal σ rfl) d
 |drw t ops=>exactλh d=>runT_mono (λσ=>h .normal σ rfl) t d
 |jB fs ops=>exactλh d=>RY (λσ=>h .normal σ rfl) d
 |flo f a b=>exactλh d=>Yb (λ_ l=>RY (λσ=>h .normal σ rfl) l) d
 |apd f ops=>intro Q k σ h d;exact Yc (λ_ l=>OQ (λσ=>h .normal σ rfl) l) d
 |pg _ r p a Qf=>
  intro Q k σ h d;refine Qf (λe σ' j g=> ?_) d;cases e with
  |normal=>
   simp only[pgQ]at g |-;split at g
   . exact h _ _ j g
   . exact g.elim
  |_=>exact h _ _ j g
 |gz _ r p a Qf=>
  intro Q k σ h d;simp only[IU]at d |-;split at d
  . exact Qf h d
  . exact d.elim
 |seq a b Qf tZ=>
  intro Q k σ h d;refine Qf (λe σ' j g=> ?_) d;cases e with
  |normal=>exact tZ h g
  |_=>exact h _ _ j g
 |cond c a b Qf tZ=>
  intro Q k σ h d;rw[mP]at d |-;split at d
  . split at d
    . rename_i l;simp only[l,AAy];exact Qf h d
    . rename_i l;simp only[l];exact tZ h d
  . exact d.elim
 |block id a Qf=>
  intro Q k σ h d;refine Qf (λe σ' j g=> ?_) d;cases e with
  |exit i=>
   rw[QX]at g |-;split
   . rename_i hi;rw[AAb hi]at g;exact h _ _ j g
   . rename_i hi;rw[AAa hi]at g;exact h _ _ j g
  |_=>exact h _ _ j g
 |loop a Qf=>
  intro Q k σ h d;obtain⟨I,m,q⟩:=d;refine⟨I,m,λn τ o=>Qf (λe σ' j g=> ?_) (q n τ o)⟩;cases e with
  |normal=>exact g
  |_=>exact h _ _ j g
 |exit id=>exactλh d=>h _ _ rfl d
 |ret=>exactλh d=>h _ _ rfl d
def mQ{ic:IC}{Q a:Exit->Sg->Prop}(h:∀e σ,Q e σ->a e σ):IU P G ic Q σ->IU P G ic a σ:=eC λe σ _=>h e σ
end
variable{c:iv}{s:BD}{m:Nat}
section
variable{G:Gi}{P:iz}{w:ja}
def cR(M:jh)(N:Nat)(E:l0)(L:js)(i:Nat):Prop:=i<N/\L i=false/\(∀x,(M.getD i 0).testBit x=true->L x=true)/\∀x,(x,i)∈E->L x=true
def X7(L:js)(i:Nat):Nat->Bool:=λj=>L j||j==i
theorem adL_comm(L:js)(i j:Nat):X7 (X7 L i) j=X7 (X7 L j) i:=by funext k;simp only[X7];cases L k<;>cases k==i<;>cases k==j<;>rfl
theorem mD(L:js)(i:Nat):X7 L i i=true:=by simp[X7]
theorem gV(h:n≠i):X7 L i n=L n:=by simp[X7,h]
theorem QU(h:L n=true):X7 L i n=true:=by simp[X7,h]
def bQ(P:iz)(G:Gi)(Ce:jG)(M:jh)(N:Nat)(E:l0)(K:iv):Nat->(Nat->Bool)->Sg->Prop
 |0,L,σ=>(∀i,i<N->L i=true)->K σ
 |n+1,L,σ=>((∀i,i<N->L i=true)->K σ)/\∀i,cR M N E L i->∀o,Ce[i]? =some o->Jo P G o (bQ P G Ce M N E K n (X7 L i)) σ
def detO(o:BD):Bool:=match o.op with
 | .call .. =>false
 | .Vx .. =>false
 |_=>true
theorem aop_det(hd:detO io=true)(h:Jo P G io (· =τ) σ)(i:Jo P G io (· =σ') σ):τ=σ':=by
 have l:∀{τ σ'},EE P G io (· =τ) σ->EE P G io (· =σ') σ->τ=σ':=by
  intro τ σ' h i;obtain⟨dst,op,g⟩:=io;cases op<;>first| (cases hd;done)|skip
  all_goals
   simp only[EE]at h i;split at h
   . rename_i c k;rw[k]at i;exact h.symm.trans i
   . exact h.elim
 unfold Jo at h i;cases hg:io.guard with
 |none=>simp only[hg]at h i;exact l h i
 |some gw=>
  obtain⟨g,j⟩:=gw;simp only[hg]at h i;have m:∀{τ σ'},(match io.dst with|some d=>(Dn (Jl d.kl d.d σ) d.d .un)=τ|none=>σ=τ)->(match io.dst with|some d=>(Dn (Jl d.kl d.d σ) d.d .un)=σ'|none=>σ=σ')->τ=σ':=by
   intro τ σ' a b;cases hd:io.dst with
   |none=>simp only[hd]at a b;exact a.symm.trans b
   |some d=>simp only[hd]at a b;exact a.symm.trans b
  cases hv:σ g with
  |sc v=>
   cases v with
   |bool b=>
    simp only[hv]at h i;by_cases e:b=j
    . rw[AAb e]at h i;exact l h i
    . rw[AAa e]at h i;exact m h i
   |_=>simp only[hv]at h
  |un=>simp only[hv]at h i;exact m h i
  |_=>simp only[hv]at h
theorem aop_and(hd:detO io=true)(d:Jo P G io e σ)(a:Jo P G io c σ)(h:∀τ,e τ->c τ->K τ):Jo P G io K σ:=by obtain⟨i,b,f⟩:=FE.1 d;obtain⟨j,g2,g⟩:=FE.1 a;obtain rfl:=aop_det hd b g2;exact FE.2 ⟨_,b,h _ f g⟩
def apart(G:Gi)(a b:BD):Bool:=qO (W2 G a) &&& qO (R2 G b)==0&&qO (R2 G a) &&& qO (W2 G b)==0
theorem W2_R2(h:n∈W2 G io):n∈R2 G io:=by simp only[R2,AAo];exact .inl h
def wfS(G:Gi)(σ:Sg):Prop:=∀s,GL (G.HA s) (σ s)=true
def okO(G:Gi)(o:BD):Prop:=N5 o=true/\∀d,o.dst=some d->d.rs=G.HA d.d
theorem diamond(i:okO G io)(e:okO G s)(f:apart G io s=true){d:Sg}(j:wfS G σ)(o:Jo P G io (· =τ) σ)(p:Jo P G s (· =d) τ):∃g,Jo P G s (· =g) σ/\Jo P G io (· =d) g:=by
 simp only[apart,AAT,AAh]at f;obtain⟨q,l⟩:=f;obtain⟨f1,f2,r⟩:=Ln i.1 i.2 j o;obtain⟨f3,f4,x⟩:=Ln e.1 e.2 r p;obtain⟨g,n,g2,t⟩:=TE (σ':=σ) e.1 e.2 r (λb c=>(f1 b λh=>LX q h c).symm) (λb c=>(f2 b λh=>LX q h c).symm) p;obtain⟨f5,f6,y⟩:=Ln e.1 e.2 j n;obtain⟨m,u,v,w⟩:=TE (σ':=g) i.1 i.2 j (λb c=>f5 b λh=>LX l c h) (λb c=>f6 b λh=>LX l c h) o;refine⟨g,n,?_⟩;have:m=d:=by
  funext b;by_cases c:2*b+1∈W2 G io
  . rw[v b c,f3 b λh=>LX l (W2_R2 c) h]
  . rw[w b c];by_cases k:2*b+1∈W2 G s
    . exact g2 b k
    . rw[t b k,f3 b k,f1 b c]
 rw[<- this];exact u
section
variable{Ce:jG}{M:jh}{N:Nat}{E:l0}{K:iv}
theorem dR:∀(n:Nat){L:js}{σ:Sg},L f=true->bQ P G Ce M N ((f,m)::E) K n L σ->bQ P G Ce M N E K n L σ:=by
 intro n;induction n with
 |zero=>intro L σ _ h;exact h
 |succ n ih=>
  intro L σ b h;refine⟨h.1,λi hi o d=> ?_⟩
  have:=h.2 i ⟨hi.1,hi.2.1,hi.2.2.1,λx a=>by
   rcases AAr.1 a with e|a
   . cases e;exact b
   . exact hi.2.2.2 x a⟩ o d
  obtain⟨τ,c,g2⟩:=FE.1 this;exact FE.2 ⟨τ,c,ih (QU b) g2⟩
theorem x7(k:f≠m)(b:∀o∈Ce,detO o=true):∀(n:Nat){L:js}{σ:Sg},bQ P G Ce M N ((f,m)::E) K n L σ->bQ P G Ce M N ((m,f)::E) K n L σ->bQ P G Ce M N E K n L σ:=by
 intro n;induction n with
 |zero=>intro L σ h _;exact h
 |succ n ih=>
  intro L σ g l;refine⟨g.1,λi hi o c=> ?_⟩;have p:(i=m->L f=true)->cR M N ((f,m)::E) L i:=λj=>⟨hi.1,hi.2.1,hi.2.2.1,λx a=>by
   rcases AAr.1 a with e|a
   . cases e;exact j rfl
   . exact hi.2.2.2 x a⟩
  have q:(i=f->L m=true)->cR M N ((m,f)::E) L i:=λj=>⟨hi.1,hi.2.1,hi.2.2.1,λx a=>by
   rcases AAr.1 a with e|a
   . cases e;exact j rfl
   . exact hi.2.2.2 x a⟩
  by_cases r:i=m/\L f=false
  . obtain⟨rfl,_⟩:=r;obtain⟨τ,d,g2⟩:=FE.1 (l.2 i (q λe=>absurd e.symm k) o c);exact FE.2 ⟨τ,d,dR n (mD L i) g2⟩
  . by_cases s:i=f/\L m=false
    . obtain⟨rfl,_⟩:=s;obtain⟨τ,d,g2⟩:=FE.1 (g.2 i (p λe=>absurd e k) o c);exact FE.2 ⟨τ,d,dR n (mD L i) g2⟩
    . exact aop_and (b o (AAg c)) (g.2 i (p λe=>by cases h:L f<;>simp_all) o c) (l.2 i (q λe=>by cases h:L m<;>simp_all) o c) λτ=>ih
def unl(N:Nat)(L:js):Nat:=(List.range N).countP λi=> !L i
theorem lC(hi:i<N)(b:L i=false):unl N (X7 L i)<unl N L:=
 eL (p:=λi=> !L i) (p':=λj=> !X7 L i j) (λj a=>by simp only[X7]at a;simp at a |-;exact a.1) (i:=i) (by simp[b]) (by simp[X7]) N hi
theorem p8(h:unl N L=0):∀i,i<N->L i=true:=by
 intro i hi;rw[unl,List.countP_eq_zero]at h
 have:=h i (by simpa using hi);simpa using this
def o7(E:l0)(L:js):Prop:=∀e∈E,L e.2=true->L e.1=true
theorem fQ(h:o7 E L)(hi:cR M N E L i):o7 E (X7 L i):=by
 intro e b c;by_cases a:e.2=i
 . exact QU (hi.2.2.2 e.1 (by rw[<- a];exact b))
 . rw[gV a]at c;exact QU (h e b c)
def depT(M:jh)(E:l0)(i j:Nat):Bool:=(M.getD j 0).testBit i||E.any λe=>e.1==i&&(e.2==j||(M.getD j 0).testBit e.2)
theorem depT_not(h:o7 E L)(hi:L i=false)(a:cR M N E L n)(hd:depT M E i n=true):False:=by
 simp only[depT,AAt,List.any_eq_true,AAT,AAh]at hd;rcases hd with g|⟨e,b,rfl,rfl|g⟩
 . exact absurd (a.2.2.1 i g) (by simp[hi])
 . exact absurd (a.2.2.2 e.1 b) (by simp[hi])
 . exact absurd (h e b (a.2.2.1 _ g)) (by simp[hi])
theorem AllO_one(p:Ce[i]? =some io)(t:∀io∈Ce,okO G io):∀(n:Nat){L:js}{σ:Sg},unl N L<=n+1->o7 E L->wfS G σ->cR M N E L i->
 (∀j,j<N->L j=false->j≠i->depT M E i j=true\/∀o',Ce[j]? =some o'->apart G io o'=true)->Jo P G io (bQ P G Ce M N E K n (X7 L i)) σ->bQ P G Ce M N E K (n+1) L σ:=by
 have q:=t io (AAg p);intro n;induction n with
 |zero=>
  intro L σ F l r hi b h;refine⟨λk=>absurd (k i hi.1) (by simp[hi.2.1]),λj a o' f=> ?_⟩;by_cases e:j=i
  . subst e;obtain rfl:=AAW (p.symm.trans f);exact h
  . have O:=lC (N:=N) hi.1 hi.2.1;have u:=p8 (N:=N) (L:=X7 L i) ah j a.1;rw[gV e,a.2.1]at u;cases u
 |succ n ih=>
  intro L σ F l r hi b h;refine⟨λk=>absurd (k i hi.1) (by simp[hi.2.1]),λj a o' f=> ?_⟩;by_cases e:j=i
  . subst e;obtain rfl:=AAW (p.symm.trans f);exact h
  . have m:apart G io o'=true:=by
     rcases b j a.1 a.2.1 e with g|g
     . exact(depT_not l hi.2.1 a g).elim
     . exact g o' f
    have d:=t o' (AAg f);obtain⟨J,B,g2⟩:=FE.1 h;have z:cR M N E (X7 L i) j:=⟨a.1,by rw[gV e];exact a.2.1,λx c=>QU (a.2.2.1 x c),λx c=>QU (a.2.2.2 x c)⟩;obtain⟨s,C,D⟩:=FE.1 (g2.2 j z o' f);obtain⟨τ,w,I⟩:=diamond q d m r B C;have hi':cR M N E (X7 L j) i:=⟨hi.1,by rw[gV (Ne.symm e)];exact hi.2.1,λx c=>QU (hi.2.2.1 x c),λx c=>QU (hi.2.2.2 x c)⟩;have H:=lC (N:=N) a.1 a.2.1;refine FE.2 ⟨τ,w,ih ah (fQ l a) (Ln d.1 d.2 r w).2.2 hi' (λx c v y=>b x c ?_ y) (FE.2 ⟨s,I,by rw[adL_comm];exact D⟩)⟩;cases hlx:L x with
    |false=>rfl
    |true=>rw[QU hlx]at v;cases v
def mX(G:Gi)(Ce:jG)(M:jh)(N:Nat):List (Nat×Nat)->List Nat->Tr->Bool
 |_,l,.leaf=>(List.range N).all l.contains
 |E,l,.one i t=>(match Ce[i]? with
  |some o=>decide (i<N)&& !l.contains i&&(List.range N).all (λx=> !(M.getD i 0).testBit x||l.contains x)&&decide ((M.getD i 0)<2^N)&&E.all (λe=>e.2 != i||l.contains e.1)&&
   (List.range N).all (λj=>l.contains j||j==i||depT M E i j||(match Ce[j]? with|some o'=>apart G o o'|none=>true))&&mX G Ce M N E (i::l) t
  |none=>false)
 |E,l,.fork f m a b=>f != m&& !l.contains f&& !l.contains m&&Ce.all detO&&mX G Ce M N ((f,m)::E) l a&&mX G Ce M N ((m,f)::E) l b
theorem x8(y:∀o∈Ce,okO G o)(t:Tr):∀{E:l0}{l:jh}{σ:Sg}(n:Nat),unl N l.contains<=n->o7 E l.contains->wfS G σ->mX G Ce M N E l t=true->runT P G Ce t K σ->bQ P G Ce M N E K n l.contains σ:=by
 induction t with
 |leaf=>
  intro E l σ n s q r g d;simp only[mX,AAY,ABo]at g;cases n with
  |zero=>exactλ_=>d
  |succ n=>exact⟨λ_=>d,λi hi=>absurd (g i hi.1) (by rw[hi.2.1];decide)⟩
 |one i t ih=>
  intro E l σ n s q r g d;simp only[mX]at g;simp only[runT]at d;cases p:Ce[i]? with
  |none=>simp[p]at d
  |some o=>
   simp only[p,AAT,AAl,AAY,AAt,ABG,ABo,ABl,ne_eq,AAh]at g d;obtain⟨⟨⟨⟨⟨⟨v,w⟩,z⟩,B⟩,O⟩,Q⟩,R⟩:=g;have c:(i::l).contains=X7 l.contains i:=(by funext j;simp only[X7,List.contains_cons];rw[Bool.or_comm]);have U:=lC (N:=N) (L:=l.contains) v w;cases n with
   |zero=>omega
   |succ n=>
    have F:cR M N E l.contains i:=by
     refine⟨v,w,λx u=> ?_,λx u=> ?_⟩
     . have D:x<N:=by
        rcases Nat.lt_or_ge x N with h|h
        . exact h
        . have:=Nat.testBit_lt_two_pow (ABP B (Nat.pow_le_pow_right bg h));rw[this]at u;cases u
       exact(z x D).resolve_left (by rw[u];decide)
     . exact(O (x,i) u).resolve_left ak
    refine AllO_one p y n s q r F (λj T C I=> ?_) ?_
    . rcases Q j T with((h|h)|h)|h
      . rw[C]at h;cases h
      . exact absurd h I
      . exact .inl h
      . exact .inr λo' J=>by simpa[J]using h
    . obtain⟨τ,H,g2⟩:=FE.1 d;refine FE.2 ⟨τ,H,?_⟩;rw[<- c];exact ih n (by rw[c];omega) (by rw[c];exact fQ q F) (Ln (y o (AAg p)).1 (y o (AAg p)).2 r H).2.2 R g2
 |fork f m a b Qf tZ=>
  intro E l σ n s q r g d;simp only[mX,AAT,ABl,ne_eq,ABG]at g;obtain⟨⟨⟨⟨⟨v,d1⟩,S⟩,w⟩,z⟩,B⟩:=g;refine x7 v (λo p=>AAY.1 w o p) n (Qf n s (λe k c=> ?_) r z d.1) (tZ n s (λe k c=> ?_) r B d.2)
  . rcases AAr.1 k with rfl|k
    . rw[S]at c;cases c
    . exact q e k c
  . rcases AAr.1 k with rfl|k
    . rw[d1]at c;cases c
    . exact q e k c
def sF(P:iz)(G:Gi)(n:Nat)(ops:Array Oper)(t:Tr)(Ce:jG):Bool:=
 MN P G n ops ops.toList Ce&&Ce.all N5&&Uu (TJ ops.toList []) [] [] 0 ops.toList&&mX G Ce (TJ ops.toList []) ops.size [] [] t
theorem zU(hG:X4 w0 F U0){K:iv}(Q:Exit->Act->World->Prop)(hQ:∀a w σ,Rel G n w0 F U0 a w σ->K σ->Q .normal a w){Ce:jG}{t:Tr}{w:ja}(h:Rel G n w0 F U0 a w σ)(hc:sF P G n ops t Ce=true)(hr:runT P G Ce t K σ):wpAny P .any ops Q ops.size (Array.replicate ops.size false) a w:=by
 simp only[sF,AAT]at hc;obtain⟨⟨⟨c1,c2⟩,c3⟩,c4⟩:=hc;obtain⟨u,XP⟩:=eJ _ c1;have hN:Ce.length=ops.size:=by rw[<- u];simp
 have Pp:∀i,i<ops.size->∃o io,ops[i]? =some o/\ops.toList[i]? =some o/\Ce[i]? =some io:=λi hi=>⟨ops[i],Ce[i]' ah,by simp[hi],by simp[hi],by simp[hN,hi]⟩;have Cq:∀io∈Ce,okO G io:=by intro io D;obtain⟨i,hi,rfl⟩:=ABX D;obtain⟨o,io,y,p,q⟩:=Pp i ah;rw[AAZ hi]at q;obtain rfl:=AAW q;exact⟨AAY.1 c2 _ D,TL (XP i o _ p (AAZ hi))⟩
 generalize hM:TJ ops.toList []=M at c3 c4;have Ps:=Uv _ c3;simp only[ABW]at Ps;have hwf:∀{a w σ},Rel G n w0 F U0 a w σ->wfS G σ:=by rintro a w σ ⟨S,δ,Fr,_,_,_,rfl,CX,_⟩ s;exact CX.rt s
 have O:∀(fuel:Nat)(b:Array Bool)(a:Act)(w:ja)(σ:Sg),b.size=ops.size->unl ops.size (λj=>b.getD j false)<=fuel->
  (∀j,j<ops.size->b.getD j false=true->∀i,(M.getD j 0).testBit i=true->b.getD i false=true)->
  Rel G n w0 F U0 a w σ->bQ P G Ce M ops.size [] K fuel (λj=>b.getD j false) σ->wpAny P .any ops Q fuel b a w:=by
  intro fuel;induction fuel with
  |zero=>
   intro b a w σ Pt B Z U T;have hz:=p8 (N:=ops.size) (L:=λj=>b.getD j false) ah;refine⟨?_,hQ a w σ U (T hz)⟩;simp only[Region.ready,List.filter_eq_nil_iff,ABo];intro j g
   have:=hz j g;simp only[AAn,ABa (show j<b.size by omega),ABf]at this |-;simp[this]
  |succ fuel ih=>
   intro b a w σ Pt B Z U T;have C:∀j,j<ops.size->b.getD j true=b.getD j false:=λj g=>(by simp only[AAn,ABa (show j<b.size by omega),ABf]);refine⟨λtS=> ?_,λi hi=> ?_⟩
   . refine hQ a w σ U (T.1 λj g=> ?_);induction j using Nat.strongRecOn with
     |_ j ihj=>
      cases c:b.getD j false with
      |true=>exact c
      |false=>
       exfalso;obtain⟨o,io,y,p,q⟩:=Pp j g;have:j∈Region.ready .any ops b:=by
        simp only[Region.ready,List.mem_filter,ABo];refine⟨g,?_⟩;rw[C j g,c];simp only[Bool.not_false,AAq,y,AA1,ABf,Array.all_eq_true'];intro e r;cases V:Region.binds .any e with
        |false=>rfl
        |true=>
         have X:=(Ps j o p).2.1 e (by simpa using r) V
         have:=ihj e.on X ah;simp[this]
       rw[tS]at this;cases this
   . simp only[Region.ready,List.mem_filter,ABo,AAT,ABG]at hi;obtain⟨W,l,P6⟩:=hi;rw[C i W]at l;obtain⟨o,io,y,p,q⟩:=Pp i W;simp only[y,AA1,ABf,Array.all_eq_true',AAt,ABG]at P6;obtain⟨I,J,_⟩:=Ps i o p;have Jr:∀x,(M.getD i 0).testBit x=true->b.getD x false=true:=by
      intro x m;rw[I]at m;obtain⟨e,r,V,k⟩:=wC m;have X:=J e r V;have E:b.getD e.on false=true:=(P6 e (by simpa using r)).resolve_left (by simp[V]);rcases k with rfl|k
      . exact E
      . exact Z e.on ah E x k
     have z:∀j,(b.setIfInBounds i true).getD j false=(b.getD j false||j==i):=by
      intro j;simp only[AAn,ABJ];by_cases e:i=j
      . subst e;simp[show i<b.size by omega]
      . have e':¬j=i:=λx=>e x.symm;simp[e,e']
     have d:(λj=>(b.setIfInBounds i true).getD j false)=X7 (λj=>b.getD j false) i:=funext z;have H:cR M ops.size [] (λj=>b.getD j false) i:=⟨W,l,Jr,λx m=>by cases m⟩;refine wpOp_mono ?_ (Is hG U (XP i o io p q) (T.2 i H io q) Q y);rintro a' w' ⟨σ2,Wh,f⟩;have X:=lC (N:=ops.size) (L:=λj=>b.getD j false) W l;refine ih _ a' w' σ2 (by simp[Pt]) (by rw[d];omega) ?_ Wh (by rw[d];exact f);intro j hjN c x m;rw[z]at c |-;simp only[AAt,AAh]at c |-;rcases c with c|rfl
     . exact .inl (Z j hjN c x m)
     . exact .inl (Jr x m)
 have h0:(λj=>(Array.replicate ops.size false).getD j false)=([]:List Nat).contains:=by funext j;simp only[AAn,Array.getElem?_replicate,List.contains_nil];split<;>rfl
 refine O ops.size _ a w σ ak (by exact ABO (List.countP_le_length) (by simp)) (λj g c=> ?_) h ?_
 . have:=congrFun h0 j;simp only[List.contains_nil]at this;rw[this]at c;cases c
 . rw[h0];exact x8 Cq t ops.size (by exact ABO (List.countP_le_length) (by simp)) (λe r=>by cases r) (hwf h) c4 hr
end
end
variable{zs:iq}
section
variable{w w':ja}{S S':iu}{G:Gi}{δ:ji}{Fr:iy}{P:iz}
def ints(l:iq):List (List AV):=l.map λz=>[AV.sc (.int .i64 z)]
theorem nY(l:iq):(ints l).length=l.length:=by simp[ints]
theorem nX(l:iq)(i:Nat):(ints l)[i]? =(l[i]?).map λz=>[AV.sc (.int .i64 z)]:=by simp[ints]
theorem Zf(h:Ok w S D F)(f:D.er= .own false 1 (ints zs)):
 (D.A0= .slice none 0 0/\zs=[]/\∀x,¬F x)\/∃b c arr E,D.A0= .slice (some ⟨b,0,none⟩) zs.length c/\w.heap[b]? =some (.cells arr E (0,0))/\c=arr.size/\zs.length<=c/\¬S b/\
  (∀(i:Nat)(z:Int),zs[i]? =some z->arr[i]? =some (.int .i64 z))/\(∀x,F x↔x=b):=by
 cases h with
 |lf a v _ ha hF=>simp only[Eb]at f;subst f;exact ha.elim
 |agg=>simp at f
 |BZ=>simp at f
 |nil k _ hF=>
  simp only[FO,AA2,AV.own.injEq,true_and]at f
  left
  refine⟨ak,?_,hF⟩
  have:=congrArg List.length f.2;simpa[ints]using this.symm
 |own bx k rows b c arr E Fs _ hb hk Ee Md hv hr hd B0 LR hF=>
  simp only[FO,AV.own.injEq]at f;obtain⟨rfl,rfl,f⟩:=f
  right
  have g:rows.length=zs.length:=by have:=congrArg List.length f;simpa[ints]using this
  simp only[AAd,AAk,Nat.mul_one]at Ee;have o:∀(i:Nat)(z:Int),zs[i]? =some z->∃D v,rows[i]? =some [D]/\D= .lf (.sc (.int .i64 z)) v/\v= .int .i64 z:=by
   intro i z n;have e:(rows.map (·.map DV.er))[i]? =some [AV.sc (.int .i64 z)]:=(by rw[f,nX,n];rfl);rw[AAf]at e;cases Jy:rows[i]? with
   |none=>simp[Jy]at e
   |some row=>
    simp only[Jy,AA1,AAU]at e;obtain⟨D,rfl,l⟩:=ABb.1 e;clear e;have e:=l;clear l;have m:=hr i 0 [D] D Jy rfl;cases m with
    |lf a v _ ha hF=>rw[Eb]at e;subst e;exact⟨_,v,rfl,rfl,ha.1⟩
    |nil=>simp at e
    |own=>simp at e
    |agg=>simp at e
    |BZ=>simp at e
  refine⟨b,c,arr,E,by simp[KW,g],hb,Ee.1,ah,Md,?_,?_⟩
  . intro i z n;obtain⟨D,v,e,rfl,rfl⟩:=o i z n
    have:=hv i 0 _ _ e rfl;simpa using this
  . intro x;rw[hF x];constructor
    . rintro(h|⟨i,j,h⟩)
      . exact h
      . obtain⟨row,D,e,l⟩:=B0 i j x h;have hi:i<zs.length:=(by rw[<- g];exact(AAV.1 e).1);obtain⟨r,v,p,rfl,_⟩:=o i zs[i] (AAZ hi);rw[e]at p;obtain rfl:=AAW p;have q:j=0:=(by have:=(AAV.1 l).1;simp at this;exact this);subst q;simp only[ABA,AAU]at l;subst l;have m:=hr i 0 _ _ e rfl;cases m with
        |lf _ _ _ _ Y6=>exact absurd h (Y6 x)
    . exact .inl
theorem YH{c:Nat}(m:w.heap[f]? =some (.cells tmps E (0,0)))(n:c=tmps.size)(q:zs.length<=c)(l:¬S f)(p:∀(i:Nat)(z:Int),zs[i]? =some z->tmps[i]? =some (.int .i64 z)):
 ∃d,d.er= .own false 1 (ints zs)/\d.A0= .slice (some ⟨f,0,none⟩) zs.length c/\Ok w S d (λx=>x=f):=by
 have b:∀(i j:Nat) row d,(zs.map λz=>[DV.lf (.sc (.int .i64 z)) (.int .i64 z)])[i]? =some row->row[j]? =some d->∃z,zs[i]? =some z/\j=0/\d= .lf (.sc (.int .i64 z)) (.int .i64 z):=by
  intro i j row d a e;rw[AAf]at a;cases hi:zs[i]? with
  |none=>simp[hi]at a
  |some z=>simp only[hi,AA1,AAU]at a;subst a;have o:j=0:=(by have:=(AAV.1 e).1;simp at this;exact this);subst o;simp only[ABA,AAU]at e;exact⟨z,rfl,rfl,e.symm⟩
 have k:=Ok.own (w:=w) (S:=S) false 1 (zs.map λz=>[DV.lf (.sc (.int .i64 z)) (.int .i64 z)]) f c tmps E (λ_ _ _=>False) (λx=>x=f) m ak (by simp[n];omega) l
  (by intro i j row d a e;obtain⟨z,g,rfl,rfl⟩:=b i j row d a e;simpa using p i z g)
  (by intro i j row d a e;obtain⟨z,g,rfl,rfl⟩:=b i j row d a e;exact .lf _ _ _ ⟨rfl,rfl⟩ (λ_ h=>h))
  (λ_ _ _ _ _ h=>h.elim) (λ_ _ _ h=>h.elim) (λ_ _ h=>h) (λx=>ak)
 exact⟨_,by simp[ints],by simp[KW],k⟩
end
variable{R:np}{Z:Code}
section
variable{w w':ja}{S S':iu}{G:Gi}{δ:ji}{Fr:iy}{P:iz}
def iG(P:iz)(G:Gi)(n:Nat)(ops:Array Oper)(o:Oper):mC->Bool
 | .o io=>Hl P G n ops o io
 | .jU d neg x=>o.guard.isNone&&D5 G n o.dst (some d)&&sK P o.op neg x
 | .gld d g m=>o.guard.isNone&&D5 G n o.dst (some d)&&sI P o.op g m
 | .bxv d m s=>o.guard.isNone&&D5 G n o.dst (some d)&&sC P o.op m s
 | .lb d f x Uj y=>o.guard.isNone&&D5 G n o.dst d&&Kp P o.op f (x::(Uj++[y])) 0
 | .clo d f x args g=>Lo n ops o.guard g&&D5 G n o.dst d&&sD P o.op f x args
 | .clv d x args=>o.guard.isNone&&D5 G n o.dst d&&sE o.op x args
def eK(P:iz)(G:Gi)(n:Nat)(ops:Array Oper):List Oper->List mC->Bool
 |[],[]=>true
 |o::os,x::xs=>iG P G n ops o x&&eK P G n ops os xs
 |_,_=>false
theorem mR(t:X4 w0 F U0)(Q:Exit->Act->World->Prop)(B:ops[f]? =some o){x:mC}{w:ja}(h:Rel G n w0 F U0 a w σ)(c:iG P G n ops o x=true/\True)(b:ML P G (x::R) K σ):wpOp P ops Q f (λq w'=>∃σ',Rel G n w0 F U0 q w' σ'/\ML P G R K σ') a w:=by
 have j:o.guard.isNone=true->o.wp P a w (λq w'=>∃σ',Rel G n w0 F U0 q w' σ'/\ML P G R K σ') Q->wpOp P ops Q f (λq w'=>∃σ',Rel G n w0 F U0 q w' σ'/\ML P G R K σ') a w:=by
  intro N D;unfold wpOp;rw[B];have C:o.guard=none:=by simpa using N
  simp only;rw[AAb (by simp[Region.wanted,C])];exact .inl D
 cases x with
 |o io=>exact Is t h c.1 b Q B
 |jU d neg x=>
  simp only[iG,AAT]at c;obtain⟨⟨⟨e,g2⟩,i⟩,_⟩:=c;refine j e ?_;simp only[ML]at b;split at b
  . rename_i T U O;split at b
    . rename_i rows I;exact uH h i g2 O I b Q
    . exact b.elim
  . exact b.elim
 |lb d k x Uj y=>simp only[iG,AAT]at c;obtain⟨⟨⟨e,g2⟩,i⟩,_⟩:=c;exact j e (lb_sound t h i g2 b Q)
 |clv d x args=>simp only[iG,AAT]at c;obtain⟨⟨⟨e,g2⟩,i⟩,_⟩:=c;exact j e (zP t h i g2 b Q)
 |bxv d m s=>
  simp only[iG,AAT]at c;obtain⟨⟨⟨e,g2⟩,i⟩,_⟩:=c;refine j e ?_;simp only[ML]at b;split at b
  . rename_i M z;exact zH h i g2 z b.1 b.2 Q
  . exact b.elim
 |clo d k x args g=>
  simp only[iG,AAT]at c;obtain⟨⟨⟨e,g2⟩,i⟩,_⟩:=c;simp only[ML]at b;refine Qc h g2 e Q (λb=> ?_) (λ_ _ r f=>⟨_,r,f⟩) b B;unfold sN at b;split at b
  . rename_i L H;obtain⟨S,l,b⟩:=b;split at b
    . rename_i v E;exact zO t h i g2 H l E b Q
    . exact b.elim
  . exact b.elim
 |gld d g m=>
  simp only[iG,AAT]at c;obtain⟨⟨⟨e,g2⟩,i⟩,_⟩:=c;refine j e ?_;simp only[ML]at b;split at b
  . rename_i M J;exact AAO t h i g2 J b Q
  . exact b.elim
theorem zC(s:X4 w0 F U0)(Q:Exit->Act->World->Prop)(t:∀a w σ,Rel G n w0 F U0 a w σ->K σ->Q .normal a w)(d:np):
 ∀(k:Nat){a:Act}{w:ja}{σ:Sg},Rel G n w0 F U0 a w σ->eK P G n ops (ops.toList.drop k) d=true->ML P G d K σ->wpOps P ops Q (List.range' k (ops.size-k)) a w:=by
 induction d with
 |nil=>
  intro k a w σ h b m;have p:ops.toList.drop k=[]:=by cases hd:ops.toList.drop k with|nil=>rfl|cons o os=>rw[hd]at b;simp[eK]at b
  have q:ops.size<=k:=by simpa using p
  rw[show ops.size-k=0 from by omega];exact t a w σ h m
 |cons x d ih=>
  intro k a w σ h b m;cases hd:ops.toList.drop k with
  |nil=>rw[hd]at b;simp[eK]at b
  |cons o os=>rw[hd]at b;simp only[eK,AAT]at b;have p:k<ops.size:=(by have:(ops.toList.drop k).length=os.length+1:=(by rw[hd];rfl);simp at this;omega);have u:ops[k]? =some o:=(by have:(ops.toList.drop k)[0]? =some o:=(by rw[hd];rfl);simpa using this);have l:ops.toList.drop (k+1)=os:=(by have:(ops.toList.drop k).drop 1=os:=(by rw[hd];rfl);rw[List.drop_drop]at this;exact this);rw[show ops.size-k=(ops.size-(k+1))+1 from by omega,List.range'_succ,wpOps_cons];have c:∀i w',(∃σ',Rel G n w0 F U0 i w' σ'/\ML P G d K σ')->wpOps P ops Q (List.range' (k+1) (ops.size-(k+1))) i w':=(by rintro i w' ⟨σ',r,j⟩;exact ih (k+1) r (by rw[l];exact b.2) j);exact wpOp_mono c (mR s Q u h ⟨b.1,trivial⟩ m)
def G7(P:iz)(G:Gi)(n:Nat):Code->IC->Bool
 | .skip,.skip=>true
 |_,.bad=>true
 |c,.gz _ _ _ a=>G7 P G n c a
 |c,.pg _ _ _ a=>G7 P G n c a
 | .region _ ops false,.fR xs=>eK P G n ops ops.toList xs
 | .region _ ops d,.dH Ce=>MN P G n ops ops.toList Ce&&(!d||Mq G ops.toList Ce)
 | .region _ ops true,.flo f aZ9 bs=>sH P G n f ops (aZ9++bs)&&aZ9.length==f.i2+1
 | .region _ ops true,.jB fs Ce=>sG P G n fs ops Ce
 | .region _ ops true,.drw t Ce=>sF P G n ops t Ce
 | .region _ ops true,.apd f Ce=>sB P G n f ops Ce
 | .seq a b,.seq a' b'=>G7 P G n a a'&&G7 P G n b b'
 | .cond c a b,.cond c' a' b'=>Cc c c'&&G7 P G n a a'&&G7 P G n b b'
 | .block id a,.block id' a'=>id==id'&&G7 P G n a a'
 | .loop a,.loop a'=>G7 P G n a a'
 | .exit id,.exit id'=>id==id'
 | .ret,.ret=>true
 | .label _,.skip=>true
 | .scope a,.seq .skip c=>G7 P G n a c
 |_,_=>false
def Rw(m:Nat)(a0 a:Act):Prop:=∀i,i<m->a.tmps.getD i undef=a0.tmps.getD i undef
def Rw.refl(m:Nat)(a:Act):Rw m a a:=λ_ _=>rfl
def Wb(m:Nat)(o:Oper):Bool:=match o.dst with
 |some d=>decide (m<=d)
 |none=>true
def Gm(m:Nat):Code->Bool
 | .region _ ops _=>ops.toList.all (Wb m)
 | .seq a b=>Gm m a&&Gm m b
 | .cond _ a b=>Gm m a&&Gm m b
 | .block _ a=>Gm m a
 | .loop a=>Gm m a
 | .scope a=>Gm m a
 |_=>true
theorem QY(c:Code):Gm 0 c=true:=by
 induction c with
 |region id ops d=>simp only[Gm,AAY];intro o _;unfold Wb;split<;>simp
 |seq a b Qf tZ=>simp[Gm,Qf,tZ]
 |cond c a b Qf tZ=>simp[Gm,Qf,tZ]
 |block id a Qf=>simp[Gm,Qf]
 |loop a Qf=>simp[Gm,Qf]
 |scope a Qf=>simp[Gm,Qf]
 |_=>simp[Gm]
def Kept(m:Nat)(a0:Act)(Q:Exit->Act->World->Prop)(e:Exit)(a:Act)(w:ja):Prop:=Q e a w/\(e= .outgrown\/Rw m a0 a)
theorem Rw.put{a0:Act}(h:Rw m a0 a)(b:Wb m o=true)(v:jn):Rw m a0 (a.put o.dst v):=by
 intro i hi;unfold Wb at b;split at b
 . rename_i d hd;simp only[AAl]at b;rw[hd];simp only[Act.put,AAn,ABJ];rw[AAa ah]
   have:=h i hi;simpa[AAn]using this
 . rename_i hd;rw[hd];exact h i hi
theorem bF{a0:Act}(n:ops.toList.all (Wb m)=true)(l:jh):
 ∀(a:Act)(w:ja),Rw m a0 a->wpOps P ops Q l a w->wpOps P ops (Kept m a0 Q) l a w:=by
 induction l with
 |nil=>intro a w c h;exact⟨h,.inr c⟩
 |cons i rest ih=>
  intro a w c h;simp only[wpOps]at h |-;cases ho:ops[i]? with
  |none=>simp only[ho]at h |-;exact ih a w c h
  |some o=>
   simp only[ho]at h |-;have b:Wb m o=true:=(by rw[AAY]at n;exact n o (by rw[Array.mem_toList_iff];exact Array.mem_of_getElem? ho));have g:LetsOut Q->LetsOut (Kept m a0 Q):=λ⟨a,w,q⟩=>⟨a,w,q,.inl rfl⟩;by_cases p:Region.wanted o (yielded ops a.tmps)=true
   . simp only[p,AAy]at h |-;refine h.imp (λh=> ?_) (λh=>⟨h.1,g h.2⟩);unfold Oper.wp at*;generalize (execOp a.eval o).run P w=r at*;cases r with
     |ok x w'=>
      cases x with
      |value v=>exact ih _ _ (c.put b v) h
      |skip=>exact ih _ _ (c.put b undef) h
      |defer d=>exact ih _ _ (Rw.put (a:={a with defers:=d::a.defers}) (λi hi=>c i hi) b undef) h
      |enter f args=>
       simp only[Oper.upon]at h |-;refine Calls.mono h λe k j=> ?_;cases e with
       |returned v=>exact ih _ _ (c.put b v) j
       |panicked chain=>exact⟨j,.inr c⟩
       |outgrown=>exact g j
      |row row args=>simp only[Oper.upon]at h |-;exact Rows.mono h λv k j=>ih _ _ (c.put b v) j
      |_=>simp only[Oper.upon]at h
     |halt x w'=>
      cases x with
      |panic v=>simp only[Oper.upon]at h |-;exact⟨h,.inr c⟩
      |_=>simp only[Oper.upon]at h
   . simp only[p]at h |-;exact ih _ _ (c.put b undef) h
def RQ{a0:Act}{w:ja}(b:ops.toList.all (Wb m)=true)(c:Rw m a0 a)(h:wpOps P ops Q (List.range ops.size) a w):(Code.region n ops false).wp P (Kept m a0 Q) a w:=wp_region (bF b _ a w c h)
theorem Ha{a0:Act}{w:ja}(b:ops.toList.all (Wb m)=true)(c:Rw m a0 a)(d:P.follows .mixedOrders=true)(h:wpAny P .any ops Q ops.size (Array.replicate ops.size false) a {w with drawn:=w.drawn+1}):(Code.region n ops true).wp P (Kept m a0 Q) a w:=
 wp_region_draw λt=>by simp only[Region.schedule,d,Bool.true_or,AAy];exact bF b _ a _ c (wpAny_sound ops.size t _ a _ h)
def WW(G:Gi)(n:Nat)(w0:ja)(S0 U0:iu)(Q:Exit->Sg->Prop)(e:Exit)(a:Act)(w:ja):Prop:=∃σ,Rel G n w0 S0 U0 a w σ/\Q e σ
def Tied(G:Gi)(n:Nat)(w0:ja)(S0 U0:iu)(m:Nat)(a0:Act)(Q:Exit->Sg->Prop):Exit->Act->World->Prop:=Kept m a0 (WW G n w0 S0 U0 Q)
theorem Rel.drew(h:Rel G n w0 F U0 a w σ):Rel G n w0 F U0 a {w with drawn:=w.drawn+1} σ:=by obtain⟨S,δ,Fr,hn,g,k,j,c,b,i⟩:=h;exact⟨S,δ,Fr,hn,g,k,j,c.world (λ_ _=>rfl) (λ_ _ _=>rfl) (λ_ h=>h) (λs x l=>(c.ok s).FQ x l),⟨b.os,b.tape,b.output,b.size,b.block,b.sub,b.sup,b.lt,b.own⟩,i⟩
theorem cz_tree{rows:jd}(h:Ok w S (.own u b n rows) F):∃a q,a.map (·.map DV.er)=(rows.map (·.map DV.er)).map (·.map KI)/\(∀x,q x->F x)/\Ok w (λx=>S x\/(F x/\¬q x)) (.own u b n a) q:=by
 cases h with
 |nil _ _ hF=>exact⟨[],F,rfl,λ_ h=>h,.nil n F hF⟩
 |own _ _ _ bx c arr E Fs _ hb hk Ee Md hv hr hd B0 LR hF=>
  obtain⟨r,m,g⟩:=MU rows (λi row (R:jl)=>R.length=row.length/\∀(j:Nat) d,row[j]? =some d->∃D,R[j]? =some D/\(D.er=KI d.er/\D.A0=d.A0/\Ok w (λx=>S x\/Fs i j x) D (λ_=>False))) (by intro i row hi;exact MU row (λj d D=>D.er=KI d.er/\D.A0=d.A0/\Ok w (λx=>S x\/Fs i j x) D (λ_=>False)) (by intro j d z;obtain⟨D,l,f,p,_⟩:=TU (δ:=λ_=>default) (hr i j row d hi z);exact⟨D,l,f,p⟩));have e:r.map (·.map DV.er)=(rows.map (·.map DV.er)).map (·.map KI):=by refine map_mk m g _ _ ak λi row R o v=> ?_;simp only[AAf,v,AA1,AAU];exact(map_mk o.1 o.2 _ _ ak λj d D hd v=>by simp[v,hd.1]).symm
  refine⟨r,λx=>x=bx,e,λx y=>(hF x).2 (.inl y),?_⟩;rw[<- m];refine .own b n r bx c arr E (λ_ _ _=>False) _ hb ?_ (by rw[m];exact Ee) ?_ ?_ ?_ (λ_ _ _ _ _ h=>h.elim) (λ_ _ _ h=>h.elim) (λ_ _ h=>h) (λx=>ak)
  . intro R k;obtain⟨i,hi⟩:=AAs k;obtain⟨row,l,f⟩:=mem_mk m g i R hi;rw[f.1];exact hk row (AAg l)
  . rintro(h|⟨_,h⟩)
    . exact Md h
    . exact h rfl
  . intro i j R D k t;obtain⟨row,l,f⟩:=mem_mk m g i R k;obtain⟨d,p,s⟩:=mem_mk f.1 f.2 j D t;rw[s.2.1];exact hv i j row d l p
  . intro i j R D k t;obtain⟨row,l,f⟩:=mem_mk m g i R k;obtain⟨d,p,s⟩:=mem_mk f.1 f.2 j D t;exact s.2.2.mono (λ_ _=>rfl) (λ_ h=>h.elim) (λx y=>y.imp id λh=>⟨(hF x).2 (.inr ⟨i,j,h⟩),λe=>LR i j (e▸h)⟩) (λ_ h=>h.elim)
theorem Rel.cz(h:Rel G n w0 F U0 a w σ)(j:czS G f p σ=some τ):Rel G n w0 F U0 a w τ:=by
 obtain⟨S,δ,Fr,hn,R,P,rfl,r,V,U⟩:=h;unfold czS at j;split at j
 . rename_i b k rows hs;split at j
   . rename_i t X;obtain rfl:=AAW j;obtain⟨nD,O,i⟩:=ED (r.ok f).Lh hs;obtain⟨H,J,l,N8⟩:=(r.ok f).replace p O;cases nD with
     |own v b2 k2 Au=>
      simp only[FO,AV.own.injEq]at i;obtain⟨rfl,rfl,LJ⟩:=i;obtain⟨g,z,e1,L,e3⟩:=cz_tree J;obtain⟨tD,y,o,m,Z,T⟩:=N8 w (λx=>S x\/(H x/\¬z x)) (.own v b2 k2 g) z ak e3 (λx c _=>L x c) (λ_ _=>rfl) (λ_ _ _=>rfl) (λ_ h=>.inl h)
       (λx c LM=>λh=>h.elim (λh=>(r.ok f).FQ x c h) λh=>LM h.1)
      have D:tD.er=t:=(by obtain⟨t',M,h2⟩:=Ht (d:=δ f) (p:=p) (a:=t) (.own v b2 k2 g) (r.ok f).Lh (by simp only[FO,e1,LJ,<- UN];exact X);rw[o]at M;obtain rfl:=AAW M;exact h2);have K:∀x,y x->Fr f x:=λx c=>((Z x).1 c).elim (λh=>h.1) λh=>l x (L x h);have W:St G w (λx=>S x\/(H x/\¬z x)) (Dn (Eo G (p.length+1) f δ) f tD) (Dn Fr f y):=
       r.setn (p.length+1) f tD y (λ_ _=>rfl) (λ_ _ _ _=>rfl) (λ_ h=>.inl h) (λs B x c h=>h.elim (λh=>(r.ok s).FQ x c h) λh=>B (r.NK s f x c (l x h.1)))
        m (λs B x c hy=>B (r.NK s f x hy (K x c))) (NA p o (r.rt f) ak) (Nj p o (r.al f) (.own _ _ _ _))
        λq v' bx k' Jm hq C=>Oh q p ah o (λ_ v3 bx3 k3 E N=>by rw[O]at N;cases N;exact⟨_,rfl⟩) C
      refine⟨_,_,_,hn,R,λs=> ?_,?_,W,V.trans (Nx.KI (λx c=> ?_) λx c=> ?_),?_⟩
      . rw[N4 r];split
        . rename_i e;rw[e,T];exact P f
        . exact P s
      . rw[O9 r,D]
      . rcases c with⟨s,c⟩|c
        . by_cases e:s=f
          . subst e;rw[BW]at c;exact⟨_,K x c⟩
          . rw[Br _ _ e]at c;exact⟨s,c⟩
        . exact⟨f,l x c.1⟩
      . exact(r.ok f).lt x (l x c.1)
      . exactλx c=>c.elim (U x) λh=>(r.ok f).lt x (l x h.1)
     |lf a u=>simp only[Eb]at i;subst i;cases J with|lf _ _ _ h=>exact h.elim
     |agg=>simp at i
     |BZ=>simp at i
   . cases j
 . cases j
theorem Rel.gzS(h:Rel G n w0 F U0 a w σ)(c:gzS G b f p σ=some τ):Rel G n w0 F U0 a w τ:=by
 unfold Abs.gzS at c;split at c
 . exact h.cz c
 split at c
 . obtain rfl:=AAW c;exact h
 . split at c
   . rename_i v i g;obtain rfl:=AAW c;exact h.gz g
   . cases c
def isGz:IC->Bool
 | .gz .. =>true
 | .pg .. =>true
 |_=>false
theorem JV{a0:Act}(h:∀ic,isGz ic=false->∀(Q:Exit->Sg->Prop)(a:Act)(w:ja)(σ:Sg),G7 P G n Z ic=true->Gm m Z=true->Rw m a0 a->Rel G n w0 F U0 a w σ->IU P G ic Q σ->Z.wp P (Tied G n w0 F U0 m a0 Q) a w):
 ∀(ic:IC)(Q:Exit->Sg->Prop)(a:Act)(w:ja)(σ:Sg),G7 P G n Z ic=true->Gm m Z=true->Rw m a0 a->Rel G n w0 F U0 a w σ->IU P G ic Q σ->Z.wp P (Tied G n w0 F U0 m a0 Q) a w:=by
 intro ic;induction ic with
 |gz _ r p x cF=>
  intro Q a w σ o j k s b;have l:G7 P G n Z x=true:=by cases Z<;>simpa[G7]using o
  simp only[IU]at b;split at b
  . rename_i τ q;exact cF Q a w τ l j k (s.gzS q) b
  . exact b.elim
 |pg _ r p x cF=>
  intro Q a w σ o j k s b;have l:G7 P G n Z x=true:=by cases Z<;>simpa[G7]using o
  refine wp_mono (cF _ a w σ l j k s b) ?_;rintro e y w' ⟨⟨τ,t,d⟩,u⟩;refine⟨?_,u⟩;cases e with
  |normal=>
   simp only[pgQ]at d;split at d
   . rename_i v q;exact⟨v,t.gzS q,d⟩
   . exact d.elim
  |_=>exact⟨τ,t,d⟩
 |_=>exact h _ rfl
theorem eD(z:X4 w0 F U0)(J:P.follows .mixedOrders=true){a0:Act}(c:Code):∀(ic:IC)(Q:Exit->Sg->Prop)(a:Act)(w:ja)(σ:Sg),G7 P G n c ic=true->Gm m c=true->Rw m a0 a->Rel G n w0 F U0 a w σ->IU P G ic Q σ->c.wp P (Tied G n w0 F U0 m a0 Q) a w:=by
 induction c with
 |skip=>
  refine JV ?_;intro ic o Q a w σ g p r h j;cases ic with
  |skip=>exact wp_skip ⟨⟨σ,h,j⟩,.inr r⟩
  |bad=>exact j.elim
  |gz=>cases o
  |pg=>cases o
  |_=>simp[G7]at g
 |region id ops d=>
  refine JV ?_;intro ic o Q a w σ g p r h j;cases ic with
  |dH Ce=>
   simp only[G7,AAT,AAt,ABG]at g;obtain⟨g,KW⟩:=g;cases d with
   |false=>
    refine RQ p r ?_
    have:=rH z (P:=P) (G:=G) (ops:=ops) (K:=Q .normal) (WW G n w0 F U0 Q) (λa w σ h v=>⟨σ,h,v⟩) Ce 0 h (by simpa using g) j;rw[List.range_eq_range'];simpa using this
   |true=>refine Ha p r J ?_;replace KW:=KW.resolve_left ak;exact nG z (P:=P) (G:=G) (K:=Q .normal) (WW G n w0 F U0 Q) (λa w σ h v=>⟨σ,h,v⟩) h.drew g KW j
  |flo f aZ9 bs=>
   cases d with
   |false=>simp[G7]at g
   |true=>simp only[G7,AAT,AAh]at g;refine Ha p r J ?_;obtain⟨q,q0,q1,q2,q3⟩:=floRun j;exact AAC z (P:=P) (G:=G) (K:=Q .normal) (WW G n w0 F U0 Q) (λa w σ h v=>⟨σ,h,v⟩) h.drew g.1 q q0 q1 q3 (λm J=>q2 m ah)
  |jB fs Ce=>
   cases d with
   |false=>simp[G7]at g
   |true=>simp only[G7]at g;refine Ha p r J ?_;exact AAB z (P:=P) (G:=G) (K:=Q .normal) (WW G n w0 F U0 Q) (λa w σ h v=>⟨σ,h,v⟩) h.drew g j
  |drw t Ce=>
   cases d with
   |false=>simp[G7]at g
   |true=>simp only[G7]at g;refine Ha p r J ?_;exact zU z (P:=P) (G:=G) (K:=Q .normal) (WW G n w0 F U0 Q) (λa w σ h v=>⟨σ,h,v⟩) h.drew g j
  |apd f Ce=>
   cases d with
   |false=>simp[G7]at g
   |true=>simp only[G7]at g;refine Ha p r J ?_;exact yM z (P:=P) (G:=G) (K:=Q .normal) (WW G n w0 F U0 Q) (λa w σ h v=>⟨σ,h,v⟩) h.drew g j
  |fR xs=>
   cases d with
   |true=>simp[G7]at g
   |false=>
    simp only[G7]at g;refine RQ p r ?_
    have:=zC z (P:=P) (G:=G) (ops:=ops) (K:=Q .normal) (WW G n w0 F U0 Q) (λa w σ h v=>⟨σ,h,v⟩) xs 0 h (by simpa using g) j;rw[List.range_eq_range'];simpa using this
  |bad=>exact j.elim
  |gz=>cases o
  |pg=>cases o
  |_=>simp[G7]at g
 |seq x y cF ihy=>
  refine JV ?_;intro ic o Q a w σ g p r h j;cases ic with
  |seq x' y'=>
   simp only[G7,AAT]at g;simp only[Gm,AAT]at p;refine wp_seq (wp_mono (cF x' _ a w σ g.1 p.1 r h j) ?_);rintro e M w' ⟨⟨σ',D,u⟩,E⟩;cases e with
   |normal=>exact ihy y' Q M w' σ' g.2 p.2 (E.resolve_left ak) D u
   |_=>exact⟨⟨σ',D,u⟩,E⟩
  |bad=>exact j.elim
  |gz=>cases o
  |pg=>cases o
  |_=>simp[G7]at g
 |cond c x y cF ihy=>
  refine JV ?_;intro ic o Q a w σ g p r h j;cases ic with
  |cond c' x' y'=>
   simp only[G7,AAT]at g;obtain⟨⟨Z,H⟩,h3⟩:=g;simp only[Gm,AAT]at p;rw[mP]at j;split at j
   . rename_i b hb;have V:a.eval c= .bool b:=(by obtain⟨S,δ,Fr,hn,EF,ha,rfl,W,_⟩:=h;obtain⟨hy,U⟩:=Aq Z ha;rw[U];exact(W.FV hy hb).1);split at j
     . rename_i T;subst T;exact wp_cond_true V (cF x' Q a w σ H p.1 r h j)
     . rename_i R;obtain rfl:b=false:=(by simpa using R);exact wp_cond_false V (ihy y' Q a w σ h3 p.2 r h j)
   . exact j.elim
  |bad=>exact j.elim
  |gz=>cases o
  |pg=>cases o
  |_=>simp[G7]at g
 |block id x cF=>
  refine JV ?_;intro ic o Q a w σ g p r h j;cases ic with
  |block id' x'=>
   simp only[G7,AAT,AAh]at g;obtain⟨rfl,H⟩:=g;simp only[Gm]at p;refine wp_block (wp_mono (cF x' _ a w σ H p r h j) ?_);rintro e M w' ⟨⟨σ',D,u⟩,E⟩;cases e with
   |exit i=>
    simp only[Exit.inBlock];rw[QX]at u;have L:=E.resolve_left ak;split
    . rename_i hi;rw[AAb hi]at u;exact⟨⟨σ',D,u⟩,.inr L⟩
    . rename_i hi;rw[AAa hi]at u;exact⟨⟨σ',D,u⟩,.inr L⟩
   |_=>exact⟨⟨σ',D,u⟩,E⟩
  |bad=>exact j.elim
  |gz=>cases o
  |pg=>cases o
  |_=>simp[G7]at g
 |loop x cF=>
  refine JV ?_;intro ic o Q a w σ g p r h j;cases ic with
  |loop x'=>
   simp only[G7]at g;obtain⟨I,⟨n0,X⟩,tU⟩:=j;simp only[Gm]at p;refine wp_loop_ghost (λk a w=>(∃σ,Rel G n w0 F U0 a w σ/\I k σ)/\Rw m a0 a) n0 ⟨⟨σ,h,X⟩,r⟩ ?_;rintro k M w' ⟨⟨τ,D,hI⟩,E⟩;refine wp_mono (cF x' _ M w' τ g p E D (tU k τ hI)) ?_;rintro e a2 w2 ⟨⟨N,H,u⟩,L⟩;cases e with
   |normal=>obtain⟨k',v,O⟩:=u;exact⟨k',v,⟨N,H,O⟩,L.resolve_left ak⟩
   |_=>exact⟨⟨N,H,u⟩,L⟩
  |bad=>exact j.elim
  |gz=>cases o
  |pg=>cases o
  |_=>simp[G7]at g
 |exit id=>
  refine JV ?_;intro ic o Q a w σ g p r h j;cases ic with
  |exit id'=>simp only[G7,AAh]at g;subst g;exact wp_exit ⟨⟨σ,h,j⟩,.inr r⟩
  |bad=>exact j.elim
  |gz=>cases o
  |pg=>cases o
  |_=>simp[G7]at g
 |ret=>
  refine JV ?_;intro ic o Q a w σ g p r h j;cases ic with
  |ret=>exact wp_ret ⟨⟨σ,h,j⟩,.inr r⟩
  |bad=>exact j.elim
  |gz=>cases o
  |pg=>cases o
  |_=>simp[G7]at g
 |rangeFunc=>refine JV ?_;intro ic o Q a w σ g p r h j;cases ic with|bad=>exact j.elim|gz=>cases o|pg=>cases o|_=>simp[G7]at g
 |scope x cF=>
  refine JV ?_;intro ic o Q a w σ g p r h j;cases ic with
  |bad=>exact j.elim
  |gz=>cases o
  |pg=>cases o
  |seq s ic=>
   cases s with
   |skip=>
    refine wp_scope_straight (wp_mono (cF ic (λe σ=>goA e=false/\Q e σ) a w σ (by simpa[G7]using g) (by simpa[Gm]using p) r h (eC (λe σ U u=>⟨U,u⟩) j)) ?_);rintro e M w' ⟨⟨σ',D,u⟩,E⟩;cases e with
    |goto l=>cases u.1
    |_=>exact⟨⟨σ',D,u.2⟩,E⟩
   |_=>simp[G7]at g
  |_=>simp[G7]at g
 |label=>refine JV ?_;intro ic o Q a w σ g p r h j;cases ic with|skip=>exact wp_label ⟨⟨σ,h,j⟩,.inr r⟩|bad=>exact j.elim|gz=>cases o|pg=>cases o|_=>simp[G7]at g
 |goto=>refine JV ?_;intro ic o Q a w σ g p r h j;cases ic with|bad=>exact j.elim|gz=>cases o|pg=>cases o|_=>simp[G7]at g
 |refuse=>refine JV ?_;intro ic o Q a w σ g p r h j;cases ic with|bad=>exact j.elim|gz=>cases o|pg=>cases o|_=>simp[G7]at g
end
variable{j:Func}{N:Ending->World->Prop}{T:ni}
section
variable{w w':ja}{S S':iu}{G:Gi}{δ:ji}{Fr:iy}{P:iz}
def mW(P:iz):ResultVar->RV->Bool
 | .tmp t,.tmp t'=>t==t'
 | .cell a t,.cell a' agg n=>a==a'&&HI P t==some n&&KL P t==some agg&&(agg||n==1)
 |_,_=>false
def O3(P:iz):List ResultVar->List RV->Bool
 |[],[]=>true
 |r::rs,v::vs=>mW P r v&&O3 P rs vs
 |_,_=>false
def Tu(tmps:jt):ResultVar->Sem Value
 | .tmp t=>pure (tmps.getD t undef)
 | .cell a t=>do loadVar t (<- asAddr (tmps.getD a undef))
theorem OH{a b:Type}(f:a->Sem b)(x:a)(l:List a){v:b}{vs:List b}(c:(f x).run P w= .ok v w)(d:(l.mapM f).run P w= .ok vs w):((x::l).mapM f).run P w= .ok (v::vs) w:=by rw[List.mapM_cons];simp[c,d]
theorem KD(B:List ResultVar):∀{rs:ni}{δ:ji}{Fr:iy}{vs:i5}{τ:Sg},St G w S δ Fr->(∀s,tmps.getD s undef=(δ s).A0)->O3 P B rs=true->
 Gz G rs (λs=>(δ s).er)=some (vs,τ)->∃(F:jl)(FD:iu),F.map DV.er=vs/\(B.mapM (Tu tmps)).run P w= .ok (F.map DV.A0) w/\KT w S F FD/\(∀x,FD x->BN Fr x)/\
  ∃(C:ji)(W:iy),St G w S C W/\(λs=>(C s).er)=τ/\(∀s,(C s).A0=(δ s).A0)/\(∀s x,W s x->¬FD x)/\(∀x,BN W x->BN Fr x):=by
 induction B with
 |nil=>
  intro rs δ Fr vs τ h K Q l;cases rs with
  |nil=>simp only[Gz,AAU,AAj]at l;obtain⟨rfl,rfl⟩:=l;exact⟨[],λ_=>False,rfl,ak,λ_ h=>h,λ_ h=>h.elim,δ,Fr,h,rfl,λ_=>rfl,λ_ _ _ h=>h,λ_ h=>h⟩
  |cons=>simp[O3]at Q
 |cons rv B ih=>
  intro rs δ Fr vs τ h K Q l;cases rs with
  |nil=>simp[O3]at Q
  |cons r rs=>
   simp only[O3,AAT]at Q;obtain⟨M,Ny⟩:=Q;cases r with
   |tmp t=>
    cases rv with
    |cell=>simp[mW]at M
    |tmp t'=>
     simp only[mW,AAh]at M;subst M;simp only[Gz]at l;split at l
     . rename_i v τ1 ZF;split at l
       . rename_i vs' τ' o;simp only[AAU,AAj]at l;obtain⟨rfl,rfl⟩:=l;obtain⟨C,W,D,Ff,y,KJ,GP,Vf⟩:=h.tk (x:=.t t') trivial ZF;subst KJ;obtain⟨F,FD,Z,g2,g3,O,q,N,k1,k2,k3,U,k5⟩:=ih y.st (λs=>(K s).trans (y.A0 s).symm) Ny o;refine⟨D::F,λx=>Ff x\/FD x,by simp[GP,Z],?_,⟨Ff,FD,y.ok,g3,?_,λx=>Iff.rfl⟩,?_,q,N,k1,k2,λs=>(k3 s).trans (y.A0 s),?_,λx f=>y.own x (.inl (k5 x f))⟩
         . refine OH _ _ _ ?_ g2;simp[Tu,K,Vf,DL]
         . intro x f m;obtain⟨s,g⟩:=O x m;exact y.NK s x g f
         . rintro x (f|f)
           . exact y.own x (.inr f)
           . exact y.own x (.inl (O x f))
         . rintro s x f (m|m)
           . obtain⟨s',Hb⟩:=k5 x ⟨s,f⟩;exact y.NK s' x Hb m
           . exact U s x f m
       . cases l
     . cases l
   |cell a agg n=>
    cases rv with
    |tmp=>simp[mW]at M
    |cell a' t=>
     simp only[mW,AAT,AAh,AAt]at M;obtain⟨⟨⟨rfl,hn⟩,hg⟩,hg1⟩:=M;simp only[Gz]at l;split at l
     . rename_i k row g;split at l
       . rename_i v p;split at l
         . rename_i vs' τ' o;simp only[AAU,AAj]at l;obtain⟨rfl,rfl⟩:=l;obtain⟨Au,hd,u⟩:=h.Za g;have Cq:=h.ok a';rw[hd]at Cq
           match Au,u with
           |[Jf],u=>
            simp only[AAm,AA2,ABt,and_true]at u;generalize T:(δ a').A0=va at*;cases Cq with
            |own _ _ _ b c arr E Fs _ hb hk Ee Md hvv hr ON B0 LR hF=>
             have hkr:Jf.length=k:=hk Jf ak;simp only[AAy]at Ee;have J:KT w S Jf (λx=>∃j,Fs 0 j x):=(by refine Ki.2 ⟨λj=>Fs 0 j,λj d I=>hr 0 j Jf d rfl I,λi i' x f m=>(ON 0 i 0 i' x f m).2,λj x f=> ?_,λx=>Iff.rfl⟩;obtain⟨row',d,h1,h2⟩:=B0 0 j x f;simp only[ABA,AAU]at h1;exact⟨d,h1▸h2⟩);have R:Jf.length=n:=by
              have:row.length=n:=by
               unfold I0 at p;split at p
               . assumption
               . cases p
              rw[<- this,<- u];simp
             have CX:=h.set (w':=w) (S':=S) a' (.lf .dead (KW true b 1 c)) (λ_=>False) (λ_ _=>rfl) (λ_ _ _ _=>rfl) (λ_ h=>h) (λs _ x f=>(h.ok s).FQ x f) (.lf _ _ _ trivial (λ_ h=>h)) (λ_ _ _ h=>h.elim) ak (.lf _ _ trivial);have KJ:(λs=>(Dn (ID G a' δ) a' (.lf .dead (KW true b 1 c)) s).er)=Dn (KY G a' λs=>(δ s).er) a' .dead:=by
              funext s;simp only[Dn];split
              . simp
              . exact h.oB a' s
             rw[<- KJ]at o;have EJ:∀s,tmps.getD s undef=(Dn (ID G a' δ) a' (.lf .dead (KW true b 1 c)) s).A0:=by
              intro s;simp only[Dn];split
              . rename_i e;subst e;rw[K,T];simp
              . rw[K,h.Vv a' s]
             obtain⟨F,FD,Z,g2,g3,O,q,N,q1,q2,q3,q4,q5⟩:=ih CX EJ Ny o;have V:∀s,(q s).A0=(δ s).A0:=λs=>(by rw[q3 s,<- EJ s,K]);have z:∀x,BN N x->BN Fr x/\¬∃j,Fs 0 j x:=by
              intro x f;obtain⟨s,g⟩:=q5 x f;simp only[Dn]at g;split at g
              . exact g.elim
              . rename_i Me;exact⟨⟨s,g⟩,λ⟨j,I⟩=>Me (h.NK s a' x g ((hF x).2 (.inr ⟨0,j,I⟩)))⟩
             have L:(loadVar t ⟨b,0,none⟩).run P w= .ok (if agg=true then .agg (Jf.map DV.A0).toArray else(Jf.map DV.A0).headD undef) w:=by
              refine MC hn hg hg1 (by simp[R]) ?_;intro j v I;simp only[AAf]at I;cases hjd:Jf[j]? with
              |none=>simp[hjd]at I
              |some d=>
               simp only[hjd,AA1,AAU]at I;subst I
               have:=hvv 0 j Jf d rfl hjd;simp only[World.cell?,hb];simpa using this
             have X:(Tu tmps (.cell a' t)).run P w= .ok (if agg=true then .agg (Jf.map DV.A0).toArray else(Jf.map DV.A0).headD undef) w:=by simp only[Tu,K,T,KW,AAy];simpa[asAddr]using L
             have XR:∀x,(∃j,Fs 0 j x)->BN Fr x:=λx ⟨j,f⟩=>⟨a',(hF x).2 (.inr ⟨0,j,f⟩)⟩;have Dd:∀x,(∃j,Fs 0 j x)->¬FD x:=by
              intro x ⟨j,f⟩ m;obtain⟨s,g⟩:=O x m;simp only[Dn]at g;split at g
              . exact g
              . rename_i Me;exact Me (h.NK s a' x g ((hF x).2 (.inr ⟨0,j,f⟩)))
             have H:∀x,FD x->BN Fr x:=by
              intro x f;obtain⟨s,g⟩:=O x f;simp only[Dn]at g;split at g
              . exact g.elim
              . exact⟨s,g⟩
             unfold I0 at p;split at p
             . cases agg with
               |true=>
                simp only[AAy,AAU]at p X;subst p;refine⟨.agg Jf::F,λx=>(∃j,Fs 0 j x)\/FD x,by simp[u,Z],?_,⟨_,FD,CN.2 J,g3,Dd,λx=>Iff.rfl⟩,?_,q,N,q1,q2,V,?_,λx f=>(z x f).1⟩
                . have:=OH _ _ _ X g2;simpa using this
                . rintro x (f|f)
                  . exact XR x f
                  . exact H x f
                . rintro s x f (m|m)
                  . exact(z x ⟨s,f⟩).2 m
                  . exact q4 s x f m
               |false=>
                simp only[AAd,AAk]at p X;split at p
                . rename_i c0 hn1;simp only[AAU]at p;subst p
                  match Jf,u with
                  |[D0],u=>
                   simp only[AAm,AA2,ABt,and_true]at u;obtain⟨F1,F2q,k1,k2,k3,U⟩:=J;refine⟨D0::F,λx=>F1 x\/FD x,by simp[u,Z],?_,⟨_,FD,k1,g3,λx f=>Dd x ((U x).2 (.inl f)),λx=>Iff.rfl⟩,?_,q,N,q1,q2,V,?_,λx f=>(z x f).1⟩
                   . have:=OH _ _ _ X g2;simpa using this
                   . rintro x (f|f)
                     . exact XR x ((U x).2 (.inl f))
                     . exact H x f
                   . rintro s x f (m|m)
                     . exact(z x ⟨s,f⟩).2 ((U x).2 (.inl m))
                     . exact q4 s x f m
                . cases p
             . cases p
         . cases l
       . cases l
     . cases l
def gW:AV->Bool
 | .sc _| .sl .. | .dead| .fp _| .own .. | .YA .. =>true
 |_=>false
def JA:AV->Bool
 | .agg cs=>cs.all gW
 | .BZ cs=>cs.all gW
 |a=>gW a
theorem Yf(h:gW v=true):GL M v=true:=by cases v<;>simp_all [gW,GL]
theorem Vi(h:JA v=true):GL M v=true:=by
 cases v with
 |agg cs=>simp only[JA,AAY]at h;rw[GL,YJ,AAY];exactλx b=>Yf (h x b)
 |BZ cs=>simp only[JA,AAY]at h;rw[GL,YJ,AAY];exactλx b=>Yf (h x b)
 |_=>exact Yf h
theorem gX(b:dU D)(h:gW D.er=true):Dr δ D:=by
 cases b with
 |lf a v b=>refine .lf _ _ ?_;simp only[Eb]at h;cases a<;>simp_all [gW,Nz]
 |own=>exact .own _ _ _ _
 |agg=>simp[gW]at h
 |BZ=>simp[gW]at h
theorem Yg(b:dU D)(h:JA D.er=true):Dr δ D:=by
 cases b with
 |lf a v b=>exact gX (.lf a v b) (by simp only[Eb]at h |-;cases a<;>simp_all [JA,DS])
 |own=>exact .own _ _ _ _
 |agg cs hr=>simp only[Iy,JA,ABR,AAY,Function.comp]at h;exact .agg _ λi D hd=>gX (hr i D hd) (h D (AAg hd))
 |BZ cs hr=>simp only[LP,JA,ABR,AAY,Function.comp]at h;exact .BZ _ λi D hd=>gX (hr i D hd) (h D (AAg hd))
structure FI where
 c:IC
 g:Gi
 r:List RV
def OT(P:iz)(fn:Func)(I:FI):Bool:=
 (match fn.body with
 |some c=>G7 P I.g fn.ntmps c I.c
 |none=>false)&&O3 P fn.results.toList I.r&&I.g.rt.all (λx=> !x.2.contains x.1)
theorem xT{G:Gi}(h:G.rt.all (λx=> !x.2.contains x.1)=true)(s:Nat):s∉G.HA s:=by
 unfold Gi.HA;split
 . rename_i x b;have c:=ABn b;have a:=List.find?_some b;simp only[AAY]at h
   have:=h _ c;simp only[AAh]at a;rw[<- a];simpa using this
 . simp
theorem Y3(ds:jl)(n s:Nat):((ds.map DV.A0).toArray++Array.replicate (n-(ds.map DV.A0).toArray.size) undef).getD s undef=(ds.getD s (.lf .un undef)).A0:=by
 simp only[AAn,Array.getElem?_append,List.getD_eq_getElem?_getD];simp only[List.size_toArray,AA6];split
 . rename_i h;simp[h]
 . rename_i h;simp only[Array.getElem?_replicate];rw[List.getElem?_eq_none ah];split<;>simp
def QE:List DV->DV
 |[d]=>d
 |ds=>.BZ ds
theorem Us(ds:jl):(QE ds).er=one (ds.map DV.er):=by
 match ds with
 |[]=>simp[QE,one]
 |[d]=>simp[QE,one]
 |_::_::_=>simp[QE,one]
theorem PU(h:KT w S ds F):Ok w S (QE ds) F:=by
 match ds with
 |[]=>exact BK.2 h
 |[d]=>obtain⟨c,i,e,f,j,b⟩:=h;have:F=c:=funext λx=>propext ⟨λa=>((b x).1 a).elim id λg=>absurd g (f x),λa=>(b x).2 (.inl a)⟩;exact this▸e
 |_::_::_=>exact BK.2 h
def Zd:List Value->Value
 |[v]=>v
 |vs=>.tuple vs.toArray
theorem pJ{vs:jj}(h:(j.results.toList.mapM (Tu tmps)).run P w= .ok vs w):
 (results j tmps).run P w= .ok (Zd vs) w:=by
 have e:results j tmps=(do
  let vs <- j.results.mapM (Tu tmps)
  pure (if h:vs.size=1 then vs[0]else .tuple vs)):=by
  unfold results;congr 1
 rw[e,Array.mapM_eq_mapM_toList,map_eq_pure_bind,bind_assoc];have b:∀(m:Sem (List Value)) (k:List Value->Sem Value),m.run P w= .ok vs w->(m >>= k).run P w=(k vs).run P w:=by intro m k c;simp[c]
 rw[b _ _ h]
 match vs with
 |[]=>simp[Zd]
 |[v]=>simp[Zd]
 |_::_::_=>simp[Zd]
variable{I:FI}
theorem Yn{Q:Exit->Sg->Prop}(hm:P.follows .mixedOrders=true)(D:P.funcs[f]? =some j)(R:OT P j I=true)(hn:ds.length<=j.ntmps)(X:∀d∈ds,Dr (λs=>ds.getD s (.lf .un undef)) d)(XS:∀s d,ds[s]? =some d->GL (I.g.HA s) d.er=true)(Pq:∀c,j.body=some c->Gm m c=true)(NM:GI w S)(J:Ok w S (.BZ ds) F)(M:∀b,S b->b<w.heap.size)(h:IU P I.g I.c Q (start (ds.map DV.er)))(nM:∀ex n S1 k p (tmps:jt),Q ex (λs=>(k s).er)->St I.g n S1 k p->Nx w S F n S1 (BN p)->(∀b,S1 b->b<n.heap.size)->(∀s,tmps.getD s undef=(k s).A0)->(ex= .outgrown\/∀i,i<m->tmps.getD i undef=(ds.getD i (.lf .un undef)).A0)->
  O3 P j.results.toList I.r=true->(ex= .normal\/ex= .ret)/\∃v,(results j tmps).run P n= .ok v n/\N (.returned v) n):Calls P f (ds.map DV.A0).toArray w N:=by
 simp only[OT,AAT]at R;obtain⟨⟨y,Ny⟩,B⟩:=R;split at y
 . rename_i c o;obtain⟨q,E,hd,u,z⟩:l6 w S ds F:=(by cases J with|BZ _ q _ E hd u z=>exact⟨q,E,hd,u,z⟩);refine calls_of_wp D o ?_
   let δ:Nat->DV:=λs=>ds.getD s (.lf .un undef)
   have l:∀s,(∃d,ds[s]? =some d/\δ s=d)\/(ds[s]? =none/\δ s= .lf .un undef):=by
    intro s;cases a:ds[s]? with
    |some d=>exact .inl ⟨d,rfl,by simp[δ,a]⟩
    |none=>exact .inr ⟨rfl,by simp[δ,a]⟩
   have T:St I.g w S δ q:=by
    refine⟨λs=> ?_,λs t x=>hd s t x,λs=> ?_,λs=> ?_,xT B⟩
    . rcases l s with⟨d,a,e⟩|⟨a,e⟩
      . rw[e];exact E s d a
      . rw[e];exact .lf _ _ _ rfl λx G=>by obtain⟨d,hd⟩:=u s x G;rw[a]at hd;cases hd
    . rcases l s with⟨d,a,e⟩|⟨a,e⟩
      . rw[e];exact X d (AAg a)
      . rw[e];exact .lf _ _ trivial
    . rcases l s with⟨d,a,e⟩|⟨a,e⟩
      . rw[e];exact XS s d a
      . rw[e];simp
   have H:(λs=>(δ s).er)=start (ds.map DV.er):=by
    funext s;unfold start;rcases l s with⟨d,a,e⟩|⟨a,e⟩
    . simp[e,a]
    . simp[e,a]
   have Z:Rel I.g j.ntmps w S F {tmps:=(ds.map DV.A0).toArray++Array.replicate (j.ntmps-(ds.map DV.A0).toArray.size) undef,defers:=[]} w (start (ds.map DV.er)):=(by refine⟨S,δ,q,an,rfl,λs=>Y3 ds j.ntmps s,H,T,Nx.less λx ⟨s,G⟩=>(z x).2 ⟨s,G⟩,M⟩);refine wp_mono (eD ⟨NM,λb o=>⟨λD=>J.FQ b D o,M b o⟩⟩ hm (m:=m) (a0:={tmps:=(ds.map DV.A0).toArray++Array.replicate (j.ntmps-(ds.map DV.A0).toArray.size) undef,defers:=[]}) c I.c _ _ w _ y (Pq c o) (Rw.refl _ _) Z h) ?_;rintro e a' n ⟨⟨σ,⟨S1,k,p,hn1,K,TV,rfl,W,V,U⟩,hq⟩,Jk⟩;obtain⟨C,v,O,L⟩:=nM e n S1 k p a'.tmps hq W V U TV (Jk.imp id λhk i hi=>(hk i hi).trans (Y3 ds j.ntmps i)) Ny;rcases C with rfl|rfl
   . exact⟨K,v,O,L⟩
   . exact⟨K,v,O,L⟩
 . cases y
theorem Vl{Q:Exit->Sg->Prop}(x:P.follows .mixedOrders=true)(u:P.funcs[f]? =some j)(t:OT P j I=true)(hn:ds.length<=j.ntmps)(k:(ds.map DV.er).all JA=true)(p:∀c,j.body=some c->Gm m c=true)(o:GI w S)(a:Ok w S (.BZ ds) F)(q:∀b,S b->b<w.heap.size)(h:IU P I.g I.c Q (start (ds.map DV.er)))(z:∀ex w1 S1 δ1 F1 (tmps:jt),Q ex (λs=>(δ1 s).er)->St I.g w1 S1 δ1 F1->Nx w S F w1 S1 (BN F1)->(∀b,S1 b->b<w1.heap.size)->(∀s,tmps.getD s undef=(δ1 s).A0)->(ex= .outgrown\/∀i,i<m->tmps.getD i undef=(ds.getD i (.lf .un undef)).A0)->
  O3 P j.results.toList I.r=true->(ex= .normal\/ex= .ret)/\∃v,(results j tmps).run P w1= .ok v w1/\N (.returned v) w1):Calls P f (ds.map DV.A0).toArray w N:=by
 have n:∀d∈ds,JA d.er=true:=λd hd=>by simp only[AAY]at k;exact k _ (ABY hd)
 refine Yn x u t hn (λd hd=> ?_) (λs d y=>Vi (n d (AAg y))) p o a q h z;obtain⟨l,e,_⟩:l6 w S ds F:=by cases a with|BZ _ l _ e hd B0 hF=>exact⟨l,e,hd,B0,hF⟩
 obtain⟨i,hi⟩:=AAs hd;exact Yg (e i d hi).Lh (n d hd)
theorem vW{e:Exit}(h:Ends G T v e σ):e= .normal\/e= .ret:=by obtain⟨h,_⟩:=h;cases e<;>simp_all
theorem VQ(h:(j.results.toList.mapM (Tu tmps)).run P w= .ok (ds.map DV.A0) w):(results j tmps).run P w= .ok (QE ds).A0 w:=by
 rw[pJ h]
 match ds with
 |[]=>simp[QE,Zd]
 |[d]=>simp[QE,Zd]
 |_::_::_=>simp[QE,Zd]
theorem Rt(H:P.follows .mixedOrders=true)(G:P.funcs[f]? =some j)(E:OT P j I=true)(hn:args.length<=j.ntmps)(n:args.all JA=true)(h:IU P I.g I.c (Ends I.g I.r v) (start args)):Says P f args v:=by
 intro w S ds F q p e D;subst p;refine Vl (m:=0) H G E (by simpa using hn) n (λc _=>QY c) q e D h ?_;rintro N K S1 L M tmps i o a l t _ s;refine⟨vW i,?_⟩;obtain⟨_,vs,τ,b,u⟩:=i;obtain⟨k,FD,y,g2,z,B,_⟩:=KD j.results.toList o t s b;have C:KT K S1 (ds.map λd=>DV.lf .dead d.A0) (λ_=>False):=by refine CZ λd hd=> ?_;obtain⟨x,_,rfl⟩:=ABh.1 hd;exact .lf _ _ _ trivial (λ_ h=>h)
 exact⟨_,VQ g2,QE k,ds.map λd=>DV.lf .dead d.A0,S1,FD,rfl,by rw[Us,y,u],ak,ak,BK.2 ⟨FD,λ_=>False,PU z,C,λ_ _ h=>h,λx=>ak⟩,⟨a.os,a.tape,a.output,a.size,a.block⟩,a.sub,a.sup,l,λx J=>a.own x (B x J)⟩
def Uw(σ:Sg):Nat->List AV->Prop
 |_,[]=>True
 |i,o::os=>(match o with| .dead=>True|o=>σ i=o)/\Uw σ (i+1) os
def WT(G:Gi)(rs:ni)(res:AV)(outs:i5)(e:Exit)(σ:Sg):Prop:=
 (match e with| .normal=>True| .ret=>True|_=>False)/\∃vs τ,Gz G rs σ=some (vs,τ)/\one vs=res/\Uw τ 0 outs
def iE(fn:Func)(m:Nat):Bool:=match fn.body with
 |some c=>Gm m c
 |none=>false
theorem Ze{b:ji}{e:iy}(g:St G w S b e)(a:i5):∀(i:Nat),Uw (λs=>(b s).er) i a->
 ∃os:List DV,os.map DV.er=a/\os.map DV.A0=(List.range' i a.length).map (λs=>(b s).A0)/\∃c,KT w S os c/\(∀x,c x->∃s,i<=s/\e s x):=by
 induction a with
 |nil=>intro i _;exact⟨[],rfl,rfl,λ_=>False,λ_ h=>h,λ_ h=>h.elim⟩
 |cons o a ih=>
  intro i h;obtain⟨p,q⟩:=h;obtain⟨os,l,m,c,n,j⟩:=ih (i+1) q;have key:∃(D:DV)(FD:iu),D.er=o/\D.A0=(b i).A0/\Ok w S D FD/\∀x,FD x->e i x:=by
   by_cases hd:o= .dead
   . subst hd;exact⟨.lf .dead (b i).A0,λ_=>False,ak,ak,.lf _ _ _ trivial (λ_ h=>h),λ_ h=>h.elim⟩
   . refine⟨b i,e i,?_,rfl,g.ok i,λ_ h=>h⟩;cases o<;>first|exact p|exact absurd rfl hd
  obtain⟨D,FD,u,v,y,k⟩:=key;refine⟨D::os,by simp[u,l],by simp[v,m,List.range'_succ],λx=>FD x\/c x,⟨FD,c,y,n,?_,λx=>Iff.rfl⟩,?_⟩
  . intro x d t;obtain⟨s,r,f⟩:=j x t
    have:=g.NK i s x (k x d) f;omega
  . rintro x (d|d)
    . exact⟨i,AAv _,k x d⟩
    . obtain⟨s,r,f⟩:=j x d;exact⟨s,ah,f⟩
theorem out_gen(hm:P.follows .mixedOrders=true)(hf:P.funcs[f]? =some j)(hc:OT P j I=true)(C:iE j ds.length=true)(hn:ds.length<=j.ntmps)(L:∀d∈ds,Dr (λs=>ds.getD s (.lf .un undef)) d)(T:∀s d,ds[s]? =some d->GL (I.g.HA s) d.er=true)(q:args.length=ds.length)(h:IU P I.g I.c (WT I.g I.r v args) (start (ds.map DV.er)))(N:GI w S)(E:Ok w S (.BZ ds) F)(hS:∀b,S b->b<w.heap.size):
 Calls P f (ds.map DV.A0).toArray w λe w'=>∃(r:DV)(os:jl)(S' u:iu),e= .returned r.A0/\r.er=v/\os.map DV.er=args/\os.map DV.A0=ds.map DV.A0/\
  Ok w' S' (.BZ (r::os)) u/\Ext w w' F/\(∀b,S b->S' b)/\(∀b,S' b->S b\/F b\/w.heap.size<=b)/\(∀b,S' b->b<w'.heap.size)/\(∀x,u x->F x\/w.heap.size<=x):=by
 refine Yn (m:=ds.length) hm hf hc hn L T (λc hb=>by simp only[iE,hb]at C;simpa using C) N E hS h ?_;rintro p w1 S1 δ1 F1 tmps D K k J y M O;have l:p= .normal\/p= .ret:=by obtain⟨h,_⟩:=D;cases p<;>simp_all
 refine⟨l,?_⟩;obtain⟨_,vs,τ,U,R,z⟩:=D;have Q:=M.resolve_left (by rcases l with rfl|rfl<;>simp);obtain⟨G,FD,Z,g2,g3,g4,δ2,F2,k1,k2,k3,k4,k5⟩:=KD j.results.toList K y O U;rw[<- k2]at z;obtain⟨os,V,W,o,X,B⟩:=Ze k1 args 0 z;have H:os.map DV.A0=ds.map DV.A0:=by
  rw[W];have hl:args.length=ds.length:=by simpa using q
  rw[hl];apply ABj;intro i;simp only[AAf];by_cases hi:i<ds.length
  . rw[List.getElem?_range' (by simpa using hi),AAZ hi];simp only[ABW,Nat.one_mul,AA1,AAU];rw[k3,<- y,Q i hi];simp[hi]
  . rw[List.getElem?_eq_none an,List.getElem?_eq_none ah];rfl
 refine⟨_,VQ g2,QE G,os,S1,λx=>FD x\/o x,rfl,by rw[Us,Z,R],V,H,BK.2 ⟨FD,o,PU g3,X,?_,λx=>Iff.rfl⟩,⟨k.os,k.tape,k.output,k.size,k.block⟩,k.sub,k.sup,J,?_⟩
 . intro x n hy;obtain⟨s,_,t⟩:=B x hy;exact k4 s x t n
 . rintro x (n|n)
   . exact k.own x (g4 x n)
   . obtain⟨s,_,t⟩:=B x n;exact k.own x (k5 x ⟨s,t⟩)
theorem pS(y:P.follows .mixedOrders=true)(x:P.funcs[f]? =some j)(b:OT P j I=true)(t:iE j args.length=true)(hn:args.length<=j.ntmps)(m:args.all JA=true)(e:row.length=args.length)(h:IU P I.g I.c (WT I.g I.r v row) (start args)):BB P f args v row:=by
 intro w S ds F q p l u;subst p;have o:∀d∈ds,JA d.er=true:=λd hd=>by simp only[AAY]at m;exact m _ (ABY hd)
 refine out_gen y x b (by simpa using t) (by simpa using hn) (λd hd=> ?_) (λs d z=>Vi (o d (AAg z))) (by simpa using e) h q l u;obtain⟨n,k,_⟩:l6 w S ds F:=by cases l with|BZ _ n _ k hd B0 hF=>exact⟨n,k,hd,B0,hF⟩
 obtain⟨i,hi⟩:=AAs hd;exact Yg (k i d hi).Lh (o d hd)
end
section
open Go.Sort
variable{w w':ja}{S S':iu}{P:iz}
theorem Ta(c:w.heap[n]? =some (.cells tmps E (0,0)))(e:∀(i:Nat)(z:Int),zs[i]? =some z->tmps[i]? =some (.int .i64 z)):Holds (Value.int .i64) w n 0 zs.toArray:=by
 intro j d;have a:j<zs.length:=by simpa using d
 refine⟨?_,by simp[World.frozen?,c]⟩
 have:=e j zs[j] (AAZ a);simp only[World.cell?,c,ABW];simp[this,a]
theorem Y9{os:Array Obj}{b:Nat×Nat}(d:Array Int)(c:w.heap[f]? =some (.cells tmps E b)):
 (grow (putRow (Value.int .i64) (Sort.ahead w n) f 0 d) os).heap[f]? =some (.cells (putCells (Value.int .i64) 0 d tmps) E b):=by
 have g:f<w.heap.size:=(ABD.1 c).1;rw[heap_grow_old _ _ (by simpa using g)];simp[putRow,mapBlock,Sort.ahead,Array.getElem?_modify,c,onCells]
theorem iY{g:Nat}{os:Array Obj}(d:Array Int)(b:F g):Ext w (grow (putRow (Value.int .i64) (Sort.ahead w n) g 0 d) os) F:=by refine⟨rfl,rfl,rfl,ak,λk c a=> ?_⟩;rw[heap_grow_old _ _ (by simpa using c)];have:g≠k:=λe=>a (e▸b);simp[putRow,mapBlock,Sort.ahead,Array.getElem?_modify,this]
theorem uP(b:iq)(h:b.length<=tmps.size):∀(i:Nat)(z:Int),b[i]? =some z->(putCells (Value.int .i64) 0 b.toArray tmps)[i]? =some (.int .i64 z):=by intro i z c;obtain⟨hi,rfl⟩:=AAV.1 c;simp[putCells,hi,show i<tmps.size by omega]
theorem vE(a:∀(k off cap:Nat)(zs:iq)(w:ja),Holds (Value.int .i64) w k off zs.toArray->k<w.heap.size->zs.length<4611686018427387904->
  Calls P f #[.slice (some ⟨k,off,none⟩) zs.length cap] w λe w'=>e= .returned (.tuple #[])/\∃n os,w'=grow (putRow (Value.int .i64) (Sort.ahead w n) k off (zs.mergeSort λx y=>decide (x<=y)).toArray) os)(Q:∀(p:ABu Addr)(cap:Nat)(w:ja),Calls P f #[.slice p 0 cap] w λe w'=>e= .returned (.tuple #[])/\w'=w)(zs:iq)(K:zs.length<4611686018427387904):BB P f [.own false 1 (ints zs)] (.BZ []) [.own false 1 (ints (zs.mergeSort λx y=>decide (x<=y)))]:=by
 intro w S ds F _ j z v;obtain⟨d,rfl,G⟩:=ABb.1 j;replace j:=G;obtain⟨o,B,r,s,_,t⟩:=BK.1 z;have u:∀x,F x↔o x:=λx=>by rw[t x];exact⟨λh=>h.elim id λh=>absurd h (s x),.inl⟩
 rcases Zf r j with⟨l,rfl,C⟩|⟨b,c,arr,E,l,m,J,H,D,L,q⟩
 . simp only[AAm,AA2,l];refine(Q none 0 w).mono ?_;rintro e w' ⟨rfl,rfl⟩;refine⟨.BZ [],[d],S,F,ak,ak,by simpa using j,by simp[l],?_,⟨rfl,rfl,rfl,AAv _,λ_ _ _=>rfl⟩,λ_ h=>h,λ_ h=>.inl h,v,λ_ h=>.inl h⟩;exact BK.2 ⟨λ_=>False,F,BK.2 (λ_ h=>h),⟨o,B,r,s,λx i=>absurd i (C x),t⟩,λ_ h=>h.elim,λx=>ak⟩
 . simp only[AAm,AA2,l];refine(a b 0 c zs w (Ta m L) (ABD.1 m).1 K).mono ?_;rintro e w' ⟨rfl,n,os,rfl⟩;have g:(zs.mergeSort λx y=>decide (x<=y)).length=zs.length:=ak;obtain⟨I,M,N,O⟩:=YH (S:=S) (c:=c) (Y9 (n:=n) (os:=os) (zs.mergeSort λx y=>decide (x<=y)).toArray m) (by simp[putCells,J]) (by rw[g];exact H) D (uP _ (by rw[g];omega));refine⟨.BZ [],[I],S,λx=>x=b,ak,ak,by simp[M],by simp[N],?_,iY _ ((u b).2 ((q b).2 rfl)),λ_ h=>h,λ_ h=>.inl h,λx i=> ?_,λx i=>.inl ((u x).2 ((q x).2 i))⟩
   . exact BK.2 ⟨λ_=>False,λx=>x=b,BK.2 (λ_ h=>h),⟨_,λ_=>False,O,λ_ h=>h,λ_ _ h=>h,λx=>ak⟩,λ_ h=>h.elim,λx=>ak⟩
   . have:=v x i;simp;omega
theorem b6(a:∀(m off cap:Nat)(zs:iq)(w:ja),Holds (Value.int .i64) w m off zs.toArray->zs.length<=9223372036854775807->zs.length<=cap->
  Calls P f #[.slice (some ⟨m,off,none⟩) zs.length cap] w λe w'=>e= .returned (.slice (some ⟨m,off,none⟩) (Lib.compact zs).length cap)/\∃q,w'=putRow (Value.int .i64) (Sort.ahead w q) m off (Lib.compact zs++List.replicate (zs.length-(Lib.compact zs).length) 0).toArray)(V:∀(p:ABu Addr)(cap:Nat)(w:ja),Calls P f #[.slice p 0 cap] w λe w'=>e= .returned (.slice p 0 cap)/\w'=w)(zs:iq)(hl:zs.length<4611686018427387904)(O:(Lib.compact zs).length<=zs.length)(W:Lib.compact ([]:List Int)=[]):BB P f [.own false 1 (ints zs)] (.own false 1 (ints (Lib.compact zs))) [.dead]:=by
 intro w S ds F _ l D v;obtain⟨d,rfl,I⟩:=ABb.1 l;replace l:=I;obtain⟨o,X,u,L,_,M⟩:=BK.1 D;have r:∀x,F x↔o x:=λx=>by rw[M x];exact⟨λh=>h.elim id λh=>absurd h (L x),.inl⟩
 have s:∀w',KT w' S [DV.lf .dead d.A0] (λ_=>False):=λw'=>CZ λx k=>by simp at k;subst k;exact .lf _ _ _ trivial (λ_ h=>h)
 rcases Zf u l with⟨j,rfl,Z⟩|⟨b,c,arr,E,j,y,N,J,H,Q,t⟩
 . simp only[AAm,AA2,j];refine(V none 0 w).mono ?_;rintro e w' ⟨rfl,rfl⟩;refine⟨d,[.lf .dead d.A0],S,o,by rw[j],by rw[l,W],ak,by simp[j],?_,⟨rfl,rfl,rfl,AAv _,λ_ _ _=>rfl⟩,λ_ h=>h,λ_ h=>.inl h,v,λx h=>.inl ((r x).2 h)⟩;exact BK.2 ⟨o,λ_=>False,u,s _,λ_ _ h=>h,λx=>ak⟩
 . simp only[AAm,AA2,j];refine(a b 0 c zs w (Ta y Q) ah J).mono ?_;rintro e w' ⟨rfl,n,rfl⟩;have G:(Lib.compact zs++List.replicate (zs.length-(Lib.compact zs).length) (0:Int)).length=zs.length:=an;have C:=Y9 (n:=n) (os:= #[]) (Lib.compact zs++List.replicate (zs.length-(Lib.compact zs).length) 0).toArray y;have B:=iY (w:=w) (n:=n) (os:= #[]) (g:=b) (F:=F) (Lib.compact zs++List.replicate (zs.length-(Lib.compact zs).length) 0).toArray ((r b).2 ((t b).2 rfl));rw[grow_empty]at C B;obtain⟨K,R,T,U⟩:=YH (S:=S) (c:=c) (zs:=Lib.compact zs) C (by simp[putCells,N]) ah H (λi z hi=>uP (Lib.compact zs++List.replicate (zs.length-(Lib.compact zs).length) 0) (by rw[G];omega) i z (by rw[AA0 (AAV.1 hi).1];exact hi));refine⟨K,[.lf .dead d.A0],S,λx=>x=b,by rw[T],R,ak,by simp[j],?_,B,λ_ h=>h,λ_ h=>.inl h,λx k=> ?_,λx k=>.inl ((r x).2 ((t x).2 k))⟩
   . exact BK.2 ⟨_,λ_=>False,U,s _,λ_ _ h=>h,λx=>ak⟩
   . have:=v x k;simpa using this
end
section
open Go.Sort
variable{w w':ja}{S S':iu}{P:iz}
theorem fz_ints(h:Fz w S (.sl b 1 (ints zs)) u):
 (∃a c,u= .slice a 0 c/\zs=[])\/∃e off c,u= .slice (some ⟨e,off,none⟩) zs.length c/\S e/\∀(i:Nat)(z:Int),zs[i]? =some z->w.cell? ⟨e,off+i,none⟩=some (.int .i64 z):=by
 generalize j:ints zs=rows at h;cases h with
 |nil x k a c hx=>
  left
  refine⟨a,c,rfl,?_⟩
  have:=congrArg List.length j;simpa[ints]using this
 |sl x k rows e off c vs hx SE hS hk hc hf=>
  right
  subst j;refine⟨e,off,c,by rw[nY],hS,?_⟩;intro i z l;have d:(ints zs)[i]? =some [AV.sc (.int .i64 z)]:=by rw[nX,l];rfl
  have f:=hc i 0 _ _ d rfl;have g:=hf i 0 _ _ d rfl;generalize m:vs i 0=v at f g;cases g with
  |sc _ hp=>simpa using f
theorem getD_of{f:Nat->ABu Value}(h:∀(i:Nat)(z:Int),zs[i]? =some z->f i=some (.int .i64 z)):∀j,j<zs.length->f j=some (.int .i64 (zs.getD j 0)):=by intro j a;rw[h j zs[j] (AAZ a)];simp[a]
def ext_drew(w:ja)(q:Nat)(F:iu):Ext w (w.drewN q) F:=⟨rfl,rfl,rfl,AAv _,λ_ _ _=>rfl⟩
theorem hZ(D:∀(b off n c:Nat)(zs:iq)(x:Int)(w:ja),n<=zs.length->n<4611686018427387904->(∀j,j<zs.length->w.cell? ⟨b,off+j,none⟩=some (.int .i64 (zs.getD j 0)))->(zs.take n).Pairwise (· <= ·)->
  Calls P f #[.slice (some ⟨b,off,none⟩) n c,.int .i64 x] w λe w'=>e= .returned (.tuple #[.int .i64 ((zs.take n).countP (· <x):Nat),.bool ((zs.take n).contains x)])/\∃q,w'=w.drewN q)(G:∀(a:ABu Addr)(c:Nat)(x:Int)(w:ja),Calls P f #[.slice a 0 c,.int .i64 x] w λe w'=>e= .returned (.tuple #[.int .i64 0,.bool false])/\w'=w)(zs:iq)(x:Int)(H:zs.length<4611686018427387904)(I:zs.Pairwise (· <= ·)):
 Says P f [.sl false 1 (ints zs),.sc (.int .i64 x)] (.BZ [.sc (.int .i64 (zs.countP (· <x):Nat)),.sc (.bool (zs.contains x))]):=by
 intro w S ds F _ u t C;obtain⟨d1,O,rfl,i,g⟩:=List.map_eq_cons_iff.1 u;obtain⟨o,rfl,B⟩:=ABb.1 g;replace g:=B;obtain⟨J,K,y,g2,_,N⟩:=BK.1 t;obtain⟨L,M,z,_,_,_⟩:=g2;have p:Fz w S (.sl false 1 (ints zs)) d1.A0:=by
  cases y with
  |lf a v _ ha hF=>rw[Eb]at i;subst i;rw[Kn];exact ha
  |nil=>simp at i
  |own=>simp at i
  |agg=>simp at i
  |BZ=>simp at i
 have m:o.A0= .int .i64 x:=by
  cases z with
  |lf a v _ ha hF=>rw[Eb]at g;subst g;simpa using ha.1
  |nil=>simp at g
  |own=>simp at g
  |agg=>simp at g
  |BZ=>simp at g
 have k:∀q,∀e,e=Ending.returned (.tuple #[.int .i64 (zs.countP (· <x):Nat),.bool (zs.contains x)])->∃(r:DV)(os:jl)(S' s:iu),e= .returned r.A0/\r.er= .BZ [.sc (.int .i64 (zs.countP (· <x):Nat)),.sc (.bool (zs.contains x))]/\os.map DV.er=[.dead,.dead]/\os.map DV.A0=[d1,o].map DV.A0/\
  Ok (w.drewN q) S' (.BZ (r::os)) s/\Ext w (w.drewN q) F/\(∀b,S b->S' b)/\(∀b,S' b->S b\/F b\/w.heap.size<=b)/\(∀b,S' b->b<(w.drewN q).heap.size)/\(∀x,s x->F x\/w.heap.size<=x):=by
  rintro q e rfl;refine⟨.BZ [.lf (.sc (.int .i64 (zs.countP (· <x):Nat))) (.int .i64 (zs.countP (· <x):Nat)),.lf (.sc (.bool (zs.contains x))) (.bool (zs.contains x))],[.lf .dead d1.A0,.lf .dead o.A0],S,λ_=>False,ak,ak,ak,ak,?_,ext_drew w q F,λ_ h=>h,λ_ h=>.inl h,C,λ_ h=>h.elim⟩;refine BK.2 ⟨λ_=>False,λ_=>False,BK.2 (CZ ?_),CZ ?_,λ_ h=>h.elim,λx=>ak⟩
  . intro d hd;simp only[AAr,ABL,ABK]at hd;rcases hd with rfl|rfl
    . exact .lf _ _ _ ⟨rfl,rfl⟩ (λ_ h=>h)
    . exact .lf _ _ _ ⟨rfl,rfl⟩ (λ_ h=>h)
  . intro d hd;simp only[AAr,ABL,ABK]at hd;rcases hd with rfl|rfl
    . exact .lf _ _ _ trivial (λ_ h=>h)
    . exact .lf _ _ _ trivial (λ_ h=>h)
 rcases fz_ints p with⟨a,c,l,rfl⟩|⟨b,off,c,l,_,E⟩
 . simp only[AAm,AA2,l,m];refine(G a c x w).mono ?_;rintro e w' ⟨rfl,rfl⟩
   have:=k 0 _ rfl;simpa[World.drewN,l,m]using this
 . simp only[AAm,AA2,l,m];refine(D b off zs.length c zs x w (AAv _) H (getD_of E) (by rw[List.take_length];exact I)).mono ?_;rintro e w' ⟨rfl,q,rfl⟩;rw[List.take_length]
   have:=k q _ rfl;simpa only[AAm,AA2,l,m]using this
theorem AAP(H:∀(n:Nat)(w:ja),0<n->n*8<=140737488355328->Calls P f #[.slice none 0 0,.int .i64 n] w λe w'=>∃(c:Nat)(arr:jt),arr.size=c/\e= .returned (.slice (some ⟨w.heap.size,0,none⟩) 0 c)/\w'=w.drew.alloc (.cells arr E))(C:∀w:World,Calls P f #[.slice none 0 0,.int .i64 0] w λe w'=>e= .returned (.slice none 0 0)/\w'=w)(n:Nat)(hn:n*8<=140737488355328):Says P f [.sc (.slice none 0 0),.sc (.int .i64 n)] (.own false 1 []):=by
 intro w S ds F _ s r m;obtain⟨d1,V,rfl,D,l⟩:=List.map_eq_cons_iff.1 s;obtain⟨j,rfl,G⟩:=ABb.1 l;replace l:=G;obtain⟨O,Q,z,g2,_,U⟩:=BK.1 r;obtain⟨R,T,B,_,_,_⟩:=g2;have sc:∀{d:DV}{F:iu}{u:jn},Ok w S d F->d.er= .sc u->d.A0=u:=by
  intro d F u hd g;cases hd with
  |lf a v _ ha hF=>rw[Eb]at g;subst g;simpa using ha.1
  |nil=>simp at g
  |own=>simp at g
  |agg=>simp at g
  |BZ=>simp at g
 have b:=sc z D;have o:=sc B l;have p:∀w',KT w' S [DV.lf .dead d1.A0,DV.lf .dead j.A0] (λ_=>False):=λw'=>CZ λd hd=>by
  simp only[AAr,ABL,ABK]at hd;rcases hd with rfl|rfl
  . exact .lf _ _ _ trivial (λ_ h=>h)
  . exact .lf _ _ _ trivial (λ_ h=>h)
 simp only[AAm,AA2,b,o];rcases Nat.eq_zero_or_pos n with rfl|K
 . refine(C w).mono ?_;rintro e w' ⟨rfl,rfl⟩;refine⟨.own (.slice none 0 0) false 1 [],[.lf .dead d1.A0,.lf .dead j.A0],S,λ_=>False,ak,ak,ak,by simp[b,o],?_,⟨rfl,rfl,rfl,AAv _,λ_ _ _=>rfl⟩,λ_ h=>h,λ_ h=>.inl h,m,λ_ h=>h.elim⟩;exact BK.2 ⟨λ_=>False,λ_=>False,.nil _ _ (λ_ h=>h),p _,λ_ h=>h.elim,λx=>ak⟩
 . refine(H n w K hn).mono ?_;rintro e w' ⟨c,arr,t,rfl,rfl⟩;have i:(w.drew.alloc (.cells arr E)).heap=w.heap.push (.cells arr E):=rfl;have I:(w.drew.alloc (.cells arr E)).heap[w.heap.size]? =some (.cells arr E (0,0)):=(by rw[i];simp);obtain⟨y,L,M,N⟩:=YH (S:=S) (c:=c) (zs:=[]) I t.symm ak (λh=>by have:=m _ h;omega) ak;refine⟨y,[.lf .dead d1.A0,.lf .dead j.A0],S,λx=>x=w.heap.size,by rw[M];rfl,by rw[L];rfl,ak,by simp[b,o],?_,⟨rfl,rfl,rfl,by rw[i];simp,λk J _=> ?_⟩,λ_ h=>h,λ_ h=>.inl h,λx q=> ?_,λx q=>.inr ah⟩
   . exact BK.2 ⟨_,λ_=>False,N,p _,λ_ _ h=>h,λx=>ak⟩
   . rw[i];simp[Array.getElem?_push,Nat.ne_of_lt J]
   . have:=m x q;rw[i];simp;omega
end
section
variable{P:iz}{G:Gi}
abbrev si(n:Int):AV:=.sc (.int .i64 n)
abbrev sb(b:Bool):AV:=.sc (.bool b)
def resIs(x:mf)(res:AV):Prop:=match x with
 |some (vs,_)=>one vs=res
 |none=>False
def uX(vs:i5)(τ:Sg)(a:AV):resIs (some (vs,τ)) a=(one vs=a):=(rfl)
theorem Ends_ret(G:Gi)(rs:ni)(a:AV)(σ:Sg):Ends G rs a .ret σ=resIs (Gz G rs σ) a:=by
 unfold Ends resIs;cases Gz G rs σ with
 |none=>simp
 |some x=>obtain⟨vs,τ⟩:=x;simp
def one_one(v:AV):one [v]=v:=(rfl)
def one_two(v u:AV)(l:i5):one (v::u::l)= .BZ (v::u::l):=(rfl)
end
section
variable{P:iz}{G:Gi}
def kills_nil(d:Nat)(σ:Sg):Jl [] d σ=σ:=(rfl)
def killnS_at(G:Gi)(n d:Nat)(σ:Sg)(s:Nat):GJ G n d σ s=if s∈G.Pm d then FG n d (σ s)else σ s:=(rfl)
def killS_at(G:Gi)(d:Nat)(σ:Sg)(s:Nat):KY G d σ s=if s∈G.Pm d then Dv d (σ s)else σ s:=(rfl)
def start_at(args:i5)(s:Nat):start args s=args.getD s .un:=(rfl)
def bK(x:ABu Sg)(K:iv):Prop:=match x with
 |some τ=>K τ
 |none=>False
def bK_some(τ:Sg)(K:iv):bK (some τ) K=K τ:=(rfl)
def bK_none(K:iv):bK none K=False:=(rfl)
def awp_apd(f:Apd)(ops:jG)(Q:Exit->Sg->Prop)(σ:Sg):IU P G (.apd f ops) Q σ=Pn P G f 0 ops (Jo P G ⟨none,.st 1 (.t f.ap) (.t f.s),none⟩ (Q .normal)) σ:=(rfl)
theorem yK(f:Apd)(m:Nat)(K:iv)(σ:Sg):Pn P G f m [] K σ=bK (if okD f m σ=true then some σ else none) K:=by by_cases h:okD f m σ=true<;>simp[Pn,bK,h]
theorem rG(f:Apd)(m:Nat)(o:BD)(os:jG)(K:iv)(σ:Sg):Pn P G f m (o::os) K σ=bK (if okD f m σ=true then some σ else none) (Jo P G o (Pn P G f (m+1) os K)):=by by_cases h:okD f m σ=true<;>simp[Pn,bK,h]
def arun_std(d:ABu D3)(x:Ar)(g:jc)(K:iv)(σ:Sg):EE P G ⟨d,.std x,g⟩ K σ=bK (G8 G (.std x) d σ) K:=(rfl)
def awp_pg(P:iz)(G:Gi)(c:Bool)(r:Nat)(p:i4)(a:IC)(Q:Exit->Sg->Prop)(σ:Sg):IU P G (.pg c r p a) Q σ=IU P G a (pgQ G c r p Q) σ:=(rfl)
def uN(G:Gi)(c:Bool)(r:Nat)(p:i4)(Q:Exit->Sg->Prop)(σ:Sg):pgQ G c r p Q .normal σ=bK (gzS G c r p σ) (Q .normal):=(rfl)
def awp_gz(P:iz)(G:Gi)(c:Bool)(r:Nat)(p:i4)(a:IC)(Q:Exit->Sg->Prop)(σ:Sg):IU P G (.gz c r p a) Q σ=bK (gzS G c r p σ) (IU P G a Q):=(rfl)
def UG(x:AV)(a b:iv)(σ:Sg):Prop:=match x with
 | .sc (.bool x)=>if x=true then a σ else b σ
 |_=>False
theorem wI(a b:iv)(σ:Sg):UG (.sc (.bool true)) a b σ=a σ:=by simp[UG]
theorem wH(a b:iv)(σ:Sg):UG (.sc (.bool false)) a b σ=b σ:=by simp[UG]
def zA(P:iz)(G:Gi)(c:Ar)(a b:IC)(Q:Exit->Sg->Prop)(σ:Sg):IU P G (.cond c a b) Q σ=UG (ar σ c) (IU P G a Q) (IU P G b Q) σ:=(rfl)
def xW(d:ABu D3)(K:iv)(σ:Sg):Prop:=match d with
 |some d=>K (Dn (Jl d.kl d.d σ) d.d .un)
 |none=>K σ
def skipK_s(d:D3)(K:iv)(σ:Sg):xW (some d) K σ=K (Dn (Jl d.kl d.d σ) d.d .un):=(rfl)
def skipK_n(K:iv)(σ:Sg):xW none K σ=K σ:=(rfl)
def gK(x:AV)(want:Bool)(a b:iv)(σ:Sg):Prop:=match x with
 | .sc (.bool x)=>if x=want then a σ else b σ
 | .un=>b σ
 |_=>False
theorem gK_tt(a b:iv)(σ:Sg):gK (.sc (.bool true)) true a b σ=a σ:=by simp[gK]
theorem gK_tf(a b:iv)(σ:Sg):gK (.sc (.bool true)) false a b σ=b σ:=by simp[gK]
theorem gK_ft(a b:iv)(σ:Sg):gK (.sc (.bool false)) true a b σ=b σ:=by simp[gK]
theorem gK_ff(a b:iv)(σ:Sg):gK (.sc (.bool false)) false a b σ=a σ:=by simp[gK]
def gK_un(c:Bool)(a b:iv)(σ:Sg):gK .un c a b σ=b σ:=(rfl)
def aop_n(d:ABu D3)(op:bH)(K:iv)(σ:Sg):Jo P G ⟨d,op,none⟩ K σ=EE P G ⟨d,op,none⟩ K σ:=(rfl)
def aop_g(d:ABu D3)(op:bH)(g:Nat)(a:Bool)(K:iv)(σ:Sg):Jo P G ⟨d,op,some (g,a)⟩ K σ=gK (σ g) a (EE P G ⟨d,op,some (g,a)⟩ K) (xW d K) σ:=(rfl)
def awp_flc(a:lu)(ops:jG)(Q:Exit->Sg->Prop)(σ:Sg):IU P G (.jB a ops) Q σ=O0 P G ops (Q .normal) σ:=(rfl)
def wN(a b:Prop):Prop:=a/\b
def wN.intro{a b:Prop}(h:a)(k:b):wN a b:=⟨h,k⟩
def KZ:List Nat->Tr->Tr
 |[],t=>t
 |i::l,t=>.one i (KZ l t)
def onS_nil(t:Tr):KZ [] t=t:=(rfl)
def awp_drw(t:Tr)(ops:jG)(Q:Exit->Sg->Prop)(σ:Sg):IU P G (.drw t ops) Q σ=runT P G ops t (Q .normal) σ:=(rfl)
def runT_leaf(a:jG)(K:iv)(σ:Sg):runT P G a .leaf K σ=K σ:=(rfl)
def runT_fork(c:jG)(f m:Nat)(a b:Tr)(K:iv)(σ:Sg):runT P G c (.fork f m a b) K σ=wN (runT P G c a K σ) (runT P G c b K σ):=(rfl)
def oneK(o:ABu BD)(c:BD->Prop):Prop:=match o with
 |some o=>c o
 |none=>False
def oneK_some(o:BD)(c:BD->Prop):oneK (some o) c=c o:=(rfl)
theorem runT_one(a:jG)(i:Nat)(t:Tr)(K:iv)(σ:Sg):runT P G a (.one i t) K σ=oneK a[i]? (λo=>Jo P G o (runT P G a t K) σ):=by simp only[runT,oneK];cases a[i]? <;>rfl
def awp_flo(f:Flo)(a b:jG)(Q:Exit->Sg->Prop)(σ:Sg):IU P G (.flo f a b) Q σ=Sl P G f a (O0 P G b (Q .normal)) σ:=(rfl)
def yJ(f:Flo)(K:iv)(σ:Sg):Sl P G f [] K σ=K σ:=(rfl)
theorem rF(f:Flo)(o:BD)(os:jG)(K:iv)(σ:Sg):Sl P G f (o::os) K σ=bK (if jQ f.kb f.off (σ f.r)=true then some σ else none) (Jo P G o (Sl P G f os K)):=by
 show(_/\_)=_;by_cases h:jQ f.kb f.off (σ f.r)=true
 . simp[h,bK]
 . simp[h,bK]
def aops_nil(K:iv)(σ:Sg):O0 P G [] K σ=K σ:=(rfl)
def yL(o:BD)(os:jG)(K:iv)(σ:Sg):O0 P G (o::os) K σ=Jo P G o (O0 P G os K) σ:=(rfl)
def toDst_s(d:D3)(v:AV)(K:iv)(τ:Sg):C2 (some d) v K τ=bK (wr d v τ) K:=(rfl)
def toDst_n(v:AV)(K:iv)(τ:Sg):C2 none v K τ=K τ:=(rfl)
def uY(x:ABu AV)(d:ABu D3)(K:iv)(τ:Sg):Prop:=match x with
 |some v=>C2 d v K τ
 |none=>False
def resK_some(v:AV)(d:ABu D3)(K:iv)(τ:Sg):uY (some v) d K τ=C2 d v K τ:=(rfl)
def callK(P:iz)(x:mf)(f m:Nat)(d:ABu D3)(K:iv):Prop:=match x with
 |some (IE,τ)=>∃res,Says P f IE res/\uY (Q9 m res) d K τ
 |none=>False
def rW(b:i5)(τ:Sg)(f m:Nat)(d:ABu D3)(K:iv):callK P (some (b,τ)) f m d K=∃a,Says P f b a/\uY (Q9 m a) d K τ:=(rfl)
def yP(d:ABu D3)(f:Nat)(args:j7)(m:Nat)(g:jc)(K:iv)(σ:Sg):EE P G ⟨d,.call f args m,g⟩ K σ=callK P (G6 G m args σ) f m d K:=(rfl)
def axs_nil(K:iv)(σ:Sg):ML P G [] K σ=K σ:=(rfl)
def axs_o(o:BD)(a:np)(K:iv)(σ:Sg):ML P G (.o o::a) K σ=Jo P G o (ML P G a K) σ:=(rfl)
def nilK(x:ABu (AV×ABu (Nat×List Step)))(d:D3)(neg:Bool)(K:iv)(σ:Sg):Prop:=match x with
 |some (a,_)=>(match rowsOf a with
  |some rows=>∀b:Bool,(b=true->rows=[])->C2 (some d) (.sc (.bool (if neg=true then !b else b))) K σ
  |none=>False)
 |none=>False
def nilK_sl(e:Bool)(k:Nat)(rows:i6)(c:kw)(d:D3)(a:Bool)(K:iv)(σ:Sg):nilK (some (.sl e k rows,c)) d a K σ=∀b:Bool,(b=true->rows=[])->C2 (some d) (.sc (.bool (if a=true then !b else b))) K σ:=(rfl)
def axs_nilq(d:D3)(a:Bool)(x:Ar)(b:np)(K:iv)(σ:Sg):ML P G (.jU d a x::b) K σ=nilK (hd σ x) d a (ML P G b K) σ:=(rfl)
def gldK(x:ABu (List Value))(d:D3)(K:iv)(σ:Sg):Prop:=match x with
 |some cs=>C2 (some d) (.agg (cs.map .sc)) K σ
 |none=>False
def AAN(a:jj)(d:D3)(K:iv)(σ:Sg):gldK (some a) d K σ=C2 (some d) (.agg (a.map .sc)) K σ:=(rfl)
def axs_gld(d:D3)(g n:Nat)(a:np)(K:iv)(σ:Sg):ML P G (.gld d g n::a) K σ=gldK (nJ g n) d (ML P G a K) σ:=(rfl)
def bxvK(x:AV)(d:D3)(n s:Nat)(K:iv)(σ:Sg):Prop:=match x with
 | .agg cs=>cs.length=n/\∀us:List Value,us.length=n->C2 (some d) (.vb s 0 us) K σ
 |_=>False
def bxvK_agg(a:i5)(d:D3)(n s:Nat)(K:iv)(σ:Sg):bxvK (.agg a) d n s K σ=(a.length=n/\∀b:List Value,b.length=n->C2 (some d) (.vb s 0 b) K σ):=(rfl)
def axs_bxv(d:D3)(n s:Nat)(a:np)(K:iv)(σ:Sg):ML P G (.bxv d n s::a) K σ=bxvK (σ s) d n s (ML P G a K) σ:=(rfl)
def cloK(P:iz)(x:ABu (List AV))(f:Nat)(d:ABu D3)(K:iv)(σ:Sg):Prop:=match x with
 |some IE=>∃res,Says P f IE res/\uY (Q9 0 res) d K σ
 |none=>False
def zN(f:Nat)(b:i5)(d:ABu D3)(K:iv)(σ:Sg):cloK P (some b) f d K σ=∃a,Says P f b a/\uY (Q9 0 a) d K σ:=(rfl)
def axs_clog(d:ABu D3)(f:Nat)(x:Ar)(args:j7)(g:Nat)(b:Bool)(a:np)(K:iv)(σ:Sg):ML P G (.clo d f x args (some (g,b))::a) K σ=gK (σ g) b (sN P d f x args (ML P G a K)) (xW d (ML P G a K)) σ:=(rfl)
def cloP_at(d:ABu D3)(f:Nat)(x:Ar)(args:j7)(K:iv)(σ:Sg):sN P d f x args K σ=cloK P (cloA σ f x args) f d K σ:=(rfl)
def arun_mkf(d:ABu D3)(f:Nat)(a:j7)(g:jc)(K:iv)(σ:Sg):EE P G ⟨d,.mkf f a,g⟩ K σ=bK (G8 G (.mkf f a) d σ) K:=(rfl)
def lndK(P:iz)(G:Gi)(x:kw)(IE bs:ABu (List AV))(a:AV->AV)(c:m8)(f:Nat)(d:ABu D3)(K:iv)(σ:Sg):Prop:=match x,IE,bs with
 |some (r,p),some IE,some bs=>(match sub (σ r) p with
  |some (.own b k rows)=>∃res out o,BB P f (IE++a (.own b k rows)::bs) res ((IE.map λ_=>.dead)++out::bs.map λ_=>.dead)/\QW c out=some o/\Ix o=true/\clean res=true/\(match put (σ r) p o with
   |some t=>C2 d res K (Dn (GJ G (Tf o b k p) r σ) r t)
   |none=>False)
  |_=>False)
 |_,_,_=>False
def arun_lnd(d:ABu D3)(f:Nat)(pre:j7)(x:Ar)(c:m8)(a:j7)(g:jc)(K:iv)(σ:Sg):EE P G ⟨d,.Vx f pre x c a,g⟩ K σ=lndK P G (Qt σ x c) (OD σ pre) (OD σ a) (Uf σ x c) c f d K σ:=(rfl)
def arun_cp(d:ABu D3)(x:Ar)(g:jc)(K:iv)(σ:Sg):EE P G ⟨d,.cp x,g⟩ K σ=bK (G8 G (.cp x) d σ) K:=(rfl)
def arun_mv(d:ABu D3)(x:Ar)(g:jc)(K:iv)(σ:Sg):EE P G ⟨d,.mv x,g⟩ K σ=bK (G8 G (.mv x) d σ) K:=(rfl)
def yS(d:ABu D3)(c a b:Ar)(g:jc)(K:iv)(σ:Sg):EE P G ⟨d,.pick c a b,g⟩ K σ=bK (G8 G (.pick c a b) d σ) K:=(rfl)
def arun_bx(d:ABu D3)(n:Nat)(x:Ar)(g:jc)(K:iv)(σ:Sg):EE P G ⟨d,.bx n x,g⟩ K σ=bK (G8 G (.bx n x) d σ) K:=(rfl)
def arun_bld(d:ABu D3)(z:i5)(a:mr)(g:jc)(K:iv)(σ:Sg):EE P G ⟨d,.TK z a,g⟩ K σ=bK (G8 G (.TK z a) d σ) K:=(rfl)
def arun_bsl(d:ABu D3)(n:Nat)(z:i6)(a:nr)(g:jc)(K:iv)(σ:Sg):EE P G ⟨d,.OR n z a,g⟩ K σ=bK (G8 G (.OR n z a) d σ) K:=(rfl)
def arun_ld(d:ABu D3)(ag:Bool)(n:Nat)(x:Ar)(g:jc)(K:iv)(σ:Sg):EE P G ⟨d,.ld ag n x,g⟩ K σ=bK (G8 G (.ld ag n x) d σ) K:=(rfl)
def arun_st(d:ABu D3)(n:Nat)(x y:Ar)(g:jc)(K:iv)(σ:Sg):EE P G ⟨d,.st n x y,g⟩ K σ=bK (G8 G (.st n x y) d σ) K:=(rfl)
def arun_fad(d:ABu D3)(n:Nat)(x:Ar)(g:jc)(K:iv)(σ:Sg):EE P G ⟨d,.Wc n x,g⟩ K σ=bK (G8 G (.Wc n x) d σ) K:=(rfl)
def arun_iad(d:ABu D3)(n:Nat)(x y:Ar)(g:jc)(K:iv)(σ:Sg):EE P G ⟨d,.ZG n x y,g⟩ K σ=bK (G8 G (.ZG n x y) d σ) K:=(rfl)
def arun_aad(d:ABu D3)(n m:Nat)(x y:Ar)(g:jc)(K:iv)(σ:Sg):EE P G ⟨d,.aad n m x y,g⟩ K σ=bK (G8 G (.aad n m x y) d σ) K:=(rfl)
def arun_idx(d:ABu D3)(ag:Bool)(n m:Nat)(x y:Ar)(g:jc)(K:iv)(σ:Sg):EE P G ⟨d,.idx ag n m x y,g⟩ K σ=bK (G8 G (.idx ag n m x y) d σ) K:=(rfl)
def arun_bin(d:ABu D3)(a:BinOp)(x y:Ar)(g:jc)(K:iv)(σ:Sg):EE P G ⟨d,.bin a x y,g⟩ K σ=bK (G8 G (.bin a x y) d σ) K:=(rfl)
def arun_beq(d:ABu D3)(ag:Bool)(x y:Ar)(g:jc)(K:iv)(σ:Sg):EE P G ⟨d,.beq ag x y,g⟩ K σ=bK (G8 G (.beq ag x y) d σ) K:=(rfl)
def arun_un(d:ABu D3)(a:UnOp)(x:Ar)(g:jc)(K:iv)(σ:Sg):EE P G ⟨d,.un a x,g⟩ K σ=bK (G8 G (.un a x) d σ) K:=(rfl)
def arun_cvt(d:ABu D3)(a:IntKind)(x:Ar)(g:jc)(K:iv)(σ:Sg):EE P G ⟨d,.cvt a x,g⟩ K σ=bK (G8 G (.cvt a x) d σ) K:=(rfl)
def arun_len(d:ABu D3)(x:Ar)(g:jc)(K:iv)(σ:Sg):EE P G ⟨d,.len x,g⟩ K σ=bK (G8 G (.len x) d σ) K:=(rfl)
def yU(d:ABu D3)(x y:Ar)(g:jc)(K:iv)(σ:Sg):EE P G ⟨d,.pX x y,g⟩ K σ=bK (G8 G (.pX x y) d σ) K:=(rfl)
def arun_mm(d:ABu D3)(mx:Bool)(x y:Ar)(g:jc)(K:iv)(σ:Sg):EE P G ⟨d,.mm mx x y,g⟩ K σ=bK (G8 G (.mm mx x y) d σ) K:=(rfl)
def yT(d:ABu D3)(a:Bool)(b:jh)(x y:Ar)(g:jc)(K:iv)(σ:Sg):EE P G ⟨d,.pW a b x y,g⟩ K σ=bK (G8 G (.pW a b x y) d σ) K:=(rfl)
def yV(d:ABu D3)(x:Ar)(g:jc)(K:iv)(σ:Sg):EE P G ⟨d,.dM x,g⟩ K σ=bK (G8 G (.dM x) d σ) K:=(rfl)
def arun_app(d:ABu D3)(n m:Nat)(x y:Ar)(g:jc)(K:iv)(σ:Sg):EE P G ⟨d,.app n m x y,g⟩ K σ=bK (G8 G (.app n m x y) d σ) K:=(rfl)
def arun_slc(d:ABu D3)(n:Nat)(ag:Bool)(x:Ar)(lo hi mx:ABu Ar)(g:jc)(K:iv)(σ:Sg):EE P G ⟨d,.slc n ag x lo hi mx,g⟩ K σ=bK (G8 G (.slc n ag x lo hi mx) d σ) K:=(rfl)
def arun_ext(d:ABu D3)(x:Ar)(n:Nat)(g:jc)(K:iv)(σ:Sg):EE P G ⟨d,.ext x n,g⟩ K σ=bK (G8 G (.ext x n) d σ) K:=(rfl)
def arun_mk(d:ABu D3)(n m:Nat)(z:i5)(l c:Ar)(g:jc)(K:iv)(σ:Sg):EE P G ⟨d,.mk n m z l c,g⟩ K σ=bK (G8 G (.mk n m z l c) d σ) K:=(rfl)
def arun_fl(d:ABu D3)(g:jc)(K:iv)(σ:Sg):EE P G ⟨d,.fl,g⟩ K σ=bK (G8 G .fl d σ) K:=(rfl)
def arun_flk(d:ABu D3)(x:Ar)(k:Nat)(g:jc)(K:iv)(σ:Sg):EE P G ⟨d,.flk x k,g⟩ K σ=bK (G8 G (.flk x k) d σ) K:=(rfl)
def yQ(d:ABu D3)(r off kb k:Nat)(i:Ar)(g:jc)(K:iv)(σ:Sg):EE P G ⟨d,.nW r off kb k i,g⟩ K σ=bK (G8 G (.nW r off kb k i) d σ) K:=(rfl)
def arun_lda(d:ABu D3)(x:Ar)(g:jc)(K:iv)(σ:Sg):EE P G ⟨d,.ZX x,g⟩ K σ=bK (G8 G (.ZX x) d σ) K:=(rfl)
def arun_sts(d:ABu D3)(x y:Ar)(g:jc)(K:iv)(σ:Sg):EE P G ⟨d,.YM x y,g⟩ K σ=bK (G8 G (.YM x y) d σ) K:=(rfl)
def yR(d:ABu D3)(x:Ar)(g:jc)(K:iv)(σ:Sg):EE P G ⟨d,.I6 x,g⟩ K σ=bK (G8 G (.I6 x) d σ) K:=(rfl)
end
variable{I:FI}
section
variable{w w':ja}{S S':iu}{G:Gi}{δ:ji}{Fr:iy}{P:iz}
def vV(G:Gi)(rs:ni)(res:AV)(e:Exit)(σ:Sg):Prop:=
 (match e with| .normal=>True| .ret=>True|_=>False)/\∃vs τ,Gz G rs σ=some (vs,τ)/\one (vs.map fzn)=res
def uV(x:mf)(res:AV):Prop:=match x with
 |some (vs,_)=>one (vs.map fzn)=res
 |none=>False
def o0(vs:i5)(τ:Sg)(a:AV):uV (some (vs,τ)) a=(one (vs.map fzn)=a):=(rfl)
theorem yA(G:Gi)(rs:ni)(a:AV)(σ:Sg):vV G rs a .ret σ=uV (Gz G rs σ) a:=by
 unfold vV uV;cases Gz G rs σ with
 |none=>simp
 |some x=>obtain⟨vs,τ⟩:=x;simp
theorem eR(ds:jl):∀{F:iu},KT w S ds F->∃a:List DV,a.map DV.er=(ds.map DV.er).map fzn/\a.map DV.A0=ds.map DV.A0/\KT w (λx=>S x\/F x) a (λ_=>False):=by
 induction ds with
 |nil=>intro F h;exact⟨[],rfl,rfl,λ_ h=>h⟩
 |cons d ds ih=>
  rintro F ⟨n,o,l,m,p,e⟩;obtain⟨D,i,j,k⟩:=nI l;obtain⟨a,d1,f,g⟩:=ih m;refine⟨D::a,by simp[i,d1],by simp[j,f],⟨λ_=>False,λ_=>False,?_,?_,λ_ h=>h.elim,λx=>ak⟩⟩
  . exact k.mono (λ_ _=>rfl) (λ_ h=>h.elim) (λb c=>c.imp id λh=>(e b).2 (.inl h)) (λ_ h=>h.elim)
  . exact g.mono (λ_ _=>rfl) (λ_ h=>h.elim) (λb c=>c.imp id λh=>(e b).2 (.inr h)) (λ_ h=>h.elim)
theorem Ur(ds:jl):(QE ds).A0=Zd (ds.map DV.A0):=by
 match ds with
 |[]=>simp[QE,Zd]
 |[d]=>simp[QE,Zd]
 |_::_::_=>simp[QE,Zd]
theorem pP(L:P.follows .mixedOrders=true)(K:P.funcs[f]? =some j)(J:OT P j I=true)(hn:args.length<=j.ntmps)(s:args.all JA=true)(h:IU P I.g I.c (vV I.g I.r v) (start args)):Says P f args v:=by
 intro w S ds F i u p H;subst u;refine Vl (m:=0) L K J (by simpa using hn) s (λc _=>QY c) i p H h ?_;rintro k R S1 T V tmps o t e q z _ y;have l:k= .normal\/k= .ret:=by obtain⟨h,_⟩:=o;cases k<;>simp_all
 refine⟨l,?_⟩;obtain⟨_,vs,τ,C,B⟩:=o;obtain⟨U,FD,D,g2,n,E,_⟩:=KD j.results.toList t z y C;obtain⟨Ds',N,O,Q⟩:=eR _ n;have G:KT R (λx=>S1 x\/FD x) (ds.map λd=>DV.lf .dead d.A0) (λ_=>False):=by refine CZ λd hd=> ?_;obtain⟨x,_,rfl⟩:=ABh.1 hd;exact .lf _ _ _ trivial (λ_ h=>h)
 refine⟨_,VQ g2,QE Ds',ds.map λd=>DV.lf .dead d.A0,λx=>S1 x\/FD x,λ_=>False,by rw[Ur,Ur,O],by rw[Us,N,D,B],ak,ak,BK.2 ⟨λ_=>False,λ_=>False,PU Q,G,λ_ h=>h.elim,λx=>ak⟩,⟨e.os,e.tape,e.output,e.size,e.block⟩,λb a=>.inl (e.sub b a),?_,?_,λx M=>M.elim⟩
 . rintro b (a|a)
   . exact e.sup b a
   . exact .inr (e.own b (E b a))
 . rintro b (a|a)
   . exact q b a
   . exact(PU n).lt b a
def aC(x:mf)(res:AV)(outs:i5):Prop:=match x with
 |some (vs,τ)=>one vs=res/\Uw τ 0 outs
 |none=>False
def o5(vs:i5)(τ:Sg)(b:AV)(a:i5):aC (some (vs,τ)) b a=(one vs=b/\Uw τ 0 a):=(rfl)
theorem yB(G:Gi)(rs:ni)(b:AV)(a:i5)(σ:Sg):WT G rs b a .ret σ=aC (Gz G rs σ) b a:=by
 unfold WT aC;cases Gz G rs σ with
 |none=>simp
 |some x=>obtain⟨vs,τ⟩:=x;simp only[AAU,AAj,true_and,eq_iff_iff];exact⟨λ⟨_,_,⟨c,d⟩,h⟩=>by subst c;subst d;exact h,λh=>⟨_,_,⟨rfl,rfl⟩,h⟩⟩
theorem gL(G:Gi)(rs:ni)(b:AV)(a:i5)(σ:Sg):WT G rs b a .normal σ=aC (Gz G rs σ) b a:=by
 unfold WT aC;cases Gz G rs σ with
 |none=>simp
 |some x=>obtain⟨vs,τ⟩:=x;simp only[AAU,AAj,true_and,eq_iff_iff];exact⟨λ⟨_,_,⟨c,d⟩,h⟩=>by subst c;subst d;exact h,λh=>⟨_,_,⟨rfl,rfl⟩,h⟩⟩
end
attribute [go_sem] wB awp_reg awp_rex yZ awp_skip awp_exit awp_ret awp_gz awp_pg awp_apd yK rG arun_std okD Qh Tb uN gzS czS zA wI wH aops_nil yL aop_n aop_g gK_tt gK_tf gK_ft gK_ff
attribute [go_sem] gK_un skipK_s skipK_n bK_some bK_none toDst_s toDst_n resK_some rW yP axs_nil axs_o nilK_sl axs_nilq arun_cp arun_mv
attribute [go_sem] yS arun_bx arun_bld arun_bsl arun_ld arun_st arun_fad arun_iad arun_aad arun_idx arun_bin arun_beq arun_un arun_cvt arun_len yV arun_app arun_slc
attribute [go_sem] List.length_replicate Int.reduceToNat arun_mm yT zZ Rf yU axs_gld AAN S7 arun_ext arun_mk awp_drw onS_nil runT_leaf runT_fork runT_one oneK_some awp_flc awp_flo yJ rF jQ arun_fl arun_flk yQ arun_lda arun_sts yR G8 tk dN wr valOf binF binI unF view RL RK Nv vC vF I0 KN
attribute [go_sem] IM GN cellsOf DS ar hd rL ER kills_nil Ud killS_at killnS_at FG Vs Dv Qi Dn GL RA XJ XK kU stC
attribute [go_sem] sub put SA KI UH Og mxI XH Yd G6 Js lP Uz rdL OJ qQ fzn fzl Q9 eQ
attribute [go_sem] fresh QZ TR plc rowsOf Ix pU seqA_exit seqA_ret bW QX rU Gi.Pm start_at if_true ite_true ite_false if_false Option.map_some
attribute [go_sem] Bool.false_eq_true List.getD_cons_zero List.getD_cons_succ true_and and_true and_self false_and and_false Int.natCast_nonneg Int.toNat_natCast List.take_succ_cons List.take_zero List.drop_zero List.drop_succ_cons List.map_cons List.map_nil List.length_cons List.length_nil Nat.zero_add decide_eq_true_eq
attribute [go_sem] List.getElem?_cons_zero List.getElem?_cons_succ List.all_cons List.all_nil Bool.and_true Bool.true_and Nat.le_refl List.nil_append List.append_nil beq_self_eq_true bne_self_eq_false beq_iff_eq bne_iff_ne ne_eq not_true_eq_false not_false_eq_true Ends_ret yA
attribute [go_sem] o0 Gz uX one_one one_two AV.sc.injEq Value.bool.injEq Value.int.injEq AV.BZ.injEq AV.agg.injEq List.cons.injEq AV.own.injEq AV.sl.injEq Option.some.injEq Prod.mk.injEq exists_and_left exists_eq_left exists_eq_left' exists_eq
attribute [go_sem] List.contains_nil List.filter_nil List.flatMap_nil List.not_mem_nil List.filter_cons Bool.not_true Bool.not_false Int.toNat_zero Nat.lt_irrefl Nat.sub_zero List.isEmpty_nil List.contains_cons Bool.or_false Bool.false_or Bool.or_true Bool.true_or List.mem_cons or_false false_or
attribute [go_sem] or_true true_or or_self Nat.lt_add_one Nat.zero_lt_one List.set_cons_zero List.set_cons_succ cA Mt List.cons_append List.drop_nil List.take_nil Bool.not_eq_true Bool.and_false Bool.false_and Bool.and_self List.any_cons List.any_nil decide_true decide_false
attribute [go_sem] eq_self Xz Yo axs_bxv bxvK_agg axs_clog cloP_at zN cloA zJ XL arun_mkf arun_lnd Tl rdF OD Qt Uf QW clean LN yB gL o5 Uw
theorem frzR_app(a b:i6):Mt (a++b)=Mt a++Mt b:=by simp[UN]
theorem frzR_set(a:i6)(i:Nat)(x:i5):Mt (a.set i x)=(Mt a).set i (cA x):=by simp[UN,YB,ABI]
attribute [go_sem] frzR_app frzR_set List.isEmpty_cons
variable{k g:AV}{z:i4}
section
variable{P:iz}{G:Gi}
def lY(G:Gi)(rs:ni)(res:AV)(outs:i5)(e:Exit)(σ:Sg):Prop:=
 (match e with| .normal=>True| .ret=>True|_=>False)/\∃vs τ,Gz G rs σ=some (vs,τ)/\one (vs.map fzn)=res/\Uw τ 0 outs
def uW(x:mf)(res:AV)(outs:i5):Prop:=match x with
 |some (vs,τ)=>one (vs.map fzn)=res/\Uw τ 0 outs
 |none=>False
def o6(vs:i5)(τ:Sg)(b:AV)(a:i5):uW (some (vs,τ)) b a=(one (vs.map fzn)=b/\Uw τ 0 a):=(rfl)
theorem yC(G:Gi)(rs:ni)(b:AV)(a:i5)(σ:Sg):lY G rs b a .ret σ=uW (Gz G rs σ) b a:=by unfold lY uW;grind
theorem fU(hm:P.follows .mixedOrders=true)(hf:P.funcs[f]? =some j)(Z:OT P j I=true)(V:iE j args.length=true)(hn:args.length<=j.ntmps)(D:args.all JA=true)(q:row.length=args.length)(h:IU P I.g I.c (lY I.g I.r k row) (start args)):BB P f args k row:=by
 intro w S ds F J H B X;subst H;refine Vl (m:=ds.length) hm hf Z am D (λc d=>by simp only[iE,d]at V;simp_all) J B X h ?_;rintro o w1 S1 δ1 F1 tmps z E e EP L G K;have p:o= .normal\/o= .ret:=by obtain⟨h,_⟩:=z;cases o<;>simp_all
 refine⟨p,?_⟩;obtain⟨_,vs,τ,N,M,u⟩:=z;have QR:=G.resolve_left aS;obtain⟨Ds,FD,T,g2,y,U,δ2,F2,k1,k2,k3,k4,k5⟩:=KD j.results.toList E L K N;rw[<- k2]at u;obtain⟨os,O,Q,n,v,R⟩:=Ze k1 row 0 u;have C:os.map DV.A0=ds.map DV.A0:=by
  rw[Q];have hl:row.length=ds.length:=by simpa using q
  rw[hl];apply ABj;intro i;simp only[AAf];by_cases hi:i<ds.length
  . simp_all
  . simp_all
 obtain⟨Ds',q1,q2,q3⟩:=eR _ y;have W:KT w1 (λx=>S1 x\/FD x) os n:=v.mono (λ_ _=>rfl) (λ_ _=>rfl) (λ_ h=>.inl h) λx t l=>by
  rcases l with l|l
  . exact(CN.2 v).FQ x t l
  grind
 refine⟨_,VQ g2,QE Ds',os,λx=>S1 x\/FD x,n,by rw[Ur,Ur,q2],by rw[Us,q1,T,M],O,C,BK.2 ⟨λ_=>False,n,PU q3,W,λ_ h=>h.elim,λx=>ak⟩,⟨e.os,e.tape,e.output,e.size,e.block⟩,λb d=>.inl (e.sub b d),?_,?_,?_⟩
 . rintro b (d|d)
   . exact e.sup b d
   . exact .inr (e.own b (U b d))
 . rintro b (d|d)
   . simp_all
   . exact(PU y).lt b d
 . intro x t;obtain⟨s,_,hs⟩:=R x t;exact e.own x (k5 x ⟨s,hs⟩)
def putK(G:Gi)(n:Nat)(x:ABu AV)(res:AV)(d:ABu D3)(K:iv)(r:Nat)(σ:Sg):Prop:=match x with
 |some t=>C2 d res K (Dn (GJ G n r σ) r t)
 |none=>False
def putK_some(n:Nat)(t a:AV)(d:ABu D3)(K:iv)(r:Nat)(σ:Sg):putK G n (some t) a d K r σ=C2 d a K (Dn (GJ G n r σ) r t):=(rfl)
def yD(P:iz)(G:Gi)(r:Nat)(p:i4)(b:Bool)(k f:Nat)(xs ys:i5)(n:AV)(c:m8)(d:ABu D3)(K:iv)(σ:Sg):Prop:=
 ∃res out o,BB P f (xs++n::ys) res ((xs.map λ_=>.dead)++out::ys.map λ_=>.dead)/\QW c out=some o/\Ix o=true/\clean res=true/\putK G (Tf o b k p) (put (σ r) p o) res d K r σ
def yD.intro{k:Nat}{n:AV}{c:m8}{a:AV}(h:BB P f (args++n::row) a ((args.map λ_=>.dead)++out::row.map λ_=>.dead))(r:QW c out=some g)(j:Ix g=true)(l:clean a=true)(m:putK G (Tf g b k p) (put (σ i) p g) a d K i σ):yD P G i p b k f args row n c d K σ:=⟨a,out,g,h,r,j,l,m⟩
def lndB(P:iz)(G:Gi)(y:ABu AV)(r:Nat)(p:i4)(xs ys:i5)(a:AV->AV)(c:m8)(f:Nat)(d:ABu D3)(K:iv)(σ:Sg):Prop:=match y with
 |some (.own b k rows)=>yD P G r p b k f xs ys (a (.own b k rows)) c d K σ
 |_=>False
def lndB_own(b:Bool)(k:Nat)(rows:i6)(r:Nat)(p:i4)(e g:i5)(a:AV->AV)(c:m8)(f:Nat)(d:ABu D3)(K:iv)(σ:Sg):lndB P G (some (.own b k rows)) r p e g a c f d K σ=yD P G r p b k f e g (a (.own b k rows)) c d K σ:=(rfl)
def lndK_s(r:Nat)(p:i4)(b e:i5)(a:AV->AV)(c:m8)(f:Nat)(d:ABu D3)(K:iv)(σ:Sg):lndK P G (some (r,p)) (some b) (some e) a c f d K σ=lndB P G (sub (σ r) p) r p b e a c f d K σ:=(rfl)
theorem lndN_own(b:Bool)(k:Nat)(rows:i6)(p:i4):Tf (.own b k rows) b k p=p.length+1:=by simp[Tf]
def lbY(G:Gi)(x:ABu AV)(r N r2:Nat)(p2:i4)(v res:AV)(d:ABu D3)(K:iv)(τ:Sg):Prop:=match x with
 |some t=>putK G p2.length (put (Dn (GJ G N r τ) r t r2) p2 v) res d K r2 (Dn (GJ G N r τ) r t)
 |none=>False
def lbY_some(t:AV)(r N c:Nat)(b:i4)(v a:AV)(d:ABu D3)(K:iv)(τ:Sg):lbY G (some t) r N c b v a d K τ=putK G b.length (put (Dn (GJ G N r τ) r t c) b v) a d K c (Dn (GJ G N r τ) r t):=(rfl)
theorem LbE.intro{j:Nat}{n:AV}{k:Nat}{a:AV}(h:BB P f (n::(args++[v])) a (out::((args.map λ_=>.dead)++[v])))(c:(!(i==j)&&(Ix out&&clean a))=true)(g:lbY G (put (τ i) p out) i (Tf out b k p) j z v a d K τ):lbQ P G d f i j p z v n b k args K τ:=by
 simp only[AAT,ABG,ABZ,ne_eq]at c;refine⟨c.1,a,out,h,c.2.1,c.2.2,?_⟩;unfold lbY at g;split at g
 . rename_i t e;simp only[e];exact g
 simp_all
def lbK(P:iz)(G:Gi)(a:kw)(d:ABu D3)(f:Nat)(x:Ar)(Uj:j7)(K:iv)(σ:Sg):Prop:=match a with
 |some (r2,p2)=>(match dN G r2 p2 σ with
  |some (v,τ)=>(match plc τ x,OD τ Uj with
   |some (r,p),some ms=>(match sub (τ r) p with
    |some (.own b k rows)=>lbQ P G d f r r2 p p2 v (.own b k rows) b k ms K τ
    |_=>False)
   |_,_=>False)
  |none=>False)
 |none=>False
def lbT(P:iz)(G:Gi)(a:ABu (AV×Sg))(r2:Nat)(p2:i4)(d:ABu D3)(f:Nat)(x:Ar)(Uj:j7)(K:iv):Prop:=match a with
 |some (v,τ)=>(match plc τ x,OD τ Uj with
  |some (r,p),some ms=>(match sub (τ r) p with
   |some (.own b k rows)=>lbQ P G d f r r2 p p2 v (.own b k rows) b k ms K τ
   |_=>False)
  |_,_=>False)
 |none=>False
def lbU(P:iz)(G:Gi)(a:kw)(l:ABu (List AV))(r2:Nat)(p2:i4)(d:ABu D3)(f:Nat)(v:AV)(K:iv)(τ:Sg):Prop:=match a,l with
 |some (r,p),some ms=>(match sub (τ r) p with
  |some (.own b k rows)=>lbQ P G d f r r2 p p2 v (.own b k rows) b k ms K τ
  |_=>False)
 |_,_=>False
def lbV(P:iz)(G:Gi)(a:ABu AV)(r r2:Nat)(p p2:i4)(ms:i5)(d:ABu D3)(f:Nat)(v:AV)(K:iv)(τ:Sg):Prop:=match a with
        |some (.own b k rows)=>lbQ P G d f r r2 p p2 v (.own b k rows) b k ms K τ
        |_=>False
def axs_lb(d:ABu D3)(f:Nat)(x:Ar)(a:j7)(y:Ar)(b:np)(K:iv)(σ:Sg):ML P G (.lb d f x a y::b) K σ=lbK P G (plc σ y) d f x a (ML P G b K) σ:=(rfl)
def lbK_some(b:Nat)(a:i4)(d:ABu D3)(f:Nat)(x:Ar)(c:j7)(K:iv)(σ:Sg):lbK P G (some (b,a)) d f x c K σ=lbT P G (dN G b a σ) b a d f x c K:=(rfl)
def lbT_some(v:AV)(τ:Sg)(c:Nat)(b:i4)(d:ABu D3)(f:Nat)(x:Ar)(a:j7)(K:iv):lbT P G (some (v,τ)) c b d f x a K=lbU P G (plc τ x) (OD τ a) c b d f v K τ:=(rfl)
def lbU_some(r:Nat)(p:i4)(a:i5)(c:Nat)(b:i4)(d:ABu D3)(f:Nat)(v:AV)(K:iv)(τ:Sg):lbU P G (some (r,p)) (some a) c b d f v K τ=lbV P G (sub (τ r) p) r c p b a d f v K τ:=(rfl)
def lbV_own(b:Bool)(k:Nat)(rows:i6)(r e:Nat)(p c:i4)(a:i5)(d:ABu D3)(f:Nat)(v:AV)(K:iv)(τ:Sg):lbV P G (some (.own b k rows)) r e p c a d f v K τ=lbQ P G d f r e p c v (.own b k rows) b k a K τ:=(rfl)
attribute [go_sem] axs_lb lbK_some lbT_some lbU_some lbV_own lbY_some
attribute [go_sem] lndN_own lndK_s lndB_own putK_some yC o6
end
section
variable{P:iz}{G:Gi}
attribute [go_sem] iD
end
variable{V:jc}
section
variable{w w':ja}{S S':iu}{G:Gi}{δ:ji}{Fr:iy}{P:iz}
inductive MO where
 |mp (es:List (ABv×Value))
 |it (s:ABv) (pos:Nat)
def MO.is:MO->Obj->Prop
 | .mp es,o=>∃arr c,o= .map arr c/\arr.toList.map (λe=>(e.key,e.val))=es.map λx=>(Value.string x.1,x.2)
 | .it s p,o=>o= .stringIter s p
abbrev Mu:=Nat->ABu MO
abbrev jq:=Sg->Mu->Prop
abbrev m9:=Nat->Sg->Mu->Prop
def Kd(G:Gi)(n:Nat)(w0:ja)(S0 U0:iu)(a:Act)(w:ja)(σ:Sg)(μ:Mu):Prop:=
 ∃(w1:ja)(S1 U1:iu),Nx w0 S0 U0 w1 S1 U1/\X4 w1 S1 U1/\
  (∀b o,μ b=some o->b<w1.heap.size/\¬S1 b/\¬U1 b/\w0.heap.size<=b/\∃ob,w1.heap[b]? =some ob/\o.is ob)/\Rel G n w1 S1 U1 a w σ
variable{n:Nat}{w0:ja}{S0 U0:iu}{a:Act}{σ:Sg}{μ:Mu}
theorem Kd.start(b:X4 w0 S0 U0)(h:Rel G n w0 S0 U0 a w σ):Kd G n w0 S0 U0 a w σ (λ_=>none):=
 ⟨w0,S0,U0,Nx.refl _ _ _,b,λ_ _ h=>by(cases h),h⟩
theorem Kd.toRel(h:Kd G n w0 S0 U0 a w σ μ):Rel G n w0 S0 U0 a w σ:=by obtain⟨m,S1,U1,j,l,k,S,δ,F,b,c,d,e,f,g,i⟩:=h;exact⟨S,δ,F,b,c,d,e,f,j.trans g,i⟩
variable{O:MO}
theorem Kd.obj(h:Kd G n w0 S0 U0 a w σ μ)(j:μ f=some O):∃ob,w.heap[f]? =some ob/\O.is ob:=by obtain⟨v,S1,U1,u,t,c,S,δ,F,l,m,p,q,r,i,s⟩:=h;obtain⟨d,g2,e,k,ob,b,g⟩:=c f O j;exact⟨ob,by rw[i.block f d e];exact b,g⟩
theorem Kd.fresh(h:Kd G n w0 S0 U0 a w σ μ):μ w.heap.size=none:=by
 cases hb:μ w.heap.size with
 |none=>rfl
 |some o=>obtain⟨ob,b,_⟩:=h.obj hb;simp_all
theorem Kd.turn(h:Kd G n w0 S0 U0 a w σ μ){b:Nat}{o':MO}{ob':Obj}(z:(∃o,μ b=some o)\/b=w.heap.size)(B:w'.os=w.os)(D:w'.tape=w.tape)(C:w'.output=w.output)(q:w.heap.size<=w'.heap.size)(j:∀c,c<w.heap.size->c≠b->w'.heap[c]? =w.heap[c]?)(p:w'.heap[b]? =some ob')(his:o'.is ob'):Kd G n w0 S0 U0 a w' σ (Dn μ b (some o')):=by
 obtain⟨w1,S1,U1,H,W,J,S,δ,F,T,U,V,rfl,r,l,v⟩:=h;have t:∀c o,μ c=some o->c<w.heap.size/\¬S c/\¬BN F c/\w0.heap.size<=c/\∃ob,w.heap[c]? =some ob/\o.is ob:=by
  intro c o d;obtain⟨N,g2,O,P,ob,Q,R⟩:=J c o d;have u:=l.size;refine⟨ah,?_,?_,P,ob,by rw[l.block c N O];exact Q,R⟩
  . intro X;rcases l.sup c X with k|k|k
    all_goals grind
  . intro y;rcases l.own c y with k|k
    all_goals grind
 have f:∀x,BN F x->x<w.heap.size:=λx ⟨s,u⟩=>(r.ok s).lt x u;have hbS:¬S b:=by
  rcases z with⟨o,L⟩|rfl
  . simp_all
  . grind
 have LR:¬BN F b:=by
  rcases z with⟨o,L⟩|rfl
  . simp_all
  . intro k;have:=f _ k;omega
 have e:=H.trans l;have Z:w0.heap.size<=b:=by
  rcases z with⟨o,L⟩|rfl
  . simp_all
  . exact e.size
 have K:b<w'.heap.size:=(ABD.1 p).1;have i:∀c,S c->w'.heap[c]? =w.heap[c]? :=λc d=>j c (v c d) aS;have g:∀s x,F s x->w'.heap[x]? =w.heap[x]? :=λs x d=>j x (f x ⟨s,d⟩) aS;have M:St G w' S δ F:=r.world i g (λ_ h=>h) (λs x H=>(r.ok s).FQ x H);refine⟨w',S,BN F,?_,?_,?_,S,δ,F,T,U,V,rfl,M,Nx.refl _ _ _,λc d=>ABP (v c d) q⟩
 . refine⟨B.trans e.os,D.trans e.tape,C.trans e.output,ABO e.size q,?_,e.sub,e.sup,λhl c d=>ABP (e.lt hl c d) q,e.own⟩;intro c d y;rw[j c (ABP d e.size) ah,e.block c d y]
 . refine⟨?_,λc d=>⟨λ⟨s,u⟩=>(r.ok s).FQ c u d,ABP (v c d) q⟩⟩;intro x I;obtain⟨k1,arr,E,fz,k2,k3⟩:=(W.now l) x I;simp_all
 . intro c o d;by_cases m:c=b
   . subst m;rw[BW]at d;simp_all
   . rw[Br _ _ m]at d;grind
theorem Rel.D4(h:Rel G n w0 S0 U0 a w σ)(k:D5 G n o.dst d=true)(g:∀w S,Ok w S D (λ_=>False))(f:∀δ,Dr δ D)(i:C2 d D.er K σ):
 ∃σ',Rel G n w0 S0 U0 (a.put o.dst D.A0) w σ'/\K σ':=by
 obtain⟨S,δ,Fr,hn,dst,j,rfl,c,e,b⟩:=h;have hd:=Ec k hn;exact Mo (S2:=S) (D:=D) (FD:=λ_=>False) (v:=D.er) (K:=K) c hn dst j hd rfl (λ_ _=>rfl) b (λ_ h=>h) (λ_ h=>.inl h) b (g w S) (λ_ h=>h.elim) (f δ) e rfl rfl rfl (AAv _) i
theorem Kd.D4(h:Kd G n w0 S0 U0 a w σ μ)(l:D5 G n o.dst d=true)(f:∀w S,Ok w S D (λ_=>False))(c:∀δ,Dr δ D)(i:C2 d D.er K σ):
 ∃σ',Kd G n w0 S0 U0 (a.put o.dst D.A0) w σ' μ/\K σ':=by
 obtain⟨m,S1,U1,k,g,b,j⟩:=h;obtain⟨σ',dst,e⟩:=j.D4 l f c i;exact⟨σ',⟨m,S1,U1,k,g,b,dst⟩,e⟩
theorem Kd.FV(h:Kd G n w0 S0 U0 a w σ μ){x:ki}(d:Cc x y=true)(f:ar σ y= .sc u):a.eval x=u/\G4 u=true:=by obtain⟨S,δ,Fr,hn,j,c,rfl,b,k,i⟩:=h.toRel;obtain⟨g,e⟩:=Aq d c;rw[e];exact b.FV g f
def Nc(es:ln)(s:ABv)(z:jn):Value:=match es.find? (λx=>x.1==s)with
 |some x=>x.2
 |none=>z
def rE(es:ln)(s:ABv)(v:jn):List (ABv×Value):=es++[(s,v)]
inductive q7 where
 |x (o:mC)
 |mkm (d:D3)
 |lkp (g:ABu (Nat×Bool)) (d:D3) (m k:Ar)
 |mup (m k v:Ar)
 |rng (d:D3) (x:Ar)
 |nxt (d:D3) (x:Ar)
def gM(g:jc)(d:D3)(A K:iv)(σ:Sg):Prop:=match g with
 |none=>A σ
 |some (s,want)=>gK (σ s) want A (λσ=>K (Dn (Jl d.kl d.d σ) d.d .un)) σ
theorem gM_gd{d:D3}{A:iv}{σ:Sg}(h:gM V d A K σ):gdP V A (aU (some d) K) σ:=by cases V<;>exact h
def lkpK(m k:AV)(μ:Mu)(d:D3)(K:iv)(σ:Sg):Prop:=match m,k with
 | .sc (.map (some b)),.sc (.string s)=>match μ b with
  |some (.mp es)=>G4 (Nc es s (.bool false))=true/\C2 (some d) (.sc (Nc es s (.bool false))) K σ
  |_=>False
 |_,_=>False
def mupK(m k v:AV)(μ:Mu)(K:Mu->Prop):Prop:=match m,k,v with
 | .sc (.map (some b)),.sc (.string s),.sc u=>match μ b with
  |some (.mp es)=>es.all (λx=> !(x.1==s))=true/\K (Dn μ b (some (.mp (rE es s u))))
  |_=>False
 |_,_,_=>False
def rngK(x:AV)(d:D3)(K:jq)(σ:Sg)(μ:Mu):Prop:=match x with
 | .sc (.string s)=>∀b,μ b=none->C2 (some d) (.sc (.pointer (some ⟨b,0,none⟩))) (λσ'=>K σ' (Dn μ b (some (.it s 0)))) σ
 |_=>False
def nxtK(x:AV)(d:D3)(K:jq)(σ:Sg)(μ:Mu):Prop:=match x with
 | .sc (.pointer (some ⟨b,0,none⟩))=>match μ b with
  |some (.it s pos)=>if pos<s.size then C2 (some d) (.BZ [.sc (.bool true),.sc (.int .i64 pos),.sc (.int .i32 (Utf8.decode s pos).1)]) (λσ'=>K σ' (Dn μ b (some (.it s (pos+(Utf8.decode s pos).2))))) σ
   else C2 (some d) (.BZ [.sc (.bool false)]) (λσ'=>K σ' μ) σ
  |_=>False
 |_=>False
def P7(P:iz)(G:Gi):List q7->(Sg->Mu->Prop)->Sg->Mu->Prop
 |[],K,σ,μ=>K σ μ
 | .x o::l,K,σ,μ=>ML P G [o] (λσ'=>P7 P G l K σ' μ) σ
 | .mkm d::l,K,σ,μ=>∀b,μ b=none->C2 (some d) (.sc (.map (some b))) (λσ'=>P7 P G l K σ' (Dn μ b (some (.mp [])))) σ
 | .lkp g d m k::l,K,σ,μ=>gM g d (λσ=>lkpK (ar σ m) (ar σ k) μ d (λσ'=>P7 P G l K σ' μ) σ) (λσ'=>P7 P G l K σ' μ) σ
 | .mup m k v::l,K,σ,μ=>mupK (ar σ m) (ar σ k) (ar σ v) μ (λh=>P7 P G l K σ h)
 | .rng d x::l,K,σ,μ=>rngK (ar σ x) d (P7 P G l K) σ μ
 | .nxt d x::l,K,σ,μ=>nxtK (ar σ x) d (P7 P G l K) σ μ
def X8(P:iz)(t:jo)(zb:Bool):Bool:=match P.underlying t with
 |some (.map kt et)=>(match P.underlying kt with|some .string=>true|_=>false)&&(!zb||(match(P.info? et).bind (·.zero)with|some (.bool false)=>true|_=>false))
 |_=>false
def sJ(P:iz)(G:Gi)(n:Nat)(ops:Array Oper)(o:Oper):q7->Bool
 | .x io=>iG P G n ops o io
 | .mkm d=>o.guard.isNone&&D5 G n o.dst (some d)&&(match o.op with| .makeMap _ none=>true|_=>false)
 | .lkp g d m k=>Lo n ops o.guard g&&D5 G n o.dst (some d)&&(match o.op with| .lookup t m' k' false=>Cc m' m&&Cc k' k&&X8 P t true|_=>false)
 | .mup m k v=>o.guard.isNone&&D5 G n o.dst none&&(match o.op with| .mapUpdate t m' k' v'=>Cc m' m&&Cc k' k&&Cc v' v&&X8 P t false|_=>false)
 | .rng d x=>o.guard.isNone&&D5 G n o.dst (some d)&&(match o.op with| .range t x'=>Cc x' x&&(match P.underlying t with|some .string=>true|_=>false)|_=>false)
 | .nxt d x=>o.guard.isNone&&D5 G n o.dst (some d)&&(match o.op with| .next x' true=>Cc x' x|_=>false)
end
end Go.Abs
