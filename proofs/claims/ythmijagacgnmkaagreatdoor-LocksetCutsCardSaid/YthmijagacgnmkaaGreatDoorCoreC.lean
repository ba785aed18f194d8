/- A calculus of abstract states of Go memory, and that it is sound. -/
import Derived.Test.YthmijagacgnmkaaGreatDoorCoreB
import Derived.Scope
import Derived.Laws.Sem
import Derived.Sort.Grow
import Derived.Lib.SlicesCompact
import Derived.Shelf.Slices.SearchI
import Derived.IntWalk
import Derived.MapKept
import Derived.Lib.OthersKept
set_option linter.unusedSimpArgs false
set_option linter.unusedVariables false
namespace Go.Abs
variable {G:Gi} {P:Program} {w:World}
def yZ (l:List Nat):Nat:=l.foldr (λs m=>m |||2^s) 0
theorem rS {l:List Nat} {s:Nat} (h:s∈l):(yZ l).testBit s=true:=by
 induction l with
 |nil=>cases h
 |cons a l ih=>
  simp only[yZ,List.foldr_cons,Nat.testBit_or,ABE];simp only[ABH]at h;rcases h with rfl|h
  . simp_all
  . exact .inl (ih h)
theorem bX {a b:List Nat} (h:yZ a &&& yZ b=0) {s:Nat} (c:s∈a) (d:s∈b):False:=by
 have:(yZ a &&& yZ b).testBit s=true:=by rw[Nat.testBit_and,rS c,rS d];rfl
 simp_all
def bef (M:List Nat) (o:Oper):Nat:=o.after.toList.foldr (λe s=>if Region.binds .any e=true then s |||2^e.on |||M.getD e.on 0 else s) 0
theorem bef_bit {M:List Nat} {o:Oper} {i:Nat} (h:(bef M o).testBit i=true):∃e∈o.after.toList,Region.binds .any e=true/\(e.on=i∨(M.getD e.on 0).testBit i=true):=by
 unfold bef at h;generalize o.after.toList=l at h;induction l with
 |nil=>simp at h
 |cons e l ih=>grind
def Vw:List Oper->List Nat->List Nat
 |[],M=>M
 |o::os,M=>Vw os (M++[bef M o])
def S9 (M Ws Rs:List Nat) (j:Nat):Nat->Bool
 |0=>true
 |i+1=>((Ws.getD i 0 &&& Rs.getD j 0==0&&Rs.getD i 0 &&& Ws.getD j 0==0)||(M.getD j 0).testBit i)&&S9 M Ws Rs j i
theorem Zd {M b a:List Nat} {j n:Nat} (h:S9 M b a j n=true):∀i,i<n->(b.getD i 0 &&& a.getD j 0=0/\a.getD i 0 &&& b.getD j 0=0)∨(M.getD j 0).testBit i=true:=by
 induction n with
 |zero=>omega
 |succ n ih=>simp only[S9,AAi,ABE,AAw]at h;grind
def W7 (M Ws Rs:List Nat):Nat->List Oper->Bool
 |_,[]=>true
 |j,o::os=>M.getD j 0==bef M o&&(o.after.toList.all λe=> !Region.binds .any e||decide (e.on<j))&&S9 M Ws Rs j j&&W7 M Ws Rs (j+1) os
theorem eO {M c b:List Nat} (os:List Oper):∀{j0:Nat},W7 M c b j0 os=true->∀i o,os[i]? =some o->M.getD (j0+i) 0=bef M o/\(∀e∈o.after.toList,Region.binds .any e=true->e.on<j0+i)/\∀x,x<j0+i->(c.getD x 0 &&& b.getD (j0+i) 0=0/\b.getD x 0 &&& c.getD (j0+i) 0=0)∨(M.getD (j0+i) 0).testBit x=true:=by
 induction os with
 |nil=>simp_all
 |cons o os ih=>
  intro j0 h i o' a;simp only[W7,AAi,AAw,AAm,ABE,ABR,AA1]at h;obtain⟨⟨⟨d,f⟩,g⟩,j⟩:=h;cases i with
  |zero=>simp only[ABO,AAh]at a;subst a;refine⟨d,λe l k=>(f e l).resolve_left (by simp[k]),Zd g⟩
  |succ i=>
   simp only[ABT]at a
   have:=ih j i o' a;grind
def wOf (G:Gi) (Dj:List BN) (j:Nat):List Nat:=match Dj[j]? with|some o=>Ss G o|none=>[]
theorem uH {n:Nat} {all:Array Oper} (os:List Oper):∀{a:List BN},Lx P G n all os a=true->os.length=a.length/\∀(i:Nat) o io,os[i]? =some o->a[i]? =some io->HN P G n all o io=true:=by
 induction os with
 |nil=>intro a h;cases a<;>simp[Lx]at h ⊢
 |cons o os ih=>
  intro a h;cases a with
  |nil=>simp[Lx]at h
  |cons io a=>simp only[Lx,AAi]at h;grind
theorem uL {p p':Nat->Bool} (h:∀j,p' j=true->p j=true) {i:Nat} (a:p i=true) (b:p' i=false):∀N,i<N->(List.range N).countP p'<(List.range N).countP p:=by
 have le:∀N,(List.range N).countP p'≤(List.range N).countP p:=λN=>List.countP_mono_left (λj _=>h j);intro N;induction N with
 |zero=>omega
 |succ N ih=>intro hi;rw[List.range_succ,List.countP_append,List.countP_append];grind
theorem Xe {n:Nat} {all:Array Oper} {o:Oper} {io:BN} (h:HN P G n all o io=true):∀d,io.dst=some d->d.rs=G.HI d.d:=by
 intro d hd;simp only[HN,AAi]at h;have a:=h.1.1;rw[hd]at a;cases ho:o.dst with
 |none=>rw[ho]at a;simp[Dz]at a
 |some t=>rw[ho]at a;simp only[Dz,AAi,AAw]at a;grind
mutual
def OZ:AV->AV
 | .sc _=>.un
 | .own b k rows=>.own b k (xV rows)
 | .agg cs=>.agg (pV cs)
 | .BM cs=>.BM (pV cs)
 |a=>a
def pV:List AV->List AV
 |[]=>[]
 |a::r=>OZ a::pV r
def xV:List (List AV)->List (List AV)
 |[]=>[]
 |a::r=>pV a::xV r
end
theorem pW (l:List AV):pV l=l.map OZ:=by
 induction l with
 |nil=>rfl
 |cons a r ih=>simp[pV,ih]
theorem fC (l:List (List AV)):xV l=l.map pV:=by
 induction l with
 |nil=>rfl
 |cons a r ih=>simp[xV,ih]
def Im:AV->AV
 | .sc v=>.sc v
 |a=>OZ a
theorem UR {a b:AV} (h:Im b=Im a):OZ b=OZ a:=by cases a<;>cases b<;>simp only[Im,OZ]at h ⊢ <;>first|rfl|exact h|cases h
theorem M8 {a b:AV} (h:Im b=Im a) (c:match a with| .own .. | .agg _| .BM _=>False|_=>True):b=a:=by cases a<;>first|exact c.elim| (cases b<;>simp only[Im,OZ]at h<;>first|rfl|exact h|cases h)
theorem UQ {a:AV} {b:Bool} {k:Nat} {rows:List (List AV)} (h:OZ a= .own b k rows):∃c,a= .own b k c/\xV c=rows:=by cases a<;>simp only[OZ]at h<;>first|simp_all|simp_all
theorem skC_sl {a:AV} {b:Bool} {k:Nat} {rows:List (List AV)} (h:OZ a= .sl b k rows):a= .sl b k rows:=by cases a<;>simp only[OZ]at h<;>first|exact h|cases h
theorem sB {r a:List (List AV)} (h:xV a=xV r):a.length=r.length:=by have:=congrArg List.length h;simpa[fC]using this
theorem skR_at {r a:List (List AV)} (h:xV a=xV r) (i:Nat):(a[i]?).map pV=(r[i]?).map pV:=by have:=congrArg (·[i]?) h;simpa[fC]using this
theorem skL_at {r a:List AV} (h:pV a=pV r) (i:Nat):(a[i]?).map OZ=(r[i]?).map OZ:=by have:=congrArg (·[i]?) h;simpa[pW]using this
theorem sub_sk (p:List Step):∀{a d:AV},OZ d=OZ a->(sub d p).map OZ=(sub a p).map OZ:=by
 induction p with
 |nil=>intro a d h;simp[sub,h]
 |cons s p ih=>
  obtain⟨i,j,t⟩:=s;intro a d h;have f:∀{g e:List AV},pV e=pV g->(match e[j]? with|some c=>sub c p|none=>none).map OZ=(match g[j]? with|some c=>sub c p|none=>none).map OZ:=by
   intro g e q
   have:=skL_at q j;cases h1:g[j]? with
   |none=>rw[h1]at this;simp at this;simp[this]
   |some c=>rw[h1]at this;simp only[Option.map_some]at this;obtain⟨c',l,m⟩:=Option.map_eq_some_iff.1 this;simp only[l];exact ih m
  cases a with
  |own b k rows=>
   obtain⟨n,rfl,r⟩:=UQ h;simp only[sub]
   have:=skR_at r i;cases h1:rows[i]? with
   |none=>rw[h1]at this;simp at this;simp[this]
   |some row=>rw[h1]at this;simp only[Option.map_some]at this;obtain⟨o,l,m⟩:=Option.map_eq_some_iff.1 this;simp only[l];exact f m
  |agg g=>cases d<;>simp only[OZ,AV.agg.injEq,reduceCtorEq]at h;simp only[sub];exact f h
  |BM g=>cases d<;>simp only[OZ,AV.BM.injEq,reduceCtorEq]at h;simp only[sub];exact f h
  |_=>cases d<;>simp only[OZ]at h<;>first|rfl|cases h
theorem put_sk (q:List Step):∀{a t:AV} {h u:Value},sub a q=some (.sc h)->put a q (.sc u)=some t->OZ t=OZ a:=by
 induction q with
 |nil=>intro a t h u e d;simp only[sub,Option.some.injEq]at e;simp only[put,Option.some.injEq]at d;subst e;subst d;rfl
 |cons s q ih=>
  obtain⟨i,j,n⟩:=s;have g:∀{f:List AV} {c c':AV},f[j]? =some c->OZ c'=OZ c->pV (f.set j c')=pV f:=by
   intro f c c' e d;rw[pW,pW,List.map_set,d];obtain⟨l,rfl⟩:=List.getElem?_eq_some_iff.1 e;apply List.ext_getElem?;intro m;rw[List.getElem?_set];split
   . grind
   . rfl
  intro a t h u e d;cases a with
  |own b k rows=>
   simp only[sub]at e;simp only[put]at d;cases hr:rows[i]? with
   |none=>simp_all
   |some row=>
    rw[hr]at e d;simp only at e d;cases hc:row[j]? with
    |none=>simp_all
    |some c=>
     rw[hc]at e d;simp only at e d;cases hp:put c q (.sc u)with
     |none=>simp_all
     |some c'=>rw[hp]at d;obtain rfl:=Option.some.inj d;simp only[OZ,AV.own.injEq,true_and];rw[fC,fC,List.map_set,g hc (ih e hp)];obtain⟨hi,rfl⟩:=List.getElem?_eq_some_iff.1 hr;apply List.ext_getElem?;grind
  |agg f=>
   simp only[sub]at e;simp only[put]at d;cases hc:f[j]? with
   |none=>simp_all
   |some c=>
    rw[hc]at e d;simp only at e d;cases hp:put c q (.sc u)with
    |none=>simp_all
    |some c'=>rw[hp]at d;obtain rfl:=Option.some.inj d;simp only[OZ,AV.agg.injEq];grind
  |BM f=>
   simp only[sub]at e;simp only[put]at d;cases hc:f[j]? with
   |none=>simp_all
   |some c=>
    rw[hc]at e d;simp only at e d;cases hp:put c q (.sc u)with
    |none=>simp_all
    |some c'=>rw[hp]at d;obtain rfl:=Option.some.inj d;simp only[OZ,AV.BM.injEq];grind
  |_=>simp[sub]at e
theorem sub_snoc (p:List Step):∀{a:AV} {b:Bool} {k:Nat} {rows:List (List AV)} {d:List AV} {c:AV} {i j e:Nat},sub a p=some (.own b k rows)->rows[i]? =some d->d[j]? =some c->sub a (p++[(i,j,e)])=some c:=by
 induction p with
 |nil=>intro a b k rows d c i j e h f g;simp only[sub,Option.some.injEq]at h;subst h;simp[sub,f,g]
 |cons s p ih=>
  obtain⟨i0,j0,l⟩:=s;intro a b k rows d c i j e h f g;cases a with
  |own b0 k1 LL=>
   simp only[List.cons_append,sub]at h ⊢;cases hr:LL[i0]? with
   |none=>simp_all
   |some r0=>grind
  |agg cs=>
   simp only[List.cons_append,sub]at h ⊢;cases hc:cs[j0]? with
   |none=>simp_all
   |some c0=>grind
  |BM cs=>
   simp only[List.cons_append,sub]at h ⊢;cases hc:cs[j0]? with
   |none=>simp_all
   |some c0=>grind
  |_=>simp[sub]at h
def SkA (G:Gi) (σ σ':Sg):Ar->Prop
 | .t s=>(∀r∈GY G (.t s),Im (σ' r)=Im (σ r))/\F9 (G.HI s) (σ s)=true
 | .c _=>True
theorem fF {a e:AV} {p:List Step} (h:Im e=Im a) {b:Bool} {k:Nat} {rows:List (List AV)} (g:sub a p=some (.own b k rows)):∃d,sub e p=some (.own b k d)/\xV d=xV rows:=by have:=sub_sk p (UR h);rw[g]at this;simp only[Option.map_some,OZ]at this;obtain⟨c,i,f⟩:=Option.map_eq_some_iff.1 this;obtain⟨d,rfl,j⟩:=UQ f;simp_all
theorem sub_slS {a d:AV} {p:List Step} (h:Im d=Im a) {b:Bool} {k:Nat} {rows:List (List AV)} (g:sub a p=some (.sl b k rows)):sub d p=some (.sl b k rows):=by have:=sub_sk p (UR h);rw[g]at this;simp only[Option.map_some,OZ]at this;obtain⟨c,e,f⟩:=Option.map_eq_some_iff.1 this;rw[skC_sl f]at e;exact e
theorem gE {σ σ':Sg} {x:Ar} (h:SkA G σ σ' x) {v:Nat×List Step×Nat×Nat×Nat} (a:EL σ x=some v):EL σ' x=some v/\Im (σ' v.1)=Im (σ v.1):=by
 cases x with
 |c=>cases a
 |t s=>
  obtain⟨l,f⟩:=h;have g:=l s (by simp[GY]);simp only[EL]at a ⊢;cases hs:σ s with
  |own b k rows=>rw[hs]at a g;obtain⟨d,o,_⟩:=UQ (show OZ (σ' s)= .own b k (xV rows)from by have:=UR g;simpa[OZ]using this);grind
  |al r p=>
   rw[hs]at a g f;have e:=M8 g trivial;rw[e];simp only[KU,List.contains_iff_mem]at f;have m:=l r (by simp[GY,f]);simp only at a ⊢;split at a
   . rename_i k rows n;obtain⟨d,q,_⟩:=fF m n;grind
   . cases a
  |K2 r p i j k=>rw[hs]at a g f;have e:=M8 g trivial;rw[e];simp only[XA,List.contains_iff_mem]at f;have m:=l r (by simp[GY,f]);grind
  |_=>simp_all
theorem sk_fad {σ σ':Sg} {off:Nat} {x:Ar} (h:SkA G σ σ' x) {v:AV} (a:valOf (.VK off x) σ=some v):valOf (.VK off x) σ'=some v:=by
 cases x with
 |c=>cases a
 |t s=>
  have b:=h.1 s (by simp[GY]);simp only[valOf]at a ⊢;cases hs:σ s with
  |fp d=>rw[hs]at a b;rw[M8 b trivial];exact a
  |vb q o f=>rw[hs]at a b;rw[M8 b trivial];exact a
  |_=>
   rw[hs]at a;simp only at a;cases ha:EL σ (.t s)with
   |none=>simp_all
   |some q=>rw[ha]at a;obtain⟨i,_⟩:=gE h ha;have hn:∀d,σ' s≠ .fp d:=λd e=>(by rw[e,hs]at b;simp[Im,OZ]at b);have g:∀q o f,σ' s≠ .vb q o f:=λq o f e=>(by rw[e,hs]at b;simp[Im,OZ]at b);simp_all
theorem sk_lda {σ σ':Sg} {x:Ar} (h:SkA G σ σ' x) {v:AV} (a:valOf (.YO x) σ=some v):valOf (.YO x) σ'=some v:=by
 simp only[valOf]at a ⊢;split at a
 . rename_i r p i j k s;obtain⟨g,g2⟩:=gE h s;rw[g];simp only at g2 ⊢;split at a
   . rename_i b C rows f;obtain⟨c,l,m⟩:=fF g2 f;rw[l];simp only;split at a
     . rename_i w u
       have:=skR_at m i;rw[u]at this;obtain⟨e,n,o⟩:=Option.map_eq_some_iff.1 this;rw[n];simp only;split at a
       . rename_i z D y t
         have:=skL_at o j;rw[t]at this;simp only[Option.map_some,OZ]at this;obtain⟨c',B,q⟩:=Option.map_eq_some_iff.1 this;obtain⟨d,rfl,_⟩:=UQ q;simp_all
       . cases a
     . cases a
   . cases a
 . cases a
theorem sk_iad {σ σ':Sg} {k:Nat} {x i:Ar} (h:SkA G σ σ' x) (B:SkA G σ σ' i) {v:AV} (q:valOf (.W4 k x i) σ=some v):valOf (.W4 k x i) σ'=some v:=by
 simp only[valOf]at q ⊢;have hi:∀n,mP (ar σ i)=some n->mP (ar σ' i)=some n:=by
  intro n hn;cases i with
  |c=>exact hn
  |t s=>
   have f:=B.1 s (by simp[GY]);simp only[ar]at hn ⊢;cases hs:σ s with
   |sc u=>rw[hs]at hn f;rw[M8 f trivial];exact hn
   |_=>rw[hs]at hn;cases hn
 split at q
 . rename_i w rows r p n e hn;rw[hi n hn];have:∃d,hd σ' x=some (.own false w d,some (r,p))/\d.length=rows.length:=by
    cases x with
    |c a=>cases a<;>simp[hd]at e
    |t s=>
     have f:=h.1 s (by simp[GY]);have g:=h.2;simp only[hd]at e ⊢;cases hs:σ s with
     |own b0 k0 LL=>rw[hs]at e f;simp only[Option.some.injEq,Prod.mk.injEq,AV.own.injEq]at e;obtain⟨⟨rfl,rfl,rfl⟩,rfl,rfl⟩:=e;obtain⟨d,y,C⟩:=UQ (show OZ (σ' s)= .own false k0 (xV LL)from by have:=UR f;simpa[OZ]using this);rw[y];exact⟨d,rfl,sB C⟩
     |al r0 p0=>
      rw[hs]at e f g;rw[M8 f trivial];simp only[KU,List.contains_iff_mem]at g;have l:=h.1 r0 (by simp[GY,g]);simp only at e ⊢;split at e
      . rename_i m j;simp only[Option.some.injEq,Prod.mk.injEq]at e;obtain⟨rfl,rfl,rfl⟩:=e;obtain⟨d,z,g2⟩:=fF l j;rw[z];exact⟨d,rfl,sB g2⟩
      . cases e
     |_=>simp_all
   grind
 . rename_i b w rows o n e hn;rw[hi n hn];have:∃o',hd σ' x=some (.sl b w rows,o'):=by
    cases x with
    |c a=>cases a<;>simp[hd]at e
    |t s=>
     have f:=h.1 s (by simp[GY]);have g:=h.2;simp only[hd]at e ⊢;cases hs:σ s with
     |sl b0 k0 LL=>rw[hs]at e f;rw[M8 f trivial];simp_all
     |al r0 p0=>
      rw[hs]at e f g;rw[M8 f trivial];simp only[KU,List.contains_iff_mem]at g;have l:=h.1 r0 (by simp[GY,g]);simp only at e ⊢;split at e
      . rename_i m j;simp only[Option.some.injEq,Prod.mk.injEq]at e;obtain⟨rfl,_⟩:=e;rw[sub_slS l j];simp_all
      . cases e
     |_=>simp_all
   grind
 . cases q
def W2 (G:Gi) (o:BN):List Nat:=match o.op,o.guard,o.dst with
 | .XC a _,none,none=>(GY G a).map λs=>2*s+1
 |_,_,_=>(Ss G o).flatMap λs=>[2*s,2*s+1]
def R2 (G:Gi) (o:BN):List Nat:=W2 G o++(match o.op,o.guard,o.dst with
 | .XC _ v,none,none=>(GY G v).map λs=>2*s+1
 | .VK _ x,none,some _=>(GY G x).map λs=>2*s
 | .YO x,none,some _=>(GY G x).map λs=>2*s
 | .W4 _ x i,none,some _=>(GY G x++GY G i).map λs=>2*s
 |_,_,_=>(eV G o).map λs=>2*s+1)
theorem eH {l:List Nat} {s:Nat}:2*s+1∈(l.flatMap λs=>[2*s,2*s+1])↔s∈l:=by grind
theorem Qm {kl:List Nat} {d:Nat} {σ:Sg} (s:Nat):Js kl d σ s=if s∈kl then Dg d (σ s)else σ s:=by unfold Js;cases kl<;>simp
theorem wr_both {d:Dn} {v:AV} {σ σ' τ:Sg} (f:∀s∈d.kl,σ' s=σ s) (c:wr d v σ=some τ):∃a,wr d v σ'=some a/\(∀s∈d.d::d.kl,a s=τ s)/\∀s,s∉d.d::d.kl->a s=σ' s:=by
 unfold wr at c ⊢;split at c
 . rename_i g;obtain rfl:=Option.some.inj c;rw[if_pos g];refine⟨_,rfl,λs b=> ?_,λs b=> ?_⟩
   . by_cases e:s=d.d
     . subst e;simp[DZ]
     . have:s∈d.kl:=(by simpa[e]using b);rw[Ba _ _ e,Ba _ _ e,Qm,Qm,f s this]
   . simp only[List.mem_cons,not_or]at b;rw[Ba _ _ b.1,Qm,if_neg b.2]
 . cases c
theorem mI {σ σ' τ:Sg} {o:BN} (E:PX o=true) (Z:∀d,o.dst=some d->d.rs=G.HI d.d) (D:∀s,F9 (G.HI s) (σ s)=true) (C:∀s,2*s+1∈R2 G o->σ' s=σ s) (S:∀s,2*s∈R2 G o->Im (σ' s)=Im (σ s)) (l:K3 P G o (· =τ) σ):
 ∃b,K3 P G o (· =b) σ'/\(∀s,2*s+1∈W2 G o->b s=τ s)/\∀s,2*s+1∉W2 G o->b s=σ' s:=by
 have q:W2 G o=((Ss G o).flatMap λs=>[2*s,2*s+1])->(∀s,s∈eV G o->2*s+1∈R2 G o)->∃b,K3 P G o (· =b) σ'/\(∀s,2*s+1∈W2 G o->b s=τ s)/\∀s,2*s+1∉W2 G o->b s=σ' s:=by
  intro B J;obtain⟨b,I,g2⟩:=aJ E Z (⟨λs e=>C s (J s e),λs _=>D s⟩:Ag G (· ∈eV G o) σ σ') l;refine⟨b,I,λs e=> ?_,λs e=> ?_⟩
  . rw[B,eH]at e;exact g2.ag.eq s e
  . rw[B,eH]at e;exact(g2.off s e).1
 have f:∀d op,o=⟨some d,op,none⟩->takes op=[]->W2 G o=((Ss G o).flatMap λs=>[2*s,2*s+1])->(∀K σ,EK P G ⟨some d,op,none⟩ K σ=match(match valOf op σ with|some v=>wr d v σ|none=>none)with|some τ=>K τ|none=>False)->
  (∀v,valOf op σ=some v->valOf op σ'=some v)->∃b,K3 P G o (· =b) σ'/\(∀s,2*s+1∈W2 G o->b s=τ s)/\∀s,2*s+1∉W2 G o->b s=σ' s:=by
  intro d op L T V N Bi;have F:Ss G o=d.d::d.kl:=by subst L;simp[Ss,T]
  subst L;simp only[K3]at l ⊢;rw[N]at l;cases m:valOf op σ with
  |none=>simp_all
  |some v=>
   rw[m]at l;simp only at l;cases hwv:wr d v σ with
   |none=>simp_all
   |some υ=>
    rw[hwv]at l;simp only at l;subst l;obtain⟨b,I,g2,g3⟩:=wr_both (σ':=σ') (λs e=>C s (by simp only[R2,List.mem_append];grind)) hwv;refine⟨b,?_,λs e=> ?_,λs e=> ?_⟩
    . simp_all
    . rw[V,eH,F]at e;grind
    grind
 obtain⟨dst,op,guard⟩:=o;have n:∀x:Ar,(∀s∈GY G x,2*s∈R2 G ⟨dst,op,guard⟩)->SkA G σ σ' x:=by
  intro x W;cases x with
  |c=>trivial
  |t s=>exact⟨λr w=>S r (W r w),D s⟩
 cases guard with
 |some g=>exact q (by cases op<;>rfl) (λs e=>by cases op<;>(simp only[R2,List.mem_append,List.mem_map];grind))
 |none=>
  cases dst with
  |none=>
   cases op with
   |XC a v=>
    simp only[K3,EK]at l ⊢;have m:ar σ' v=ar σ v:=by
     cases v with
     |c=>rfl
     |t s=>exact C s (by simp[R2,GY])
    have z:∀s∈GY G a,σ' s=σ s:=λs e=>C s (by simp only[R2,W2,List.mem_append,List.mem_map];grind);have y:Ag G (· ∈GY G a) σ σ':=⟨z,λs _=>D s⟩;have O:cOK a=true:=(by simp only[PX,takes,Bool.and_eq_true,List.all_eq_true]at E;exact E.1 a (by simp));have M:Vq G (· ∈GY G a) a:=by
     cases a with
     |c c=>exact O
     |t s=>exact⟨by simp[GY],λr w=>by simp[GY,w]⟩
    split at l
    . rename_i υ h;subst l;simp only[Gn]at h ⊢;rw[m,y.EL M];split at h
      . rename_i u U;split at h
        . rename_i r p i j k Q;have w:r∈GY G a:=y.N9 M Q;rw[z r w];split at h
          . rename_i b0 k0 rows Bx;split at h
            . rename_i X D1;split at h
              . rename_i u0 R;split at h
                . rename_i t CJ;cases h;refine⟨DZ σ' r t,rfl,λs e=> ?_,λs e=> ?_⟩
                  . have H:s∈GY G a:=(by simp only[W2,List.mem_map]at e;obtain⟨x,B,J⟩:=e;have:x=s:=(by omega);exact this▸B);simp only[DZ];simp_all
                  . have H:s≠r:=(by rintro rfl;apply e;simp only[W2,List.mem_map];exact⟨s,w,rfl⟩);rw[Ba _ _ H]
                . cases h
              . cases h
            . cases h
          . cases h
        . cases h
      . cases h
    simp_all
   |_=>exact q rfl (λs e=>by simp only[R2,List.mem_append,List.mem_map];grind)
  |some d=>
   cases op with
   |VK off x=>exact f d _ rfl rfl rfl (λK σ=>rfl) (λv m=>sk_fad (n x λs e=>by simp only[R2,List.mem_append,List.mem_map];grind) m)
   |YO x=>exact f d _ rfl rfl rfl (λK σ=>rfl) (λv m=>sk_lda (n x λs e=>by simp only[R2,List.mem_append,List.mem_map];grind) m)
   |W4 k x i=>exact f d _ rfl rfl rfl (λK σ=>rfl) (λv m=>sk_iad (n x λs e=>by simp only[R2,List.mem_append,List.mem_map];grind) (n i λs e=>by simp only[R2,List.mem_append,List.mem_map];grind) m)
   |_=>exact q rfl (λs e=>by simp only[R2,List.mem_append,List.mem_map];grind)
theorem XS {σ τ:Sg} {o:BN} (q:PX o=true) (M:∀d,o.dst=some d->d.rs=G.HI d.d) (z:∀s,F9 (G.HI s) (σ s)=true) (m:K3 P G o (· =τ) σ):
 (∀s,2*s+1∉W2 G o->τ s=σ s)/\(∀s,2*s∉W2 G o->Im (τ s)=Im (σ s))/\∀s,F9 (G.HI s) (τ s)=true:=by
 have C:=aop_off q M z m;have f:W2 G o=((Ss G o).flatMap λs=>[2*s,2*s+1])->(∀s,2*s+1∉W2 G o->τ s=σ s)/\(∀s,2*s∉W2 G o->Im (τ s)=Im (σ s))/\∀s,F9 (G.HI s) (τ s)=true:=by
  intro l;refine⟨λs y=> ?_,λs y=> ?_,C.2⟩
  . grind
  . grind
 obtain⟨dst,op,guard⟩:=o;cases guard with
 |some g=>exact f (by cases op<;>rfl)
 |none=>
  cases dst with
  |some d=>exact f (by cases op<;>rfl)
  |none=>
   cases op with
   |XC a v=>
    simp only[K3,EK]at m;split at m
    . rename_i R b;subst m;simp only[Gn]at b;split at b
      . rename_i u J;split at b
        . rename_i r p i j k I;have H:cOK a=true:=(by simp only[PX,takes,Bool.and_eq_true,List.all_eq_true]at q;exact q.1 a (by simp));have n:Ag G (· ∈GY G a) σ σ:=⟨λ_ _=>rfl,λs _=>z s⟩;have L:Vq G (· ∈GY G a) a:=by
           cases a with
           |c c=>exact H
           |t s=>exact⟨by simp[GY],λr D=>by simp[GY,D]⟩
          have D:r∈GY G a:=n.N9 L I;split at b
          . rename_i N O rows h;split at b
            . rename_i K F;split at b
              . rename_i Q w;split at b
                . rename_i t E;cases b;refine⟨λs y=> ?_,λs _=> ?_,C.2⟩
                  . rw[Ba];rintro rfl;apply y;simp only[W2,List.mem_map];grind
                  . by_cases e:s=r
                    . subst e;rw[BI];have l:=put_sk _ (sub_snoc p h F w) E;have B:∀u,σ s≠ .sc u:=λu e=>by
                       rw[e]at h;cases p with
                       |nil=>simp[sub]at h
                       |cons=>simp[sub]at h
                      have x:∀u,t≠ .sc u:=λu e=>by subst e;cases hσ:σ s<;>rw[hσ]at l h<;>first|exact absurd hσ (B _)| (cases p<;>simp[sub]at h;done)| (simp[OZ]at l;done)
                      cases hσ:σ s<;>first|exact absurd hσ (B _)| (rw[hσ]at l;cases t<;>first|exact absurd rfl (x _)|exact l)
                    . rw[Ba _ _ e]
                . cases b
              . cases b
            . cases b
          . cases b
        . cases b
      . cases b
    simp_all
   |_=>exact f rfl
def Lw (G:Gi) (ops:List Oper) (Dj:List BN):Bool:=
 Dj.all PX&&W7 (Vw ops []) (Dj.map λo=>yZ (W2 G o)) (Dj.map λo=>yZ (R2 G o)) 0 ops
def G7 (G:Gi) (Dj:List BN) (j:Nat):List Nat:=match Dj[j]? with|some o=>W2 G o|none=>[]
def WH (G:Gi) (Dj:List BN) (j:Nat):List Nat:=match Dj[j]? with|some o=>R2 G o|none=>[]
end Go.Abs
namespace Go.Abs
variable {G:Gi} {P:Program} {w:World}
theorem TG {n:Nat} {w0:World} {S0 U0:Nat->Prop} {ops:Array Oper} {K:Sg->Prop} (Q:Exit->Act->World->Prop) {f:List BN} {a:Act} {w:World} {σ:Sg}
 (h:Rel G n w0 S0 U0 a w σ) (hN:f.length=ops.size) (B:∀(i:Nat) (o:Oper) (io:BN),ops.toList[i]? =some o->f[i]? =some io->∀d:Dn,io.dst=some d->d.rs=G.HI d.d) (hd:Lw G ops.toList f=true)
 (q:Nat->Sg) (hq0:q 0=σ) (HK:∀i io,f[i]? =some io->K3 P G io (· =q (i+1)) (q i)) (hK:K (q f.length)) (J:(Nat->Bool)->Act->World->Prop) (hQ:∀(L:Nat->Bool) a w σ,(∀j,j<ops.size->L j=true)->J L a w->Rel G n w0 S0 U0 a w σ->K σ->Q .normal a w) (hJ0:J (λj=>(Array.replicate ops.size false).getD j true) a w)
 (hS:∀(L:Nat->Bool) (i:Nat) o io a w σ F,ops[i]? =some o->f[i]? =some io->i<ops.size->L i=false->(∀x,((Vw ops.toList []).getD i 0).testBit x=true->L x=true)->(∀j,j<ops.size->L j=true->∀x,((Vw ops.toList []).getD j 0).testBit x=true->L x=true)->
  J L a w->Rel G n w0 S0 U0 a w σ->K3 P G io (· =F) σ->(∀s,F s=q (Fe (λj=>(L j||j==i)) (G7 G f) (2*s+1) ops.size) s)->wpOp P ops Q i (λa' w'=>(∃σ',Rel G n w0 S0 U0 a' w' σ'/\σ'=F)/\J (λj=>(L j||j==i)) a' w') a w):
 wpAny P .any ops Q ops.size (Array.replicate ops.size false) a w:=by
 simp only[Lw,AAi,AAm]at hd;obtain⟨GM,Ke⟩:=hd;generalize hM:Vw ops.toList []=M at Ke hS;have VU:=eO _ Ke;simp only[ABr]at VU;have O:∀i,i<ops.size->∃o io,ops[i]? =some o/\ops.toList[i]? =some o/\f[i]? =some io:=by intro i hi;refine⟨ops[i],f[i]'(by omega),?_,?_,?_⟩<;>simp[hi,hN]
 -- the states of the text's order
 have hwf:∀i,i≤ops.size->∀s,F9 (G.HI s) (q i s)=true:=by
  intro i;induction i with
  |zero=>intro _ s;rw[hq0];obtain⟨S,δ,Fr,_,_,_,rfl,CJ,_⟩:=h;exact CJ.rt s
  |succ i ih=>intro hi;obtain⟨o,io,t,u,k⟩:=O i (by omega);exact(XS (GM io (AAu k)) (B i o io u k) (ih (by omega)) (HK i io k)).2.2
 have hofff:∀j s,j<ops.size->2*s+1∉G7 G f j->q (j+1) s=q j s:=by intro j s l r;obtain⟨o,io,t,u,k⟩:=O j l;exact(XS (GM io (AAu k)) (B j o io u k) (hwf j (by omega)) (HK j io k)).1 s (by simpa[G7,k]using r)
 have z:∀j s,j<ops.size->2*s∉G7 G f j->Im (q (j+1) s)=Im (q j s):=by intro j s l r;obtain⟨o,io,t,u,k⟩:=O j l;exact(XS (GM io (AAu k)) (B j o io u k) (hwf j (by omega)) (HK j io k)).2.1 s (by simpa[G7,k]using r)
 -- the states with their skeletons beside them
 let Q2:Nat->Sg:=λj x=>if x%2=1 then q j (x/2)else Im (q j (x/2))
 have aG:∀j s,Q2 j (2*s+1)=q j s:=λj s=>by
  show(if(2*s+1)%2=1 then q j ((2*s+1)/2)else Im (q j ((2*s+1)/2)))=q j s
  rw[AAs (by omega),show(2*s+1)/2=s from by omega]
 have dC:∀j s,Q2 j (2*s)=Im (q j s):=λj s=>by
  show(if(2*s)%2=1 then q j ((2*s)/2)else Im (q j ((2*s)/2)))=Im (q j s)
  simp_all
 have TV:∀j x,j<ops.size->x∉G7 G f j->Q2 (j+1) x=Q2 j x:=by
  intro j x l H;obtain⟨s,rfl|rfl⟩:∃s,x=2*s∨x=2*s+1:=⟨x/2,by omega⟩
  . rw[dC,dC];exact z j s l H
  . rw[aG,aG];exact hofff j s l H
 have hWs:∀j,j<ops.size->(f.map λo=>yZ (W2 G o)).getD j 0=yZ (G7 G f j):=by intro j l;obtain⟨o,io,t,u,k⟩:=O j l;simp[List.getD_eq_getElem?_getD,G7,k]
 have hRs:∀j,j<ops.size->(f.map λo=>yZ (R2 G o)).getD j 0=yZ (WH G f j):=by intro j l;obtain⟨o,io,t,u,k⟩:=O j l;simp[List.getD_eq_getElem?_getD,WH,k]
 have hWR:∀j s,s∈G7 G f j->s∈WH G f j:=by
  intro j s r;cases k:f[j]? with
  |none=>simp[G7,k]at r
  |some io=>simp only[G7,WH,k]at r ⊢;simp only[R2,AAz];grind
 have U:∀j s,2*s∈G7 G f j->2*s+1∈G7 G f j:=by
  intro j s r;cases k:f[j]? with
  |none=>simp[G7,k]at r
  |some io=>simp only[G7,k]at r ⊢;unfold W2 at r ⊢;grind
 -- pairs that meet are ordered
 have y:∀i j s,i<j->j<ops.size->(s∈G7 G f i/\s∈WH G f j)∨(s∈WH G f i/\s∈G7 G f j)->(M.getD j 0).testBit i=true:=by
  intro i j s JN l r;obtain⟨o,io,t,u,k⟩:=O j l;rcases(VU j o u).2.2 i JN with⟨g1,g2⟩|g
  . rw[hWs i (by omega),hRs j l]at g1;rw[hRs i (by omega),hWs j l]at g2;rcases r with r|r
    . exact(bX g1 r.1 r.2).elim
    . exact(bX g2 r.1 r.2).elim
  . exact g
 -- any order
 have main:∀(fuel:Nat) (b:Array Bool) (a:Act) (w:World),b.size=ops.size->(List.range ops.size).countP (λi=> !b.getD i true)≤fuel->
  (∀j,j<ops.size->b.getD j true=true->∀i,(M.getD j 0).testBit i=true->b.getD i true=true)->
  (∃σ,Rel G n w0 S0 U0 a w σ/\∀s,σ s=q (Fe (λj=>b.getD j true) (G7 G f) (2*s+1) ops.size) s)->J (λj=>b.getD j true) a w->wpAny P .any ops Q fuel b a w:=by
  have done:∀(b:Array Bool) (a:Act) (w:World),(∀j,j<ops.size->b.getD j true=true)->J (λj=>b.getD j true) a w->(∃σ,Rel G n w0 S0 U0 a w σ/\∀s,σ s=q (Fe (λj=>b.getD j true) (G7 G f) (2*s+1) ops.size) s)->Q .normal a w:=by
   rintro b a w W hJ ⟨σ,t,u⟩;have:σ=q ops.size:=by
    funext s;rw[u s]
    have:=wK W TV (2*s+1) _ (AA8 _);rw[aG,aG]at this;exact this
   subst this;exact hQ _ a w _ W hJ t (by rw[← hN];exact hK)
  intro fuel;induction fuel with
  |zero=>
   intro b a w Pn hcnt Mn CJ hJ;have W:∀j,j<ops.size->b.getD j true=true:=by
    intro j l;have X:(List.range ops.size).countP (λi=> !b.getD i true)=0:=(by omega);rw[List.countP_eq_zero]at X
    have:=X j (by simp[l]);simpa using this
   refine⟨?_,done b a w W hJ CJ⟩;simp only[Region.ready,List.filter_eq_nil_iff,List.mem_range];intro j l;simp[W j l]
  |succ fuel ih=>
   intro b a w Pn hcnt Mn CJ hJ;refine⟨λhnil=> ?_,λi hi=> ?_⟩
   . refine done b a w ?_ hJ CJ;intro j;induction j using Nat.strongRecOn with
     |_ j ihj=>
      intro l;cases v:b.getD j true with
      |true=>rfl
      |false=>
       exfalso;obtain⟨o,io,t,u,k⟩:=O j l;have:j∈Region.ready .any ops b:=by
        simp only[Region.ready,List.mem_filter,List.mem_range];refine⟨l,?_⟩;simp only[v,Bool.not_false,ABD,t,AA9,Option.getD_some,Array.all_eq_true'];intro e he;cases hb:Region.binds .any e with
        |false=>rfl
        |true=>have D4:=(VU j o u).2.1 e (by simpa using he) hb;have hl':=ihj e.on D4 (by omega);have r:e.on<b.size:=(by omega);simp only[AA4,Array.getElem?_eq_getElem r,Option.getD_some]at hl' ⊢;simp[hl']
       rw[hnil]at this;cases this
   . simp only[Region.ready,List.mem_filter,List.mem_range,AAi,ABR]at hi;obtain⟨C,N,Sv⟩:=hi;obtain⟨o,io,t,u,k⟩:=O i C;simp only[t,AA9,Option.getD_some,Array.all_eq_true',ABE,ABR]at Sv;obtain⟨hsp1,hsp2,_⟩:=VU i o u;obtain⟨σ,IX,hσ⟩:=CJ
     -- all that is ahead of i is listed
     have Km:∀x,(M.getD i 0).testBit x=true->b.getD x true=true:=by
      intro x H;rw[hsp1]at H;obtain⟨e,he,hb,hor⟩:=bef_bit H;have D4:=hsp2 e he hb;have hle:b.getD e.on true=true:=(by have:=(Sv e (by simpa using he)).resolve_left (by simp[hb]);have r:e.on<b.size:=(by omega);simp only[AA4,Array.getElem?_eq_getElem r,Option.getD_some]at this ⊢;exact this);rcases hor with rfl|hor
      . exact hle
      . exact Mn e.on (by omega) hle x hor
     have I:∀j,(b.setIfInBounds i true).getD j true=(b.getD j true||j==i):=by
      intro j;simp only[AA4,ABh];by_cases e:i=j
      . subst e;simp;split<;>simp
      . have e':¬j=i:=λx=>e x.symm;simp[e,e']
     have Zk:∀j s,j<i->s∈G7 G f j->s∈WH G f i->b.getD j true=true:=λj s l r HH=>Km j (y j i s l C (.inl ⟨r,HH⟩));have Nn:∀j s,i<j->j<ops.size->s∈G7 G f j->s∈WH G f i->b.getD j true=true->b.getD i true=true:=λj s l D r HH v=>Mn j D v i (y i j s l D (.inr ⟨HH,r⟩));have hA:∀x,x∈WH G f i->Q2 (Fe (λj=>b.getD j true) (G7 G f) x ops.size) x=Q2 i x:=λx H=>
      lastW_at (L:=λj=>b.getD j true) (R:=WH G f) N C TV Zk Nn H
     have hf:∀s,2*s+1∈R2 G io->σ s=q i s:=λs r=>by
      rw[hσ s]
      have:=hA (2*s+1) (by simpa[WH,k]using r);rw[aG,aG]at this;exact this
     -- writers of one slot are ordered
     have hord:∀j m s,j<m->m<ops.size->2*s+1∈G7 G f j->2*s+1∈G7 G f m->b.getD m true=true->b.getD j true=true:=
      λj m s hjm hm t u v=>Mn m hm v j (y j m (2*s+1) hjm hm (.inl ⟨t,hWR m _ u⟩))
     have W:∀s m,m≤ops.size->(∀j,j<m->2*s∈G7 G f j->b.getD j true=true)->Im (q (Fe (λj=>b.getD j true) (G7 G f) (2*s) m) s)=Im (q m s):=by
      intro s m;induction m with
      |zero=>intro _ _;rfl
      |succ m ihm=>
       intro hm v;simp only[Fe];by_cases h:2*s∈G7 G f m
       . rw[AAs ⟨v m (by omega) h,h⟩]
       . rw[AAp (λx=>h x.2),ihm (by omega) (λj l=>v j (by omega)),z m s (by omega) h]
     have Z:∀s m,m≤ops.size->Im (q (Fe (λj=>b.getD j true) (G7 G f) (2*s+1) m) s)=Im (q (Fe (λj=>b.getD j true) (G7 G f) (2*s) m) s):=by
      intro s m;induction m with
      |zero=>intro _;rfl
      |succ m ihm=>
       intro hm;simp only[Fe];by_cases E:b.getD m true=true
       . by_cases X:2*s∈G7 G f m
         . rw[AAs ⟨E,U m s X⟩,AAs ⟨E,X⟩]
         . rw[AAp (c:=_/\2*s∈_) (λx=>X x.2)];by_cases t:2*s+1∈G7 G f m
           . rw[AAs ⟨E,t⟩,z m s (by omega) X];exact(W s m (by omega) λj l hw=>hord j m s l (by omega) (U j s hw) t E).symm
           . rw[AAp (λx=>t x.2)];exact ihm (by omega)
       . rw[AAp (λx=>E x.1),AAp (λx=>E x.1)];exact ihm (by omega)
     have hk:∀s,2*s∈R2 G io->Im (σ s)=Im (q i s):=λs r=>by
      rw[hσ s,Z s _ (AA8 _)]
      have:=hA (2*s) (by simpa[WH,k]using r);rw[dC,dC]at this;exact this
     obtain⟨F,hτ,hmv1,hmv2⟩:=mI (GM io (AAu k)) (B i o io u k) (hwf i (by omega)) hf hk (HK i io k);have T:(λj=>(b.setIfInBounds i true).getD j true)=λj=>(b.getD j true||j==i):=funext I;have V:∀s,F s=q (Fe (λj=>(b.getD j true||j==i)) (G7 G f) (2*s+1) ops.size) s:=by
      intro s;by_cases r:2*s+1∈G7 G f i
      . rw[lastW_in (L:=λj=>b.getD j true) C (λj=>rfl) N (λj s l D t u k=>Nn j s l D t (hWR i s u) k) r];exact hmv1 s (by simpa[G7,k]using r)
      . rw[wM (L:=λj=>b.getD j true) (i:=i) (λj=>rfl) r,← hσ s];exact hmv2 s (by simpa[G7,k]using r)
     refine wpOp_mono ?_ (hS (λj=>b.getD j true) i o io a w σ F t k C N Km Mn hJ IX hτ V)
     . rintro a' w' ⟨⟨σ2,bG,rfl⟩,hJ'⟩;refine ih _ a' w' (by simp[Pn]) ?_ ?_ ⟨σ2,bG,?_⟩ (by rw[T];exact hJ')
       . have:=uL (p:=λi=> !b.getD i true) (p':=λj=> !(b.setIfInBounds i true).getD j true) (λj l=>by simp only[I]at l;simp at l ⊢;exact l.1) (i:=i) (by simp[N]) (by simp[I]) ops.size C;omega
       . intro j D v x H;rw[I]at v ⊢;simp only[ABE,AAw]at v ⊢;rcases v with v|rfl
         . exact .inl (Mn j D v x H)
         . exact .inl (Km x H)
       . intro s;rw[T];exact V s
 refine main ops.size _ a w (by simp) (by exact ABc (List.countP_le_length) (by simp)) ?_ ⟨σ,h,λs=> ?_⟩ hJ0
 . intro j l v;simp[AA4,l]at v
 . have:∀m,m≤ops.size->Fe (λj=>(Array.replicate ops.size false).getD j true) (G7 G f) (2*s+1) m=0:=by
    intro m;induction m with
    |zero=>intro _;rfl
    |succ m ih=>intro hm;simp only[Fe];rw[AAp,ih (by omega)];rintro⟨t,_⟩;have Qi:m<ops.size:=(by omega);simp[AA4,Qi]at t
   rw[this _ (AA8 _),hq0]
theorem VV {L:Nat->Bool} {W:Nat->List Nat} {x b:Nat}:∀m,(∀j,j<m->L j=true->j<b)->Fe L W x m≤b
 |0,_=>Nat.zero_le _
 |m+1,h=>by
  simp only[Fe];split
  . grind
  . exact VV m λj a=>h j (by omega)
theorem UG {n:Nat} {k:World} {i j:Nat->Prop} {a:Act} {τ:Sg} {S:Nat->Prop} {δ:Nat->DV} {Fr:Nat->Nat->Prop} {o:Oper} {d:Dn} {D:DV} (hn:a.tmps.size=n) (q:a.defers=[]) (F:Rd δ a) (g:St G w S δ Fr) (r:Nx k i j w S (BE Fr)) (l:∀b,S b->b<w.heap.size)
 (hd:JL G a o (some d)) (E:Ok w S D (λ_=>False)) (u:Dd δ D) (z:wr d D.er (λs=>(δ s).er)=some τ):Rel G n k i j (a.put o.dst D.A0) w τ:=by
 obtain⟨c,g2,B,C⟩:=hd;obtain⟨f,t,y,v,p,m⟩:=g.wr (D:=D) (Ff:=λ_=>False) g2 B (λ_ _=>rfl) (λ_ _ _=>rfl) (λ_ h=>h) (λs x e=>(g.ok s).E7 x e) E (λ_ _ _ h=>h) u z;refine⟨S,f,t,?_,?_,?_,v,y,r.trans (Nx.less λx e=>(m x e).elim id False.elim),l⟩
 . rw[c];simpa[Act.put]using hn
 . rw[c];simpa[Act.put]using q
 . intro s;rw[c,I1 a d.d D.A0 C s,p s];split
   . rfl
   . exact F s
def aW:ZR->Bool
 | .cp _| .VK .. | .ld .. | .YO _| .W4 .. | .mkf .. =>true
 |_=>false
def Xd (P:Program) (G:Gi) (n:Nat) (f:yN) (ops:Array Oper) (M:List Nat) (i:Nat) (o:Oper) (io:BN):Bool:=
 Dz G n o.dst io.dst&&o.guard.isNone&&io.guard.isNone&&
 (if i=f.i0 then(match io.op,io.dst with| .fl,some d=>d.d==f.d0|_,_=>false)&&(match o.op with
  | .fieldAddr t (.tmp s) fi=>s==f.r&&(match P.underlying t with
   |some (.struct fs)=>match fs[fi]? with
    |some fd=>fd.offset==f.off&&(match Gv P fd.type with|some m=>m != 0|none=>false)
    |none=>false
   |_=>false)
  |_=>false)
  else if i=f.i1 then(match io.op,io.dst with| .fl,some d=>d.d==f.d1|_,_=>false)&&(match o.op with
   | .load t (.tmp s)=>s==f.d0&&Gv P t==some 1&&Jb P t==some false
   |_=>false)&&(M.getD i 0).testBit f.i0
  else(match io.dst with|some d=>d.d != f.r&&d.d != f.d0&&d.d != f.d1|none=>true)&&
   (if i=f.i2 then(match io.op,o.op,io.dst with
    | .jM r off kb k j,.indexAddr t (.tmp s) x,some _=>r==f.r&&off==f.off&&kb==f.kb&&s==f.d1&&(match P.underlying t with|some (.slice e)=>Gv P e==some k|_=>false)&&CM x j
    |_,_,_=>false)&&(M.getD i 0).testBit f.i1&&(M.getD i 0).testBit f.i0
   else HN P G n ops o io&&(if i<f.i2 then aW io.op||(match io.op with| .call _ _ 4=>true|_=>false)else(M.getD i 0).testBit f.i2)))
def nK (P:Program) (G:Gi) (n:Nat) (f:yN) (ops:Array Oper) (Dj:List BN):Bool:=
 decide (Dj.length=ops.size)&&decide (f.d0≠f.r)&&decide (f.d1≠f.r)&&decide (f.d0≠f.d1)&&decide (f.i0≠f.i1)&&decide (f.i0<f.i2)&&decide (f.i1<f.i2)&&decide (f.i2<ops.size)&&Lw G ops.toList Dj&&
 (List.range ops.size).all λi=>match ops[i]?,Dj[i]? with
  |some o,some io=>Xd P G n f ops (Vw ops.toList []) i o io
  |_,_=>false
theorem QW {ops:Array Oper} {Q:Exit->Act->World->Prop} {i:Nat} {o:Oper} {a:Act} {u:Value} {K:Act->World->Prop} (hi:ops[i]? =some o) (c:o.guard=none) (b:(execOp a.eval o).run P w= .ok (.value u) w) (h:K (a.put o.dst u) w):wpOp P ops Q i K a w:=by unfold wpOp;rw[hi];simp only[Region.wanted,c,AA5];refine .inl ?_;unfold Oper.wp;rw[b];exact h
theorem lL {ops:Array Oper} {Q:Exit->Act->World->Prop} {i:Nat} {o:Oper} {a:Act} {u:Value} {K J:Act->World->Prop} (hi:ops[i]? =some o) (e:o.guard=none) (c:(execOp a.eval o).run P w= .ok (.value u) w) (d:J (a.put o.dst u) w) (h:wpOp P ops Q i K a w):wpOp P ops Q i (λb w'=>K b w'/\J b w') a w:=by unfold wpOp at h ⊢;rw[hi]at h ⊢;simp only[Region.wanted,e,AA5]at h ⊢;refine h.imp (λh=> ?_) id;unfold Oper.wp at h ⊢;rw[c]at h ⊢;exact⟨h,d⟩
theorem fl_run {n:Nat} {J:World} {z B:Nat->Prop} {a:Act} {σ:Sg} (h:Rel G n J z B a w σ) {o:Oper} {io:BN} (b:Jn P o.op io.op=true) (s:aW io.op=true) {v:AV} (d:valOf io.op σ=some v):∃u,(execOp a.eval o).run P w= .ok (.value u) w:=by
 obtain⟨S,δ,Fr,hn,L,l,rfl,i,M,K⟩:=h;have E:Gives P w S δ a o v->∃u,(execOp a.eval o).run P w= .ok (.value u) w:=λ⟨u,h,_⟩=>⟨u,h⟩;apply E;obtain⟨dst,I,g⟩:=io;simp only at b s d;cases I with
 |cp y=>cases ho:o.op<;>rw[ho]at b<;>first| (simp[Jn]at b;done)|exact TO i l (.inl ho) b d|exact TO i l (.inr ho) b d
 |VK off y=>
  cases ho:o.op<;>rw[ho]at b<;>first| (simp[Jn]at b;done)|skip
  rename_i t x Q;simp only[Jn,AAi]at b;obtain⟨c,p⟩:=b;split at c
  . rename_i R r;split at c
    . rename_i O q;simp only[AAi,AAw]at c;obtain⟨D,g2⟩:=c;split at g2
      . rename_i m H;simp only[bne_iff_ne]at g2;exact bB i l ho r q D H g2 p d
      . cases g2
    . cases c
  . cases c
 |ld gg m y=>
  cases ho:o.op<;>rw[ho]at b<;>first| (simp[Jn]at b;done)|skip
  simp only[Jn,AAi,ABE,AAw]at b;exact TP i l ho b.1.1.1 b.1.1.2 b.1.2 b.2 d
 |YO y=>
  cases ho:o.op<;>rw[ho]at b<;>first| (simp[Jn]at b;done)|skip
  simp only[Jn,AAi,AAw]at b;exact TP i l ho b.1.1 b.1.2 (.inr rfl) b.2 (lda_ld d)
 |W4 k y j=>
  cases ho:o.op<;>rw[ho]at b<;>first| (simp[Jn]at b;done)|skip
  simp only[Jn,AAi]at b;obtain⟨⟨c,p⟩,F⟩:=b;split at c
  . rename_i e r;exact bC i l ho r (Uu c) p F d
  . cases c
 |mkf f ys=>
  cases ho:o.op<;>rw[ho]at b<;>first| (simp[Jn]at b;done)|skip
  rename_i C first N
  cases C with
  |func f'=>simp only[Jn,AAi,AAw]at b;obtain⟨⟨rfl,c⟩,p⟩:=b;exact bD i l ho (by simp_all) p d
  |_=>simp[Jn]at b
 |_=>cases s
theorem iR {n:Nat} {j:World} {c d:Nat->Prop} (t:ZX j c d) {ops:Array Oper} {K:Sg->Prop} (Q:Exit->Act->World->Prop) (v:∀a w σ,Rel G n j c d a w σ->K σ->Q .normal a w) {b:List BN} {a:Act} {w:World} {σ:Sg}
 (h:Rel G n j c d a w σ) (x:Lx P G n ops ops.toList b=true) (hd:Lw G ops.toList b=true) (y:OA P G b K σ):wpAny P .any ops Q ops.size (Array.replicate ops.size false) a w:=by
 obtain⟨m,l⟩:=uH _ x;obtain⟨q,g,r,u⟩:=Rm b y;refine TG Q h (by simp_all) (λi o io e f=>Xe (l i o io e f)) hd q g r u (λ_ _ _=>True) (λ_ a w σ _ _ h k=>v a w σ h k) trivial ?_;intro L i o io a w σ z e f _ _ _ _ _ s p _;exact wpOp_mono (λB w' h=>⟨h,trivial⟩) (Is t s (l i o io (by simp_all) f) p Q e)
end Go.Abs
namespace Go.Abs
variable {G:Gi} {P:Program} {w:World}
def FJ (f:yN) (b:Nat) (h:Value) (L:Nat->Bool) (a:Act) (w:World):Prop:=
 L f.i2=false->a.tmps.getD f.r undef= .pointer (some ⟨b,0,none⟩)/\w.cell? ⟨b,f.off,none⟩=some h/\(L f.i0=true->a.tmps.getD f.d0 undef= .pointer (some ⟨b,f.off,none⟩))/\(L f.i1=true->a.tmps.getD f.d1 undef=h)
theorem jR {kb off:Nat} {x:AV} (h:eE kb off x=true):∃a,x= .own true kb [a]/\off<a.length:=by
 unfold eE at h;split at h
 . rename_i k a;simp only[AAi,AAw,AA1]at h;exact⟨a,by rw[h.1],h.2⟩
 . cases h
theorem AAd {S:Nat->Prop} {δ:Nat->DV} {Fr:Nat->Nat->Prop} (h:St G w S δ Fr) {r kb:Nat} {f:List AV} (a:(δ r).er= .own true kb [f]):∃b e,δ r= .own (.pointer (some ⟨b,0,none⟩)) true kb [e]/\e.map DV.er=f/\
 (∀(j:Nat) d,e[j]? =some d->w.cell? ⟨b,j,none⟩=some d.A0/\∃F,Ok w S d F):=by
 have g:=h.ok r;cases hδ:δ r with
 |lf x v=>rw[hδ]at a g;simp at a;subst a;cases g with|lf _ _ _ hl _=>simp[IA]at hl
 |agg=>rw[hδ]at a;simp at a
 |BM=>rw[hδ]at a;simp at a
 |own hh bx k0 Ao=>
  rw[hδ]at a g;simp only[Et,AV.own.injEq]at a;obtain⟨rfl,rfl,k⟩:=a;obtain⟨e,rfl,l⟩:=ABn.1 k;cases g with
  |own _ _ _ b c arr E Fs _ hb hk D6 Lk hv hrr hd Bi KW hF=>
   refine⟨b,e,by simp[Jp],l,λj d i=>⟨?_,Fs 0 j,hrr 0 j e d rfl i⟩⟩
   have:=hv 0 j e d rfl i;simp only[Nat.zero_mul,ABr]at this;simp[World.cell?,hb,this]
theorem uW {n:Nat} {w0:World} {S0 U0:Nat->Prop} (hG:ZX w0 S0 U0) {ops:Array Oper} {K:Sg->Prop} (Q:Exit->Act->World->Prop) (hQ:∀a w σ,Rel G n w0 S0 U0 a w σ->K σ->Q .normal a w) {Dj:List BN} {a:Act} {w:World} {σ:Sg} {f:yN}
 (h:Rel G n w0 S0 U0 a w σ) (hc:nK P G n f ops Dj=true) (q:Nat->Sg) (hq0:q 0=σ) (HK:∀i io,Dj[i]? =some io->K3 P G io (· =q (i+1)) (q i)) (hK:K (q Dj.length)) (hbx:∀m,m≤f.i2->eE f.kb f.off (q m f.r)=true):
 wpAny P .any ops Q ops.size (Array.replicate ops.size false) a w:=by
 simp only[nK,AAi,AA1,AAm]at hc;obtain⟨⟨⟨⟨⟨⟨⟨⟨⟨hN,n1⟩,n2⟩,n3⟩,n4⟩,n5⟩,n6⟩,n7⟩,iX⟩,Ie⟩:=hc;have FU:∀i o io,ops[i]? =some o->Dj[i]? =some io->Xd P G n f ops (Vw ops.toList []) i o io=true:=by
  intro i o io J h2;have hi:i<ops.size:=(ABN.1 J).1
  have:=Ie i (by simpa using hi);rw[J,h2]at this;exact this
 -- the beginning
 obtain⟨M,hL,hJ0⟩:∃M hL,FJ f M hL (λj=>(Array.replicate ops.size false).getD j true) a w:=by
  obtain⟨S,δ,Fr,hn,EO,ha,rfl,CJ,Eu,C8⟩:=h;obtain⟨X,hr,Z⟩:=jR (hbx 0 (Nat.zero_le _));rw[hq0]at hr;obtain⟨b,I3,J,h2,h3⟩:=AAd CJ hr;have hl:f.off<I3.length:=by rw[← h2]at Z;simpa using Z
  refine⟨b,(I3[f.off]).A0,λ_=>⟨?_,(h3 f.off _ (AAo hl)).1,?_,?_⟩⟩
  . rw[ha f.r,J];simp
  . intro y;simp[AA4,show f.i0<ops.size by omega]at y
  . intro y;simp[AA4,show f.i1<ops.size by omega]at y
 refine TG Q h hN ?_ iX q hq0 HK hK (FJ f M hL) (λ_ a w σ _ _ h k=>hQ a w σ h k) hJ0 ?_
 . intro i o io J h2 d hd
   have:=FU i o io (by simpa using J) h2;simp only[Xd,AAi]at this;have h3:=this.1.1.1;rw[hd]at h3;cases ho:o.dst with
   |none=>rw[ho]at h3;simp[Dz]at h3
   |some t=>rw[ho]at h3;simp only[Dz,AAi,AAw]at h3;exact h3.1.2
 . intro L i o io a w σ I J h2 hiN hLi Km Mn hJ IX l hτs;have B:=FU i o io J h2;simp only[Xd,AAi,ABX]at B;obtain⟨⟨⟨K9,oM⟩,Nl⟩,B⟩:=B;obtain⟨dst,rN,g⟩:=io;simp only at Nl;subst Nl;simp only at K9 B;by_cases e0:i=f.i0
   . -- the address
     subst e0;rw[AAs rfl]at B;simp only[AAi]at B;obtain⟨H,C⟩:=B;split at H
     . rename_i d;simp only[AAw]at H;split at C
       . rename_i t s fi ho;simp only[AAi,AAw]at C;obtain⟨rfl,C⟩:=C;split at C
         . rename_i fs hu;split at C
           . rename_i fd hff;simp only[AAi,AAw]at C;obtain⟨g1,g2⟩:=C;split at g2
             . rename_i m hm;simp only[bne_iff_ne]at g2;obtain⟨S,δ,Fr,hn,EO,ha,rfl,CJ,Eu,C8⟩:=IX;have hd:=Ee (a:=a) K9 hn;have U:∀u s,(a.put o.dst u).tmps.getD s undef=if s=d.d then u else a.tmps.getD s undef:=λu s=>by rw[hd.1,I1 a d.d u hd.2.2.2 s]
               have Mo:wr d (DV.lf .dead (.pointer (some ⟨M,f.off,none⟩))).er (λs=>(δ s).er)=some I:=by
                simp only[K3,EK,Gn,valOf]at l;split at l
                . rename_i υ p;rw[Ei,p,l]
                . exact l.elim
               by_cases R:L f.i2=true
               . exact absurd (Mn f.i2 n7 R f.i0 (by
                  obtain⟨W,z,q1,q2⟩:∃W z,ops[f.i2]? =some W/\Dj[f.i2]? =some z:=⟨ops[f.i2],Dj[f.i2]'(by omega),by simp[n7],by simp[hN,n7]⟩
                  have:=FU f.i2 W z q1 q2;simp only[Xd,AAi]at this;rw[AAp (by omega),AAp (by omega)]at this;simp only[AA5,AAi]at this;exact this.2.2.2)) (by rw[hLi];decide)
               . have N:L f.i2=false:=(by simpa using R);obtain⟨j1,j2,j3,j4⟩:=hJ N;refine QW (u:=.pointer (some ⟨M,f.off,none⟩)) J oM ?_ ⟨⟨I,UG (D:=.lf .dead (.pointer (some ⟨M,f.off,none⟩))) hn EO ha CJ Eu C8 hd (.lf _ _ _ trivial (λ_ h=>h)) (Dd.dead _) Mo,rfl⟩,λy=> ?_⟩
                 . have he:a.eval (.tmp f.r)= .pointer (some ⟨M,0,none⟩):=(by simpa[Act.eval]using j1);simp only[execOp,ho,he,Sem.run_bind,M6 hu hff hm g2,Result.andThen_ok,Sem.run_pure,g1,ABr]
                 . simp only[Kh];refine⟨by rw[U,AAp (by rw[H];exact Ne.symm n1)];exact j1,j2,λ_=>by rw[U,AAs H.symm],λhx1=> ?_⟩;rw[U,AAp (by rw[H];exact Ne.symm n3)];exact j4 (by simpa[Ne.symm n4]using hx1)
             . cases g2
           . cases C
         . cases C
       . cases C
     . cases H
   rw[AAp e0]at B;by_cases e1:i=f.i1
   . -- the load
     subst e1;rw[AAs rfl]at B;simp only[AAi]at B;obtain⟨⟨H,C⟩,k3⟩:=B;split at H
     . rename_i d;simp only[AAw]at H;split at C
       . rename_i t s ho;simp only[AAi,AAw]at C;obtain⟨⟨rfl,C⟩,k4⟩:=C;obtain⟨S,δ,Fr,hn,EO,ha,rfl,CJ,Eu,C8⟩:=IX;have hd:=Ee (a:=a) K9 hn;have U:∀u s,(a.put o.dst u).tmps.getD s undef=if s=d.d then u else a.tmps.getD s undef:=λu s=>by rw[hd.1,I1 a d.d u hd.2.2.2 s]
         have Mo:wr d (DV.lf .dead hL).er (λs=>(δ s).er)=some I:=by
          simp only[K3,EK,Gn,valOf]at l;split at l
          . rename_i υ p;rw[Ei,p,l]
          . exact l.elim
         by_cases R:L f.i2=true
         . exact absurd (Mn f.i2 n7 R f.i1 (by
            obtain⟨W,z,q1,q2⟩:∃W z,ops[f.i2]? =some W/\Dj[f.i2]? =some z:=⟨ops[f.i2],Dj[f.i2]'(by omega),by simp[n7],by simp[hN,n7]⟩
            have:=FU f.i2 W z q1 q2;simp only[Xd,AAi]at this;rw[AAp (by omega),AAp (by omega)]at this;simp only[AA5,AAi]at this;exact this.2.2.1.2)) (by rw[hLi];decide)
         . have N:L f.i2=false:=(by simpa using R);obtain⟨j1,j2,j3,j4⟩:=hJ N;have j3':=j3 (Km f.i0 k3);refine QW (u:=hL) J oM ?_ ⟨⟨I,UG (D:=.lf .dead hL) hn EO ha CJ Eu C8 hd (.lf _ _ _ trivial (λ_ h=>h)) (Dd.dead _) Mo,rfl⟩,λy=> ?_⟩
           . have he:a.eval (.tmp f.d0)= .pointer (some ⟨M,f.off,none⟩):=by simpa[Act.eval]using j3'
             have:=LM (P:=P) (w:=w) (b:=M) (off:=f.off) (vs:=[hL]) C k4 (.inr rfl) rfl (λj v F=>by
              cases j with
              |zero=>simp only[ABO,AAh]at F;subst F;exact j2
              |succ j=>simp at F)
             simp only[execOp,ho,he,Instr.loadAt,Instr.sureAddr,Sem.run_bind,Sem.run_pure,Result.andThen_ok,this];rfl
           . simp only[Kh];refine⟨by rw[U,AAp (by rw[H];exact Ne.symm n2)];exact j1,j2,λhx0=> ?_,λ_=>by rw[U,AAs H.symm]⟩;rw[U,AAp (by rw[H];exact n3)];exact j3'
       . cases C
     . cases H
   rw[AAp e1]at B;simp only[AAi]at B;obtain⟨MV,B⟩:=B;by_cases e2:i=f.i2
   . -- the index
     subst e2;rw[AAs rfl]at B;simp only[AAi]at B;obtain⟨⟨H,C⟩,k3⟩:=B;split at H
     . rename_i r off kb k j t s x d ho;simp only[AAi,AAw]at H;obtain⟨⟨⟨⟨⟨rfl,rfl⟩,rfl⟩,rfl⟩,k4⟩,k5⟩:=H;split at k4
       . rename_i e hu;have hk:=Uu k4;obtain⟨S,δ,Fr,hn,EO,ha,rfl,CJ,Eu,C8⟩:=IX;have hd:=Ee (a:=a) K9 hn;obtain⟨j1,j2,j3,j4⟩:=hJ hLi;have j4':=j4 (Km f.i1 C);obtain⟨hj,hej⟩:=Am k5 ha;simp only[K3,EK,Gn]at l;cases F:valOf (.jM f.r f.off f.kb k j) (λs=>(δ s).er)with
         |none=>rw[F]at l;exact l.elim
         |some v=>
          rw[F]at l;simp only at l;have hwv:wr d v (λs=>(δ s).er)=some I:=by
           split at l
           . rename_i υ p;rw[p,l]
           . exact l.elim
          simp only[valOf]at F;split at F
          . rename_i kb' X n0 hr hn0;split at F
            . rename_i k' rows Bo;split at F
              . rename_i Fp;obtain⟨rfl,rfl,h0,Z⟩:=Fp;obtain rfl:=AAl F;obtain⟨b,I3,g1,g2,g3⟩:=AAd CJ hr;have hb:b=M:=(by have:=ha f.r;rw[j1,g1]at this;simpa using this.symm);subst hb;rw[← g2,AAt,AA6]at Bo;obtain⟨D,hD,Fk⟩:=Bo;obtain⟨g4,FD,g5⟩:=g3 f.off D hD;rw[j2,AAh]at g4;obtain⟨kk,hn0⟩:=OC hn0;obtain⟨ei,_⟩:=CJ.FB hj hn0;have Bx:Au (δ f.r) [(0,f.off,f.kb)]=some D:=(by rw[g1];simp[Au,hD]);have he1:a.eval (.tmp f.d1)=hL:=(by simpa[Act.eval]using j4');cases hDD:D with
                |lf x1 v1=>rw[hDD]at Fk g5;simp at Fk;subst Fk;cases g5 with|lf _ _ _ hl _=>simp[IA]at hl
                |agg=>rw[hDD]at Fk;simp at Fk
                |BM=>rw[hDD]at Fk;simp at Fk
                |own hh bx k0 Ao=>
                 rw[hDD]at Fk g5 g4 Bx;simp only[Et,AV.own.injEq]at Fk;obtain⟨rfl,rfl,Ke⟩:=Fk;simp only[Kz]at g4;have V:Ao.length=rows.length:=(by rw[← Ke];simp);cases g5 with
                 |nil=>simp at V;rw[← V]at Z;simp at Z;omega
                 |own _ _ _ bb c arr E Fs _ lX dY D6 Lk oS eA hdd' Bi KW hF=>
                  have hLf:Lf w S δ (.K2 f.r [(0,f.off,f.kb)] n0.toNat 0 k0) (.pointer (some ⟨bb,n0.toNat*k0+0,none⟩)):=Lf.K2 Bx (by simp);obtain⟨D2,q1,q2,q3,q4⟩:=hLf;refine QW (u:=D2.A0) J oM ?_ ⟨⟨I,UG (D:=D2) hn EO ha CJ Eu C8 hd q3 q4 (by rw[q1];exact hwv),rfl⟩,λy=> ?_⟩
                  . rw[q2];simp only[execOp,ho,he1,g4,hej,ei,Jp,Sem.run_bind,AAr,AAx,run_indexAt_slice hu hk h0 (show n0<(Ao.length:Nat)by rw[V];exact Z),Result.andThen_ok,Sem.run_pure];simp
                  . simp at y
              . cases F
            . cases F
          . cases F
       . cases k4
     . cases H
   rw[AAp e2,AAi]at B;obtain⟨IL,O⟩:=B;have hJn:∀(u:Value) w',(L f.i2=false->w'.cell? ⟨M,f.off,none⟩=w.cell? ⟨M,f.off,none⟩)->FJ f M hL (λj=>(L j||j==i)) (a.put o.dst u) w':=by
    intro u w' hw' y;have Sw:L f.i2=false:=(by simp only[Bool.or_eq_false_iff]at y;exact y.1);obtain⟨j1,j2,j3,j4⟩:=hJ Sw;have U:∀s,s=f.r∨s=f.d0∨s=f.d1->(a.put o.dst u).tmps.getD s undef=a.tmps.getD s undef:=by
     intro s hs;obtain⟨S,δ,Fr,hn,_⟩:=IX;cases dst with
     |none=>have h0:o.dst=none:=Ee (a:=a) K9 hn;rw[h0];rfl
     |some d=>
      have hd:=Ee (a:=a) K9 hn;rw[hd.1,I1 a d.d u hd.2.2.2 s,AAp];simp only[AAi,bne_iff_ne]at MV;rintro rfl;rcases hs with hs|hs|hs
      . exact MV.1.1 hs
      . exact MV.1.2 hs
      . exact MV.2 hs
    refine⟨by rw[U _ (.inl rfl)];exact j1,by rw[hw' Sw];exact j2,λh0=> ?_,λh0=> ?_⟩
    . rw[U _ (.inr (.inl rfl))];exact j3 (by simpa[Ne.symm e0]using h0)
    . rw[U _ (.inr (.inr rfl))];exact j4 (by simpa[Ne.symm e1]using h0)
   by_cases Z:i<f.i2
   . rw[AAs Z]at O;simp only[ABE]at O;rcases O with O|O
     . -- a value
       have hop':Jn P o.op rN=true:=by
        simp only[HN,AAi]at IL
        have:=IL.2;cases rN<;>first|exact this|cases O
       have F:∃v,valOf rN σ=some v:=by
        simp only[K3,EK]at l;cases rN<;>first| (cases O;done)|skip
        all_goals
         cases dst with
         |none=>simp[Gn]at l
         |some d=>
          simp only[Gn]at l;split at l
          . rename_i υ p;split at p
            . exact⟨_,by assumption⟩
            . cases p
          . exact l.elim
       obtain⟨v,F⟩:=F;obtain⟨u,hu⟩:=fl_run (io:=⟨dst,rN,none⟩) IX hop' O F;exact lL J oM hu (hJn u w λ_=>rfl) (Is hG IX IL l Q J)
     . -- the call
       split at O
       . rename_i fn args;have hcall:KF P o.op fn args 4=true:=(by simp only[HN,AAi]at IL;exact IL.2);by_cases R:L f.i2=true
         . refine wpOp_mono ?_ (Is hG IX IL l Q J);intro a' w' hr;exact⟨hr,λy=>by simp[R]at y⟩
         have N:L f.i2=false:=(by simpa using R);have hLf:∀j,j<ops.size->(L j||j==i)=true->j<f.i2:=by
          intro j hj y;simp only[ABE,AAw]at y;rcases y with y|rfl
          . rcases Nat.lt_trichotomy j f.i2 with h|h|h
            . exact h
            . subst h;exact absurd y R
            . exfalso;refine R (Mn j hj y f.i2 ?_);obtain⟨W,z,q1,q2⟩:∃W z,ops[j]? =some W/\Dj[j]? =some z:=⟨ops[j],Dj[j]'(by omega),by simp[hj],by simp[hN,hj]⟩
              have:=FU j W z q1 q2;simp only[Xd,AAi]at this;rw[AAp (by omega),AAp (by omega),AAp (by omega)]at this;simp only[AAi]at this
              have:=this.2.2.2;rw[AAp (by omega)]at this;exact this
          . exact Z
         obtain⟨X,T,_⟩:∃X,I f.r= .own true f.kb [X]/\f.off<X.length:=(by rw[hτs f.r];exact jR (hbx _ (VV _ hLf)));obtain⟨S,δ,Fr,hn,_⟩:=id IX;have hd:JL G a o dst:=Ee (a:=a) K9 hn;unfold wpOp;rw[J];simp only[Region.wanted,oM,AA5];refine .inl (Oper.wp_mono ?_ (gX (io:=⟨dst,.call fn args 4,none⟩) hG IX rfl hcall hd (K:=(· =I)) l (rr:=f.r) (kb:=f.kb) ?_ Q))
         . rintro a' w' ⟨hr,I8,u,rfl⟩;refine⟨hr,hJn u w' λy=> ?_⟩;obtain⟨j1,_⟩:=hJ y;simp only[World.cell?,I8 M j1]
         . intro aZ9 τ1 Jw;simp only[K3,EK]at l;rw[Jw]at l;obtain⟨res,_,Fl⟩:=l;split at Fl
           . rename_i v F;cases dst with
             |none=>simp only[C3]at Fl;rw[Fl];exact⟨_,T⟩
             |some d=>
              simp only[C3]at Fl;split at Fl
              . rename_i υ p;subst Fl;unfold wr at p;split at p
                . obtain rfl:=AAl p;simp only[AAi,bne_iff_ne]at MV;rw[Ba _ _ (Ne.symm MV.1.1),Qm]at T;split at T
                  . cases y:τ1 f.r with
                    |own b0 k0 LL=>rw[y]at T;simp only[Dg]at T;cases T;exact⟨_,rfl⟩
                    |_=>rw[y]at T;simp only[Dg]at T;first| (split at T<;>cases T;done)|cases T
                  . exact⟨_,T⟩
                . cases p
              . exact Fl.elim
           . exact Fl.elim
       . cases O
   . -- behind the index
     rw[AAp Z]at O;have R:L f.i2=true:=Km f.i2 O;refine wpOp_mono ?_ (Is hG IX IL l Q J);intro a' w' hr;exact⟨hr,λy=>by simp[R]at y⟩
theorem gJ {f:yN} (a:List BN):∀{σ:Sg} {K:Sg->Prop},RK P G f a K σ->∃q:Nat->Sg,q 0=σ/\(∀i io,a[i]? =some io->K3 P G io (· =q (i+1)) (q i))/\(∀i,i<a.length->eE f.kb f.off (q i f.r)=true)/\K (q a.length):=by
 induction a with
 |nil=>intro σ K h;exact⟨λ_=>σ,rfl,λi io hi=>by simp at hi,λi hi=>by simp at hi,h⟩
 |cons o os ih=>
  intro σ K h;obtain⟨d,h⟩:=h;obtain⟨τ,b,c⟩:=PW.1 h;obtain⟨q,e,g,j,k⟩:=ih c;refine⟨λi=>match i with|0=>σ|i+1=>q i,rfl,λi io hi=> ?_,λi hi=> ?_,by simpa using k⟩
  . cases i with
    |zero=>simp only[ABO,AAh]at hi;subst hi;simp only[e];exact b
    |succ i=>exact g i io (by simpa using hi)
  . cases i with
    |zero=>exact d
    |succ i=>exact j i (by simpa using hi)
theorem floRun {f:yN} {a b:List BN} {K:Sg->Prop} {σ:Sg} (h:RK P G f a (OA P G b K) σ):∃q:Nat->Sg,q 0=σ/\(∀i io,(a++b)[i]? =some io->K3 P G io (· =q (i+1)) (q i))/\(∀i,i<a.length->eE f.kb f.off (q i f.r)=true)/\K (q (a++b).length):=by
 obtain⟨q,j,m,n,o⟩:=gJ a h;obtain⟨p,g,k,l⟩:=Rm b o;refine⟨λi=>if i<a.length then q i else p (i-a.length),?_,λi io hi=> ?_,λi hi=> ?_,?_⟩
 . simp only;split
   . exact j
   . rename_i s;have:a.length=0:=(by omega);rw[this,Nat.sub_zero,g,this];exact j
 . by_cases c:i<a.length
   . rw[ABA c]at hi
     have:=m i io hi;simp only[c,AA5];by_cases d:i+1<a.length
     . simp only[d,AA5];exact this
     . have e:i+1=a.length:=(by omega);simp only[d,AAx];rw[e,Nat.sub_self,g,← e];exact this
   . rw[ABC (by omega)]at hi
     have:=k _ io hi;simp only[c,AAx,show¬i+1<a.length by omega];rw[show i+1-a.length=i-a.length+1 by omega];exact this
 . simp only[hi,AA5];exact n i hi
 . simp only[ABK,show¬a.length+b.length<a.length by omega,AAx,Nat.add_sub_cancel_left];exact l
end Go.Abs
namespace Go.Abs
variable {G:Gi} {P:Program} {w:World}
theorem cR {ops:Array Oper} {Q:Exit->Act->World->Prop} {i:Nat} {o:Oper} {a:Act} {K:Act->World->Prop} {J:Array Value->Prop} (hi:ops[i]? =some o) (c:∀(b:Act) v,b.tmps=a.tmps->J (b.put o.dst v).tmps) (h:wpOp P ops Q i K a w):
 wpOp P ops Q i (λk w'=>K k w'/\J k.tmps) a w:=by
 unfold wpOp at h ⊢;rw[hi]at h ⊢;simp only at h ⊢;by_cases l:Region.wanted o (yielded ops a.tmps)=true
 . simp only[l,AA5]at h ⊢;refine h.imp (λh=> ?_) id;unfold Oper.wp at*;generalize (execOp a.eval o).run P w=r at*;cases r with
   |ok x w'=>
    cases x with
    |value v=>exact⟨h,c _ _ rfl⟩
    |skip=>exact⟨h,c _ _ rfl⟩
    |defer d=>exact⟨h,c _ _ rfl⟩
    |enter f args=>
     simp only[Oper.upon]at h ⊢;refine Calls.mono h λe j g=> ?_;cases e with
     |returned v=>exact⟨g,c _ _ rfl⟩
     |panicked chain=>exact g
     |outgrown=>exact g
    |row row args=>simp only[Oper.upon]at h ⊢;exact Rows.mono h λv j g=>⟨g,c _ _ rfl⟩
    |_=>simp only[Oper.upon]at h
   |halt x w'=>
    cases x with
    |panic v=>exact h
    |_=>simp only[Oper.upon]at h
 . simp only[l]at h ⊢;exact⟨h,c _ _ rfl⟩
def rnX (d r:Nat):Operand->Operand
 | .tmp s=>if s=d then .tmp r else .tmp s
 |x=>x
def pS (d r:Nat):Op->Op
 | .indexAddr t x y=>.indexAddr t (rnX d r x) y
 | .nilCheck x=>.nilCheck (rnX d r x)
 | .extract x k=>.extract (rnX d r x) k
 | .call ⟨.value f,xs,ts⟩=>.call ⟨.value f,xs.map (rnX d r),ts⟩
 |o=>o
theorem UH {a:Act} {d r:Nat} (h:a.tmps.getD d undef=a.tmps.getD r undef) (x:Operand):a.eval (rnX d r x)=a.eval x:=by
 cases x with
 |tmp s=>
  simp only[rnX];split
  . rename_i e;subst e;simp only[Act.eval];exact h.symm
  . rfl
 |_=>rfl
theorem xM {a:Act} {d r:Nat} (h:a.tmps.getD d undef=a.tmps.getD r undef) (o:Oper):execOp a.eval {o with op:=pS d r o.op}=execOp a.eval o:=by
 have e:a.eval ∘ rnX d r=a.eval:=funext λx=>UH h x;obtain⟨dst,op,ty,i,b,g⟩:=o;cases op with
 |indexAddr t x y=>simp only[execOp,pS,UH h]
 |nilCheck x=>simp only[execOp,pS,UH h]
 |extract x k=>simp only[execOp,pS,UH h]
 |call c=>
  obtain⟨cl,l,j⟩:=c;cases cl with
  |value f=>simp only[execOp,pS,resolve,Array.map_map,e]
  |_=>rfl
 |_=>rfl
def VM (Dj:List BN) (i1:Nat):AB8 Nat:=match Dj[i1]? with
 |some ⟨_,.flk _ k,_⟩=>some k
 |_=>none
def arO (o:AB8 Nat) (v:Value):Prop:=match o with
 |some k=>∃vs:Array Value,v= .tuple vs/\k<vs.size
 |none=>True
def qO (P:Program) (G:Gi) (n:Nat) (fs:List (Nat×Nat×Nat×Nat)) (ops:Array Oper) (Dj:List BN) (M:List Nat) (i:Nat) (o:Oper) (io:BN):Bool:=
 Dz G n o.dst io.dst&&
 (match fs.find? (·.2.1==i)with
  |some (r,_,_,d1)=>o.guard.isNone&&io.guard.isNone&&(match io.op,io.dst with| .fl,some d=>d.d==d1| .flk (.t x) _,some d=>d.d==d1&&x==r|_,_=>false)&&(match o.op with| .move (.tmp s)=>s==r|_=>false)&&
   fs.all λf=>f.1 != d1&&(if f.2.1==i then f.1==r&&f.2.2.2==d1 else f.2.2.2 != d1)
  |none=>(match io.dst with|some d=>fs.all λf=>(f.1 != d.d||(M.getD f.2.1 0).testBit i)&&f.2.2.2 != d.d|none=>true)&&
   (match io.op with
   | .fl=>o.guard.isNone&&io.guard.isNone&&io.dst.isSome&&(match o.op with
    | .extract (.tmp t) k=>fs.any λf=>f.2.2.2==t&&(M.getD i 0).testBit f.2.1&&(match VM Dj f.2.1 with|some m=>decide (k≤m)|none=>false)
    |_=>false)
   |_=>match fs.find? (·.2.2.1==i)with
    |some (r,i1,_,d1)=>o.guard.isNone&&(M.getD i 0).testBit i1&&HN P G n (ops.setIfInBounds i {o with op:=pS d1 r o.op}) {o with op:=pS d1 r o.op} io
    |none=>HN P G n ops o io))
def nJ (P:Program) (G:Gi) (n:Nat) (fs:List (Nat×Nat×Nat×Nat)) (ops:Array Oper) (Dj:List BN):Bool:=
 decide (Dj.length=ops.size)&&(fs.all λf=>decide (f.2.1<ops.size))&&Lw G ops.toList Dj&&
 (List.range ops.size).all λi=>match ops[i]?,Dj[i]? with
  |some o,some io=>qO P G n fs ops Dj (Vw ops.toList []) i o io
  |_,_=>false
theorem tup_ar {δ:Nat->DV} {Fr:Nat->Nat->Prop} {S:Nat->Prop} (h:St G w S δ Fr) {r k:Nat} {d:List AV} (b:(δ r).er= .BM d) (e:k<d.length):∃vs:Array Value,(δ r).A0= .tuple vs/\k<vs.size:=by
 have c:=(h.ok r).LD;cases hδ:δ r with
 |lf a v=>rw[hδ]at c b;cases c with|lf _ _ c=>simp only[Ei]at b;subst b;simp[C9]at c
 |own=>rw[hδ]at b;simp at b
 |agg=>rw[hδ]at b;simp at b
 |BM ds=>rw[hδ]at b;simp only[JY,AV.BM.injEq]at b;subst b;exact⟨_,Lg _,by simpa using e⟩
theorem uV {n:Nat} {w0:World} {S0 U0:Nat->Prop} (hG:ZX w0 S0 U0) {ops:Array Oper} {K:Sg->Prop} (Q:Exit->Act->World->Prop) (hQ:∀a w σ,Rel G n w0 S0 U0 a w σ->K σ->Q .normal a w) {E:List BN} {a:Act} {w:World} {σ:Sg} {W:List (Nat×Nat×Nat×Nat)}
 (h:Rel G n w0 S0 U0 a w σ) (hc:nJ P G n W ops E=true) (Ce:OA P G E K σ):
 wpAny P .any ops Q ops.size (Array.replicate ops.size false) a w:=by
 simp only[nJ,AAi,AA1]at hc;obtain⟨⟨⟨hN,n2⟩,iX⟩,Ie⟩:=hc;rw[AAm]at n2 Ie;obtain⟨q,hq0,HK,hK⟩:=Rm E Ce;have FU:∀i o io,ops[i]? =some o->E[i]? =some io->qO P G n W ops E (Vw ops.toList []) i o io=true:=by
  intro i o io z O;have hi:i<ops.size:=(ABN.1 z).1
  have:=Ie i (by simpa using hi);rw[z,O]at this;exact this
 refine TG Q h hN ?_ iX q hq0 HK hK (λL a _=>∀f∈W,L f.2.1=true->a.tmps.getD f.2.2.2 undef=a.tmps.getD f.1 undef/\arO (VM E f.2.1) (a.tmps.getD f.2.2.2 undef)) (λ_ a w σ _ _ h k=>hQ a w σ h k) ?_ ?_
 . intro i o io z O d hd
   have:=FU i o io (by simpa using z) O;simp only[qO,AAi]at this;have I:=this.1;rw[hd]at I;cases X:o.dst with
   |none=>rw[X]at I;simp[Dz]at I
   |some t=>rw[X]at I;simp only[Dz,AAi,AAw]at I;exact I.1.2
 . intro f y l
   have:=n2 f y;simp only[AA1]at this;simp[AA4,this]at l
 . intro L i o io a w σ M z O hiN hLi Km Mn hJ IX j hτs;have c:=FU i o io z O;simp only[qO,AAi]at c;obtain⟨H,c⟩:=c;split at c
   . rename_i r _ _ d1 B;simp only[AAi,ABX,AAm,bne_iff_ne]at c;obtain⟨⟨⟨⟨oM,Nl⟩,p⟩,k2⟩,k3⟩:=c;obtain⟨dst,rN,g⟩:=io;simp only at Nl H p;subst Nl;split at k2
     . rename_i s X;simp only[AAw]at k2;subst k2;obtain⟨S,δ,Fr,hn,EO,ha,rfl,CJ,Eu,C8⟩:=IX;have key:∃d,dst=some d/\d.d=d1/\wr d .dead (λs=>(δ s).er)=some M/\arO (VM E i) (a.tmps.getD s undef):=by
        split at p
        . rename_i d;refine⟨d,rfl,by simpa using p,?_,by simp[VM,O,arO]⟩;simp only[K3,EK,Gn,valOf]at j;split at j
          . rename_i υ C;rw[C,j]
          . exact j.elim
        . rename_i x k d;simp only[AAi,AAw]at p;obtain⟨p,rfl⟩:=p;simp only[K3,EK,Gn,valOf]at j;cases l:(δ x).er with
          |BM cs=>
           simp only[l]at j;by_cases U:k<cs.length
           . simp only[U,AA5]at j;refine⟨d,rfl,p,?_,?_⟩
             . split at j
               . rename_i υ C;rw[C,j]
               . exact j.elim
             . simp only[VM,O,arO];rw[ha x];exact tup_ar CJ l U
           . simp[U]at j
          |_=>simp[l]at j
        . cases p
       obtain⟨d,rfl,p,Mo,har⟩:=key;have hd:=Ee (a:=a) H hn;have Hf:∀u s,(a.put o.dst u).tmps.getD s undef=if s=d.d then u else a.tmps.getD s undef:=λu s=>by rw[hd.1,I1 a d.d u hd.2.2.2 s]
       rw[← Ei .dead (a.tmps.getD s undef)]at Mo;refine QW (u:=a.tmps.getD s undef) z oM ?_ ⟨⟨M,UG (D:=.lf .dead (a.tmps.getD s undef)) hn EO ha CJ Eu C8 hd (.lf _ _ _ trivial (λ_ h=>h)) (Dd.dead _) Mo,rfl⟩,λf y l=> ?_⟩
       . simp[execOp,X,Act.eval]
       . obtain⟨j1,Z⟩:=k3 f y;rw[Hf,Hf,p,AAp j1];split at Z
         . rename_i e;simp only[AAi,AAw]at Z e;rw[AAs Z.2,Z.1,e];exact⟨rfl,har⟩
         . rename_i e;simp only[bne_iff_ne]at Z;rw[AAp Z];refine hJ f y ?_;simp only[ABE]at l;exact l.resolve_right e
     . cases k2
   . rename_i jG;simp only[AAi]at c;obtain⟨p,c⟩:=c;have R:∀(b:Act) v,b.tmps=a.tmps->∀f∈W,(L f.2.1||f.2.1==i)=true->(b.put o.dst v).tmps.getD f.2.2.2 undef=(b.put o.dst v).tmps.getD f.1 undef/\arO (VM E f.2.1) ((b.put o.dst v).tmps.getD f.2.2.2 undef):=by
      intro b v F f y l;have e1:¬(f.2.1==i)=true:=List.find?_eq_none.1 jG f y;have LS:L f.2.1=true:=(by simpa[e1]using l);have T:=hJ f y LS;cases yW:o.dst with
      |none=>simp only[Act.put,F];exact T
      |some t=>
       cases rF:io.dst with
       |none=>rw[yW,rF]at H;simp[Dz]at H
       |some d=>rw[yW,rF]at H;rw[rF]at p;simp only[Dz,AAi,AAw]at H;simp only[AAm,AAi,ABE,bne_iff_ne]at p;have ht:t=d.d:=H.1.1.1;obtain⟨u1,u2⟩:=p f y;have u1:f.1≠d.d:=u1.elim id λlX=>(by have I:=Mn f.2.1 (AAq (n2 f y)) LS i lX;rw[hLi]at I;cases I);simp only[Act.put,F,AA4,ABh];rw[AAp (by rw[ht];exact Ne.symm u2),AAp (by rw[ht];exact Ne.symm u1)];simpa[AA4]using T
     split at c
     . rename_i N;simp only[AAi,ABX,Option.isSome_iff_exists]at c;obtain⟨⟨⟨oM,Nl⟩,d,rF⟩,c⟩:=c;obtain⟨dst,rN,g⟩:=io;simp only at Nl H p rF N;subst Nl rF N;split at c
       . rename_i t k X;rw[List.any_eq_true]at c;obtain⟨f,y,c⟩:=c;simp only[AAi,AAw]at c;obtain⟨⟨ht,F⟩,U⟩:=c;have T:=hJ f y (Km _ F);split at U
         . rename_i m hm;rw[hm]at T;obtain⟨vs,hv,hmv⟩:=T.2;have hkv:k<vs.size:=Nat.lt_of_le_of_lt (AAq U) hmv;obtain⟨S,δ,Fr,hn,EO,ha,rfl,CJ,Eu,C8⟩:=IX;have hd:=Ee (a:=a) H hn;have Mo:wr d (DV.lf .dead vs[k]).er (λs=>(δ s).er)=some M:=by
            simp only[K3,EK,Gn,valOf]at j;split at j
            . rename_i υ C;rw[Ei,C,j]
            . exact j.elim
           refine QW (u:=vs[k]) z oM ?_ ⟨⟨M,UG (D:=.lf .dead vs[k]) hn EO ha CJ Eu C8 hd (.lf _ _ _ trivial (λ_ h=>h)) (Dd.dead _) Mo,rfl⟩,λf y l=>R a _ rfl f y l⟩;simp only[execOp,X,Act.eval,← ht,hv,Instr.extract,Array.getElem?_eq_getElem hkv];rfl
         . cases U
       . cases c
     split at c
     . rename_i r i1 _ d1 B;simp only[AAi,ABX]at c;obtain⟨⟨oM,F⟩,c⟩:=c;have T:=(hJ _ (AB1 B) (Km _ F)).1;have key:=Is hG IX c j Q (i:=i) (by simp[hiN]);refine cR z (J:=λV=>∀f∈W,(L f.2.1||f.2.1==i)=true->V.getD f.2.2.2 undef=V.getD f.1 undef/\arO (VM E f.2.1) (V.getD f.2.2.2 undef)) (λb v F=>R b v F) ?_;unfold wpOp at key ⊢;rw[z];simp only[Array.getElem?_setIfInBounds_self_of_lt hiN,Region.wanted,oM,AA5]at key ⊢;unfold Oper.wp Oper.asks at*;have l:=xM T o;simp only[oM]at l;rw[l]at key;exact key
     . exact cR z (J:=λV=>∀f∈W,(L f.2.1||f.2.1==i)=true->V.getD f.2.2.2 undef=V.getD f.1 undef/\arO (VM E f.2.1) (V.getD f.2.2.2 undef)) (λb v F=>R b v F) (Is hG IX c j Q z)
end Go.Abs
namespace Go.Abs
variable {G:Gi} {P:Program} {w:World}
theorem Tc {L:Nat->Bool} {W:Nat->List Nat} {x j:Nat} (a:L j=true) (b:x∈W j):∀m,j<m->j<Fe L W x m
 |0,h=>absurd h (Nat.not_lt_zero _)
 |m+1,h=>by
  simp only[Fe];split
  . omega
  . rename_i c;by_cases e:j=m
    . simp_all
    . exact Tc a b m (by omega)
theorem put_same (p:List Step):∀{t x:AV},sub t p=some x->put t p x=some t:=by
 induction p with
 |nil=>intro t x h;simp only[sub,AAh]at h;subst h;rfl
 |cons s p ih=>
  obtain⟨i,j,k⟩:=s;intro t x h;cases t with
  |own b k' rows=>
   simp only[sub]at h;split at h
   . rename_i l hi;split at h
     . rename_i c d;obtain⟨g,f⟩:=AAj.1 hi;obtain⟨e,a⟩:=AAj.1 d;simp only[put,hi,d,ih h];rw[← a,List.set_getElem_self,← f,List.set_getElem_self]
     . cases h
   . cases h
  |agg cs=>
   simp only[sub]at h;split at h
   . rename_i c d;obtain⟨e,a⟩:=AAj.1 d;simp only[put,d,ih h];rw[← a,List.set_getElem_self]
   . cases h
  |BM cs=>
   simp only[sub]at h;split at h
   . rename_i c d;obtain⟨e,a⟩:=AAj.1 d;simp only[put,d,ih h];rw[← a,List.set_getElem_self]
   . cases h
  |_=>simp[sub]at h
theorem sub_k {i j:Nat} (p:List Step) (k d:Nat):∀{t:AV},sub t (p++[(i,j,k)])=sub t (p++[(i,j,d)]):=by
 induction p with
 |nil=>intro t;cases t<;>simp[sub]
 |cons s p ih=>obtain⟨a,b,c⟩:=s;intro t;cases t<;>simp[sub,ih]
theorem st_frame {S:Nat->Prop} {δ:Nat->DV} {Fr:Nat->Nat->Prop} (h:St G w S δ Fr) {a:Act} (B:Rd δ a) {o:Oper} {t:TypeId} {x u:Operand} {n s:Nat} {z:Ar} (ho:o.op= .store t x u) (hn:Gv P t=some n) (hc:CM x (.t s)=true) (U:CM u z=true) {σ':Sg}
 (c:Gn G (.st n (.t s) z) none (λs=>(δ s).er)=some σ'):∃w' b off,(execOp a.eval o).run P w= .ok .skip w'/\(∀x,x≠b->w'.heap[x]? =w.heap[x]?)/\a.tmps.getD s undef= .pointer (some ⟨b,off,none⟩):=by
 obtain⟨hy,V⟩:=Am hc B;obtain⟨hz,g⟩:=Am U B;simp only[Gn]at c;split at c
 . rename_i v τ ht;obtain⟨δ1,F1,D,Ff,d,R,N,I⟩:=h.tk hz ht;subst R;subst N;split at c
   . rename_i r p i j k X;obtain⟨vh,bx,Ao,b,Fx,E,hb,hp,Cj,_⟩:=d.st.EL X;split at c
     . rename_i fN k' rows vR;obtain⟨D',f,e⟩:=Dr (d.st.ok r).LD vR;rw[E]at f;obtain rfl:=AAl f;simp only[Et,AV.own.injEq]at e;obtain⟨rfl,rfl,rfl⟩:=e;split at c
       . rename_i row H;rw[AAt,AA6]at H;obtain⟨I3,C,rfl⟩:=H;split at c
         . rename_i O;obtain⟨l,y,hjn⟩:=O;split at c
           . rename_i t' F;have L:=Lr D d.ok.LD;have hl:(cellsD D).length=n:=(by rw[← l,← L];simp);have J:=Lv d.ok y;rw[← L]at F y;obtain⟨w',td,F',M,Pl,K,RQ,LB,Z,_⟩:=cH (P:=P) (cellsD D) (d.st.ok r) E hb C (by simp_all) (Nd d.ok) (λx hx T=>d.MT r x T hx) y F 0 (i*k+j) rfl;have m:(δ s).A0= .pointer (some ⟨b,i*k+j,none⟩):=(by rw[← d.A0 s];exact hp);refine⟨w',b,i*k+j,?_,Z,by rw[B s];exact m⟩;have W:¬((C7 δ z).cells.size≠n):=(by rw[← I,J];simp[hl]);have Q:(C7 δ z).cells.toList=(cellsD D).map DV.A0:=(by rw[← I,J]);have q:C7 δ (.t s)= .pointer (some ⟨b,i*k+j,none⟩):=m;simp only[execOp,ho,V,g,q,Instr.storeAt,Instr.sureAddr,storeVar,Sem.run_bind,Sem.run_pure,Result.andThen_ok,run_sizeOf hn,Sem.run_ite,W,AAx,Q,M]
           . cases c
         . cases c
       . cases c
     . cases c
   . cases c
 . cases c
theorem gL {f:yM} (os:List BN):∀{m:Nat} {σ:Sg} {K:Sg->Prop},Ol P G f m os K σ->∃q:Nat->Sg,q 0=σ/\(∀i io,os[i]? =some io->K3 P G io (· =q (i+1)) (q i))/\(∀i,i≤os.length->wZ f (m+i) (q i)=true)/\K (q os.length):=by
 induction os with
 |nil=>intro m σ K h;exact⟨λ_=>σ,rfl,λi io hi=>by simp at hi,λi hi=>by simp only[ABo,Nat.le_zero]at hi;subst hi;exact h.1,h.2⟩
 |cons o os ih=>
  intro m σ K h;obtain⟨c,h⟩:=h;obtain⟨τ,b,a⟩:=PW.1 h;obtain⟨q,d,e,g,j⟩:=ih a;refine⟨λi=>match i with|0=>σ|i+1=>q i,rfl,λi io hi=> ?_,λi hi=> ?_,by omega⟩
  all_goals grind
def hZ (P:Program) (G:Gi) (n:Nat) (f:yM) (ops:Array Oper) (M:List Nat) (i:Nat) (o:Oper) (io:BN):Bool:=
 if i=f.i12 then o.guard.isNone&&o.dst.isNone&&io.guard.isNone&&io.dst.isNone&&(match io.op with| .std (.t s)=>s==f.ap|_=>false)&&
  (match o.op with| .store t (.tmp x) (.tmp u)=>x==f.ap&&u==f.s&&Gv P t==some 1|_=>false)&&(M.getD i 0).testBit f.i7&&(M.getD i 0).testBit f.i11
 else HN P G n ops o io&&((M.getD f.i12 0).testBit i||(o.guard.isNone&&io.guard.isNone&&(match io.dst with|some d=>d.d != f.s&&d.d != f.ap|none=>true)&&
  (if i=f.i9 then o.dst.isNone&&io.dst.isNone&&(match io.op,o.op with| .st n (.t s) z,.store t x u=>s==f.e&&Gv P t==some n&&CM x (.t s)&&CM u z|_,_=>false)&&(M.getD i 0).testBit f.i8
   else aW io.op)))
def nG (P:Program) (G:Gi) (n:Nat) (f:yM) (ops:Array Oper) (Dj:List BN):Bool:=
 decide (Dj.length=ops.size)&&decide (f.i12<ops.size)&&Lw G ops.toList Dj&&(G7 G Dj f.i7).contains (2*f.s+1)&&(G7 G Dj f.i8).contains (2*f.e+1)&&(G7 G Dj f.i11).contains (2*f.ap+1)&&
 ((G.HI f.e).all λr=> !(G.HI f.ap).contains r)&&decide (f.i7<ops.size)&&decide (f.i8<ops.size)&&decide (f.i11<ops.size)&&
 (List.range ops.size).all λi=>match ops[i]?,Dj[i]? with
  |some o,some io=>hZ P G n f ops (Vw ops.toList []) i o io
  |_,_=>false
def AJ (f:yM) (L:Nat->Bool) (a:Act) (w:World):Prop:=L f.i12=true->∃b o arr E,a.tmps.getD f.ap undef= .pointer (some ⟨b,o,none⟩)/\w.heap[b]? =some (.cells arr E (0,0))/\arr[o]? =some (a.tmps.getD f.s undef)
theorem eZ {b o:Nat} {v:Value} {arr:Array Value} {E:TypeId} {fz:Nat×Nat} (a:w.heap[b]? =some (.cells arr E fz)) (c:arr[o]? =some v):w.setCell ⟨b,o,none⟩ v=w:=by
 have e:arr.setIfInBounds o v=arr:=by
  apply Array.ext_getElem?;intro i;rw[ABh];split
  . grind
  . rfl
 obtain⟨heap,_⟩:=w;simp only[World.setCell,World.mk.injEq,and_true]at a ⊢;grind
theorem zW {σ:Sg} {s:Nat} (h:SD (σ s)=true):∃r p i j k,σ s= .K2 r p i j k/\EL σ (.t s)=some (r,p,i,j,k):=by
 cases hs:σ s with
 |K2 r p i j k=>exact⟨r,p,i,j,k,rfl,by simp[EL,hs]⟩
 |_=>rw[hs]at h;simp[SD]at h
theorem yD {ops:Array Oper} {Q:Exit->Act->World->Prop} {i:Nat} {o:Oper} {a:Act} {w':World} {K:Act->World->Prop} (hi:ops[i]? =some o) (c:o.guard=none) (b:(execOp a.eval o).run P w= .ok .skip w') (h:K (a.put o.dst undef) w'):wpOp P ops Q i K a w:=by unfold wpOp;rw[hi];simp only[Region.wanted,c,AA5];refine .inl ?_;unfold Oper.wp;rw[b];exact h
theorem p8 {ops:Array Oper} {Q:Exit->Act->World->Prop} {i:Nat} {o:Oper} {a:Act} {w':World} {K:Act->World->Prop} (hi:ops[i]? =some o) (e:o.guard=none) (d:(execOp a.eval o).run P w= .ok .skip w') (h:wpOp P ops Q i K a w):wpOp P ops Q i (λb c=>K b c/\b=a.put o.dst undef/\c=w') a w:=by unfold wpOp at h ⊢;rw[hi]at h ⊢;simp only[Region.wanted,e,AA5]at h ⊢;refine h.imp (λh=> ?_) id;unfold Oper.wp at h ⊢;rw[d]at h ⊢;exact⟨h,rfl,rfl⟩
theorem s8 {n:Nat} {w0:World} {S0 U0:Nat->Prop} (hG:ZX w0 S0 U0) {ops:Array Oper} {K:Sg->Prop} (Q:Exit->Act->World->Prop) (hQ:∀a w σ,Rel G n w0 S0 U0 a w σ->K σ->Q .normal a w) {B:List BN} {a:Act} {w:World} {σ:Sg} {f:yM}
 (h:Rel G n w0 S0 U0 a w σ) (hc:nG P G n f ops B=true) (Ce:Ol P G f 0 B (K3 P G ⟨none,.st 1 (.t f.ap) (.t f.s),none⟩ K) σ):
 wpAny P .any ops Q ops.size (Array.replicate ops.size false) a w:=by
 simp only[nG,AAi,AA1,AA3]at hc;obtain⟨⟨⟨⟨⟨⟨⟨⟨⟨⟨hN,n12⟩,iX⟩,w7⟩,w8⟩,w11⟩,hdj⟩,n7⟩,n8⟩,n11⟩,Ie⟩:=hc;rw[AAm]at hdj Ie;obtain⟨q,hq0,HK,Cj,hK⟩:=gL B Ce;simp only[ABr]at Cj;have Jy:∀i o io,ops[i]? =some o->B[i]? =some io->hZ P G n f ops (Vw ops.toList []) i o io=true:=by
  intro i o io D I;have hi:i<ops.size:=(ABN.1 D).1
  have:=Ie i (by simpa using hi);rw[D,I]at this;exact this
 obtain⟨o12,N,p1,p2⟩:∃o io,ops[f.i12]? =some o/\B[f.i12]? =some io:=⟨ops[f.i12],B[f.i12]'(by omega),by simp[n12],by simp[hN,n12]⟩;have h12:=Jy _ _ _ p1 p2;simp only[hZ,AAs,AAi,ABX]at h12;obtain⟨⟨⟨⟨⟨⟨⟨g1,g2⟩,g3⟩,g4⟩,g5⟩,g6⟩,b7⟩,b11⟩:=h12;obtain⟨ty,qT,Pn⟩:∃ty,o12.op= .store ty (.tmp f.ap) (.tmp f.s)/\Gv P ty=some 1:=by
  split at g6
  . rename_i ty x u ho;simp only[AAi,AAw]at g6;obtain⟨⟨rfl,rfl⟩,T⟩:=g6;exact⟨ty,ho,T⟩
  . cases g6
 have ei12:N=⟨none,.std (.t f.ap),none⟩:=by
  obtain⟨d,op,g⟩:=N;simp only at g3 g4 g5;subst g3;subst g4;split at g5
  . simp only[AAw]at g5;rw[g5]
  . cases g5
 -- where the slots stand
 have own:∀{L:Nat->Bool} {σ:Sg},L f.i7=true->σ f.s=q (Fe L (G7 G B) (2*f.s+1) ops.size) f.s->Pp (σ f.s)=true:=by intro L σ hL J;have D:=Tc hL w7 ops.size n7;have I:=YJ L (G7 G B) (2*f.s+1) ops.size;have T:=Cj _ (by omega:Fe L (G7 G B) (2*f.s+1) ops.size≤B.length);simp only[wZ,AAi,ABE,AA1]at T;rw[J];exact T.1.1.resolve_left (by omega)
 have adr8:∀{L:Nat->Bool} {σ:Sg},L f.i8=true->σ f.e=q (Fe L (G7 G B) (2*f.e+1) ops.size) f.e->SD (σ f.e)=true:=by intro L σ hL J;have D:=Tc hL w8 ops.size n8;have I:=YJ L (G7 G B) (2*f.e+1) ops.size;have T:=Cj _ (by omega:Fe L (G7 G B) (2*f.e+1) ops.size≤B.length);simp only[wZ,AAi,ABE,AA1]at T;rw[J];exact T.1.2.resolve_left (by omega)
 have adr11:∀{L:Nat->Bool} {σ:Sg},L f.i11=true->σ f.ap=q (Fe L (G7 G B) (2*f.ap+1) ops.size) f.ap->SD (σ f.ap)=true:=by intro L σ hL J;have D:=Tc hL w11 ops.size n11;have I:=YJ L (G7 G B) (2*f.ap+1) ops.size;have T:=Cj _ (by omega:Fe L (G7 G B) (2*f.ap+1) ops.size≤B.length);simp only[wZ,AAi,ABE,AA1]at T;rw[J];exact T.2.resolve_left (by omega)
 -- the slice's store, executed
 have run12:∀{a:Act} {w:World} {b o:Nat} {arr:Array Value} {E:TypeId} {C:AB8 Addr} {m c:Nat} {u:Value},a.tmps.getD f.ap undef= .pointer (some ⟨b,o,none⟩)->w.heap[b]? =some (.cells arr E (0,0))->arr[o]? =some u->a.tmps.getD f.s undef= .slice C m c->
  (execOp a.eval o12).run P w= .ok .skip (w.setCell ⟨b,o,none⟩ (.slice C m c)):=by
  intro a w b o arr E C m c u D I T h4;have E8:=QI (P:=P) (w:=w) (off:=o) (v:=.slice C m c) I T rfl;have e1:a.eval (.tmp f.ap)= .pointer (some ⟨b,o,none⟩):=D;have e2:a.eval (.tmp f.s)= .slice C m c:=h4;simp only[execOp,qT,e1,e2,Instr.storeAt,Instr.sureAddr,storeVar,Sem.run_bind,Sem.run_pure,Result.andThen_ok,run_sizeOf Pn,Sem.run_ite,Value.cells,storeCells];simp[E8,Addr.add,storeCells]
 -- a slice's own slot holds a slice
 have Z:∀{S:Nat->Prop} {δ:Nat->DV} {Fr:Nat->Nat->Prop} {w:World},St G w S δ Fr->Pp (δ f.s).er=true->∃C m c,(δ f.s).A0= .slice C m c:=by
  intro S δ Fr w y ho;have hk:=y.ok f.s;cases hd:δ f.s with
  |own v bx k rows=>
   rw[hd]at ho hk;cases bx with
   |true=>simp[Pp]at ho
   |false=>obtain⟨a,c,e⟩:=cA hk;exact⟨a,_,c,by simpa using e⟩
  |lf x v=>
   rw[hd]at ho hk;cases hk with
   |lf _ _ _ F=>simp only[Ei]at ho;cases x<;>first|exact F.elim|simp[Pp]at ho
  |agg=>rw[hd]at ho;simp[Pp]at ho
  |BM=>rw[hd]at ho;simp[Pp]at ho
 refine TG Q h hN ?_ iX (K:=λσ=>wZ f B.length σ=true/\K3 P G ⟨none,.st 1 (.t f.ap) (.t f.s),none⟩ K σ) q hq0 HK ⟨Cj _ (AA8 _),hK⟩ (AJ f) ?_ ?_ ?_
 . intro i o io D I d hd
   have:=Jy i o io (by simpa using D) I;by_cases e:i=f.i12
   . subst e;have:io=N:=(by rw[p2]at I;exact(AAl I).symm);subst this;rw[ei12]at hd;cases hd
   . simp only[hZ,AAp e,AAi]at this;exact Xe this.1 d hd
 . -- the end: the slice comes into its cell, where it is already
   intro L a w σ hL hJ IX U;obtain⟨hoks,U⟩:=U;obtain⟨b,o,arr,E,j1,j2,j3⟩:=hJ (hL _ n12);have y:=XZ hG (K:=K) IX (ops:=ops) (o:=o12) (io:=⟨none,.st 1 (.t f.ap) (.t f.s),none⟩) (P:=P) (by simp[HN,g1,g2,Dz,K5,qT,Jn,Pn,CM]) U Q;obtain⟨C,m,c,J⟩:∃C m c,a.tmps.getD f.s undef= .slice C m c:=(by obtain⟨S,δ,Fr,hn,EO,ha,rfl,y,Eu,C8⟩:=IX;simp only[wZ,AAi,ABE,AA1]at hoks;obtain⟨C,m,c,e⟩:=Z y (hoks.1.1.resolve_left (by omega));exact⟨C,m,c,(ha _).trans e⟩);rw[J]at j3;have hr:=run12 j1 j2 j3 J;rw[eZ j2 j3]at hr;unfold Oper.wp at y;rw[hr,Oper.upon_skip,g2]at y;obtain⟨σ',D,I⟩:=y;exact hQ a w σ' D I
 . intro l;simp[AA4,n12]at l
 . intro L i o io a w σ τ' D I hiN hLi Km Mn hJ IX R hτs;have O:=Jy i o io D I;have L12:∀j,((Vw ops.toList []).getD f.i12 0).testBit j=true->L f.i12=true->L j=true:=λj hb F=>Mn f.i12 n12 F j hb;by_cases e:i=f.i12
   . -- the slice's own store
     subst e;have:io=N:=(by rw[p2]at I;exact(AAl I).symm);subst this;have:o=o12:=(by rw[p1]at D;exact(AAl D).symm);subst this;obtain⟨S,δ,Fr,hn,EO,ha,rfl,y,Eu,C8⟩:=IX;rw[ei12]at R;simp only[K3,EK,Gn]at R;split at R
     . rename_i υ H;split at H
       . rename_i r p i j k V0;split at H
         . rename_i Nk;simp only[AAh]at H;subst H;subst R;have D8:=own (L:=λj=>(L j||j==f.i12)) (σ:=λs=>(δ s).er) (by simp[Km _ b7]) (hτs f.s);obtain⟨C,m,c,hsv⟩:=Z y D8;have hsv':a.tmps.getD f.s undef= .slice C m c:=(ha _).trans hsv;obtain⟨vh,bx,Ao,b,Fx,Bx,hb,hp,hokx,hFx⟩:=y.EL V0;have hp':a.tmps.getD f.ap undef= .pointer (some ⟨b,i*k+j,none⟩):=(ha _).trans hp;obtain⟨x,l,hxe⟩:=Dr (y.ok r).LD Nk;have hx0:=l;rw[Ip,Bx,AAg]at l;simp only[Au]at l;split at l
           . rename_i I3 D1;split at l
             . rename_i cc Bo;simp only[AAh]at l;subst l;obtain⟨RO,arr,E,q8,Qx⟩:=Pz hokx hb;have hold:=Qx i j I3 cc D1 Bo;have hr:=run12 hp' q8 hold hsv';obtain⟨t,F',Hf,Pl,hsubF,V,hFr⟩:=(y.ok r).store p Bx D1 Bo hb (new:=.lf .dead (.slice C m c)) (Fn:=λ_=>False) (.lf _ _ _ trivial (λ_ h=>h)) (λ_ h=>h.elim);simp only[Kh]at Pl;have V2:∀x,x≠b->(w.setCell ⟨b,i*k+j,none⟩ (.slice C m c)).heap[x]? =w.heap[x]? :=λx l=>DK _ _ _ _ _ l;have hbS:¬S b:=(y.ok r).E7 b hFr;have fO:∃v0,cc= .lf .dead v0:=by
                cases cc with
                |lf a0 v0=>simp only[Ei]at hxe;subst hxe;exact⟨v0,rfl⟩
                |own=>simp at hxe
                |agg=>simp at hxe
                |BM=>simp at hxe
               obtain⟨v0,rfl⟩:=fO;have hter:t.er=(δ r).er:=(by obtain⟨t2,q1,q2⟩:=HS (d:=δ r) (p:=p++[(i,j,k)]) (a:=(δ r).er) (.lf .dead (.slice C m c)) (y.ok r).LD (by rw[Ei];exact put_same _ ((sub_k p k 0).trans Nk));rw[Hf]at q1;obtain rfl:=AAl q1;exact q2);have oJ:∀x,F' x->Fr r x:=λx l=>(hsubF x l).elim id False.elim;have Ry:∀q v bx k rows,Au (δ r) q=some (.own v bx k rows)->∃M,Au t q=some (.own v bx k M):=λq v' fN k' M hq=>(by have hold2:Au (δ r) (p++[(i,j,k)])=some (.lf .dead v0):=(by rw[Ip,Bx];simp[Au,D1,Bo]);exact Rh _ Hf hold2 (by simp) (by simp) (by simp) q v' fN k' M hq);have hpoke:=y.poke (w':=w.setCell ⟨b,i*k+j,none⟩ (.slice C m c)) r t F' (λx l=>V2 x (by rintro rfl;exact hbS l)) (λs J x l=>V2 x (by rintro rfl;exact J (y.MT s r _ l hFr))) Pl
                (λs J x l hy=>J (y.MT s r x hy (oJ x l))) (by rw[hter];exact y.rt r) (My _ Hf (y.al r) (.lf _ _ trivial)) Ry V
               refine yD D g1 hr ⟨⟨_,⟨S,DZ δ r t,DZ Fr r F',?_,?_,?_,?_,hpoke,Eu.trans ?_,λx l=>by simpa using C8 x l⟩,rfl⟩,λ_=>⟨b,i*k+j,arr.setIfInBounds (i*k+j) (.slice C m c),E,?_,Rg _ _ _ _ _ _ _ q8,?_⟩⟩
               . rw[g2];exact hn
               . rw[g2];exact EO
               . intro s';rw[g2];simp only[Act.put];by_cases e:s'=r
                 . subst e;rw[BI,V];exact ha s'
                 . rw[Ba _ _ e];exact ha s'
               . funext s';by_cases e:s'=r
                 . subst e;simp only[BI,hter]
                 . simp only[Ba _ _ e]
               . refine⟨rfl,rfl,rfl,by simp,λx _ hU=>V2 x (by rintro rfl;exact hU ⟨r,hFr⟩),λ_ h=>h,λ_ h=>.inl h,λF x l=>by simpa using F x l,λx l=>.inl ?_⟩;obtain⟨s,l⟩:=l;by_cases e:s=r
                 . subst e;rw[BI]at l;exact⟨s,oJ x l⟩
                 . rw[Ba _ _ e]at l;exact⟨s,l⟩
               . rw[g2];exact hp'
               . rw[g2];simp only[Act.put,hsv']
                 have:=(ABN.1 hold).1;simp[this]
             . cases l
           . cases l
         . cases H
       . cases H
     . exact R.elim
   . simp only[hZ,AAp e,AAi,ABE,ABX]at O;obtain⟨hco,O⟩:=O;have hK:=Is hG IX hco R Q D;have hLe:(L f.i12||f.i12==i)=L f.i12:=(by rw[show(f.i12==i)=false from by simpa using Ne.symm e,Bool.or_false]);rcases O with hb|⟨⟨⟨oM,Nl⟩,hd⟩,O⟩
     . -- ahead of it
       refine wpOp_mono (λa' w' h=>⟨h,λF=> ?_⟩) hK;replace F:=hLe.symm.trans F;rw[L12 i hb F]at hLi;cases hLi
     . split at O
       . -- the element's store
         rename_i e9;subst e9;simp only[AAi,ABX]at O;obtain⟨⟨⟨k1,k2⟩,k3⟩,k4⟩:=O;obtain⟨dst,rN,g⟩:=io;simp only at Nl k2 k3;subst Nl;subst k2;split at k3
         . rename_i nn s' z ty' x' u' oP;simp only[AAi,AAw]at k3;obtain⟨⟨⟨rfl,m2⟩,m3⟩,m4⟩:=k3;obtain⟨w',b9,off,hr,lR,hp9⟩:∃w' b off,(execOp a.eval o).run P w= .ok .skip w'/\(∀x,x≠b->w'.heap[x]? =w.heap[x]?)/\a.tmps.getD f.e undef= .pointer (some ⟨b,off,none⟩):=by
            obtain⟨S,δ,Fr,hn,EO,ha,rfl,y,Eu,C8⟩:=IX;simp only[K3,EK]at R;split at R
            . rename_i υ H;exact st_frame y ha oP m2 m3 m4 H
            . exact R.elim
           refine wpOp_mono ?_ (p8 D oM hr hK);rintro a' w1 ⟨⟨σ',bG,rfl⟩,rfl,rfl⟩;rw[k1]at bG ⊢;simp only[Act.put]at bG ⊢;refine⟨⟨_,bG,rfl⟩,λF=> ?_⟩;replace F:=hLe.symm.trans F;obtain⟨b,oo,arr,E,j1,j2,j3⟩:=hJ F;refine⟨b,oo,arr,E,j1,?_,j3⟩;rw[lR b ?_];exact j2;rintro rfl;obtain⟨S',δ',Fr',vR,hdef',ha',rfl,Kn,hnx',VP⟩:=bG;obtain⟨r1,p1',i1,j1',k1',q1,q2⟩:=zW (σ:=λs=>(δ' s).er) (adr8 (L:=λj=>(L j||j==f.i9)) (σ:=λs=>(δ' s).er) (by simp[Km _ k4]) (hτs f.e));obtain⟨r2,p2',i2,j2',k2',q3,q4⟩:=zW (σ:=λs=>(δ' s).er) (adr11 (L:=λj=>(L j||j==f.i9)) (σ:=λs=>(δ' s).er) (by simp[L12 _ b11 F]) (hτs f.ap));obtain⟨v1,bx1,rw1,c1,F1,s1,s2,s3,s4,s5⟩:=Kn.EL q2;obtain⟨v2,bx2,rw2,c2,F2,t1,t2,t3,t4,t5⟩:=Kn.EL q4;have z1:b=c1:=(by have:=(ha' f.e).symm.trans hp9;rw[s3]at this;simp only[Value.pointer.injEq,AAh,Addr.mk.injEq]at this;exact this.1.symm);have z2:b=c2:=(by have:=(ha' f.ap).symm.trans j1;rw[t3]at this;simp only[Value.pointer.injEq,AAh,Addr.mk.injEq]at this;exact this.1.symm);have hr12:=Kn.MT r1 r2 b (s5 b (by rw[z1];exact(Pz s4 s2).1)) (t5 b (by rw[z2];exact(Pz t4 t2).1));subst hr12;have u1:=Kn.rt f.e;have u2:=Kn.rt f.ap;rw[q1]at u1;rw[q3]at u2;simp only[XA,AA3]at u1 u2
           have:=hdj _ u1;simp[u2]at this
         . cases k3
       . -- a plain one
         rename_i e9;have X:=hco;simp only[HN,AAi]at X;have hcop2:Jn P o.op io.op=true:=by have:=X.2;cases IL:io.op<;>rw[IL]at this O<;>first|exact this|simp[aW]at O
         obtain⟨v,hv⟩:∃v,valOf io.op σ=some v:=by
          obtain⟨dst,rN,g⟩:=io;simp only at Nl O;subst Nl;cases dst with
          |none=>cases rN<;>simp[aW]at O<;>simp[K3,EK,Gn]at R
          |some d=>
           simp only[K3]at R;cases hv:valOf rN σ with
           |some v=>exact⟨v,rfl⟩
           |none=>cases rN<;>simp[aW]at O<;>simp[EK,Gn,hv]at R
         obtain⟨u,hr⟩:=fl_run IX hcop2 O hv;have W:Dz G n o.dst io.dst=true:=X.1.1;refine lL D oM hr (λF=> ?_) hK;replace F:=hLe.symm.trans F;obtain⟨b,oo,arr,E,j1,j2,j3⟩:=hJ F;have Hf:∀s,(match io.dst with|some d=>d.d≠s|none=>True)->(a.put o.dst u).tmps.getD s undef=a.tmps.getD s undef:=by
          intro s J;cases yW:o.dst with
          |none=>rfl
          |some t=>
           cases rF:io.dst with
           |none=>rw[yW,rF]at W;simp[Dz]at W
           |some d=>rw[yW,rF]at W;rw[rF]at J;simp only[Dz,AAi,AAw]at W;have ht:t=d.d:=W.1.1.1;simp only[Act.put,AA4,ABh];rw[AAp (by rw[ht];exact J)]
         refine⟨b,oo,arr,E,?_,j2,?_⟩
         . rw[Hf];exact j1;cases rF:io.dst with
           |none=>trivial
           |some d=>rw[rF]at hd;simp only[AAi,bne_iff_ne]at hd;exact hd.2
         . rw[Hf];exact j3;cases rF:io.dst with
           |none=>trivial
           |some d=>rw[rF]at hd;simp only[AAi,bne_iff_ne]at hd;exact hd.1
end Go.Abs
namespace Go.Abs
variable {w w':World} {S S':Nat->Prop} {G:Gi} {δ:Nat->DV} {Fr:Nat->Nat->Prop} {P:Program}
theorem xY {t e new:DV} (p:List Step) (d:Di t p new=some e):Au e p=some new:=by
 induction p generalizing t e with
 |nil=>simp only[Di,AAh]at d;subst d;rfl
 |cons s p ih=>
  obtain⟨i0,j0,f⟩:=s;cases t with
  |lf a v=>simp[Di]at d
  |own hh b k1 Ju=>
   simp only[Di]at d;cases hi:Ju[i0]? with
   |none=>simp[hi]at d
   |some row1=>
    simp only[hi]at d;cases hj:row1[j0]? with
    |none=>simp[hj]at d
    |some c=>
     simp only[hj]at d;cases hc:Di c p new with
     |none=>simp[hc]at d
     |some c'=>simp only[hc,AAh]at d;subst d;simp only[Au,AAk (AAj.1 hi).1,AAk (AAj.1 hj).1];exact ih hc
  |agg cs=>
   simp only[Di]at d;cases hj:cs[j0]? with
   |none=>simp[hj]at d
   |some c=>
    simp only[hj]at d;cases hc:Di c p new with
    |none=>simp[hc]at d
    |some c'=>simp only[hc,AAh]at d;subst d;simp only[Au,AAk (AAj.1 hj).1];exact ih hc
  |BM cs=>
   simp only[Di]at d;cases hj:cs[j0]? with
   |none=>simp[hj]at d
   |some c=>
    simp only[hj]at d;cases hc:Di c p new with
    |none=>simp[hc]at d
    |some c'=>simp only[hc,AAh]at d;subst d;simp only[Au,AAk (AAj.1 hj).1];exact ih hc
theorem VA {t:DV} (n d:Nat) (q:List Step) {v:Value} (h:Au t q=some (.lf .dead v)):Au (Gd n d t) q=some (.lf .dead v):=by
 induction q generalizing t with
 |nil=>simp only[Au,AAh]at h;subst h;rfl
 |cons s q ih=>
  obtain⟨i,j,e⟩:=s;cases t with
  |lf a v=>simp[Au]at h
  |own hh b k1 Ju=>rw[MC];exact h
  |agg cs=>
   simp only[Au]at h;cases hj:cs[j]? with
   |none=>simp[hj]at h
   |some c=>simp only[hj]at h;simp only[Kq,Au,AAt,hj,AA9];exact ih h
  |BM cs=>
   simp only[Au]at h;cases hj:cs[j]? with
   |none=>simp[hj]at h
   |some c=>simp only[hj]at h;simp only[Kr,Au,AAt,hj,AA9];exact ih h
theorem St.tkd (h:St G w S δ Fr) {r:Nat} {p:List Step} {a:AV} {τ:Sg} (g:Abs.Z7 G r p (λs=>(δ s).er)=some (a,τ)):
 ∃f l D Ff,St G w S f l/\(λs=>(f s).er)=τ/\(∀s,(f s).A0=(δ s).A0)/\Ok w S D Ff/\D.er=a/\Au (δ r) p=some D/\(∀s x,l s x->¬Ff x)/\
  (∀x,BE l x∨Ff x->BE Fr x)/\Au (f r) p=some (.lf .dead D.A0):=by
 unfold Abs.Z7 at g;split at g
 . rename_i b k rows J;split at g
   . rename_i t I;simp only[AAh,AAv]at g;obtain⟨rfl,rfl⟩:=g;obtain⟨D,q,z⟩:=Dr (h.ok r).LD J;obtain⟨B,H,m,C⟩:=h.kK r p q;obtain⟨K,l,j,v,n,y⟩:=C S (.lf .dead D.A0) (by simp) (.lf _ _ _ trivial (λ_ h=>h)) (λ_ h=>h) (λt b F _=>(h.ok t).E7 b F) (by simp) (Dd.dead _);have L:K.er=t:=(by obtain⟨M,o,E⟩:=HS (d:=δ r) (p:=p) (a:=t) (.lf .dead D.A0) (h.ok r).LD (by simpa using I);rw[j]at o;obtain rfl:=AAl o;exact E);refine⟨_,_,D,B,v,by rw[OI h,L],?_,H,z,q,?_,?_,by rw[BI];exact xY p j⟩
     . intro s;rw[NG h];split
       . rename_i e;rw[e,y]
       . rfl
     . intro s x c u;by_cases i:s=r
       . subst i;rw[BI]at c;exact((n x).1 c).2 u
       . rw[Ba _ _ i]at c;exact i (h.MT s r x c (m x u))
     . rintro x (⟨s,c⟩|c)
       . by_cases i:s=r
         . subst i;rw[BI]at c;exact⟨s,((n x).1 c).1⟩
         . rw[Ba _ _ i]at c;exact⟨s,c⟩
       . exact⟨r,m x c⟩
   . cases g
 . cases g
theorem OkL_two {l:List DV} {D E:DV} {F H:Nat->Prop} (e:Ok w S D F) (g:∀d∈l,Ok w S d (λ_=>False)) (f:Ok w S E H) (a:∀x,F x->¬H x):Jm w S (D::(l++[E])) (λx=>F x∨H x):=by
 have c:Jm w S [E] H:=⟨H,λ_=>False,f,CC (by simp),λ_ _ h=>h,λx=>by simp⟩;have b:Jm w S (l++[E]) H:=(Lt (CC g) c (λ_ h=>h.elim)).congr λx=>by simp
 exact⟨F,H,e,b,a,λx=>AB7⟩
theorem lb_sound {n:Nat} {w0:World} {S0 U0:Nat->Prop} (hG:ZX w0 S0 U0) {a:Act} {σ:Sg} (h:Rel G n w0 S0 U0 a w σ) {o:Oper} {d:AB8 Dn} {f:Nat} {x y:Ar} {Th:List Ar} {K:Sg->Prop}
 (Pg:KF P o.op f (x::(Th++[y])) 0=true) (iY:Dz G n o.dst d=true) (I:lbP P G d f x Th y K σ) (Q:Exit->Act->World->Prop):
 o.wp P a w (λa' w'=>∃σ',Rel G n w0 S0 U0 a' w' σ'/\K σ') Q:=by
 obtain⟨S,δ,Fr,hn,EO,ha,rfl,CJ,Eu,C8⟩:=h;obtain⟨cc,fn,ho,Mb,hf,hfb,hfn,hm3,TS⟩:=Li Pg;have hd:=Ee iY hn;obtain⟨x0,xs,y0,GM,hx0,hxs,hy0⟩:∃x0 xs y0,cc.args.toList=x0::(xs++[y0])/\CM x0 x=true/\G3 xs Th=true/\CM y0 y=true:=by
  generalize cc.args.toList=l at TS;cases l with
  |nil=>simp[G3]at TS
  |cons x0 l=>
   simp only[G3,AAi]at TS;obtain⟨j,C⟩:=TS;clear Pg I;obtain⟨xs,y0,e,h3,h4⟩:∃xs y0,l=xs++[y0]/\G3 xs Th=true/\CM y0 y=true:=by
    induction Th generalizing l with
    |nil=>
     cases l with
     |nil=>simp[G3]at C
     |cons y0 l=>
      simp only[List.nil_append,G3,AAi]at C;cases l with
      |nil=>exact⟨[],y0,rfl,rfl,C.1⟩
      |cons=>simp[G3]at C
    |cons z Th ih=>
     cases l with
     |nil=>simp[G3]at C
     |cons z0 l=>simp only[ABV,G3,AAi]at C;obtain⟨xs,y0,e,h3,h4⟩:=ih l C.2;exact⟨z0::xs,y0,by simp[e],by simp[G3,C.1,h3],h4⟩
   exact⟨x0,xs,y0,by rw[e],j,h3,h4⟩
 obtain⟨hxo,ex0⟩:=Am hx0 ha;obtain⟨hyo,ey0⟩:=Am hy0 ha;unfold lbP at I;split at I
 case h_2=>exact I.elim
 rename_i u F hp2;split at I
 case h_2=>exact I.elim
 rename_i v τ ZT;obtain⟨b2,k2,W,rfl,rH⟩:∃b2 k2 W,v= .own b2 k2 W/\sub (δ u).er F=some (.own b2 k2 W):=by
  unfold Abs.Z7 at ZT;split at ZT
  . rename_i b2 k2 W C;split at ZT
    . simp only[AAh,AAv]at ZT;exact⟨_,_,_,ZT.1.symm,C⟩
    . cases ZT
  . cases ZT
 obtain⟨m,V,DY,Ff,R,rfl,KH,hokY,hYe,hsubY,bF,TY,Nk⟩:=CJ.tkd ZT;obtain⟨O,q1,q2⟩:=Uw CJ (x:=y) hp2 rH;rw[hsubY]at q1;obtain rfl:=AAl q1;have hargv:∀z,C7 m z=C7 δ z:=by
  intro z;cases z with
  |t s=>exact KH s
  |c c=>rfl
 have ha0:Rd m a:=λs=>(ha s).trans (KH s).symm;split at I
 case h_2=>exact I.elim
 rename_i r p ms hp hmid;split at I
 case h_2=>exact I.elim
 rename_i b k rows hs;unfold lbQ at I;obtain⟨Pk,res,out,Jq,Pf,HP,Hf⟩:=I;split at Hf
 case h_2=>exact Hf.elim
 rename_i t hput1;split at Hf
 case h_2=>exact Hf.elim
 rename_i t2 Z;have hK:=Hf;obtain⟨Ao,hD,Fk⟩:=Uw R (x:=x) hp hs;obtain⟨Fo,Zj,Bx,NL⟩:=(R.ok r).replace p hD;obtain⟨Ds,p1,p3,p4⟩:=SV R ha0 Th hxs hmid;have hFoF:∀x,Fo x->¬Ff x:=λx h=>bF r x (Bx x h);have Gs:=Jq w S (.own (C7 m x) b k Ao::(Ds++[.own (C7 δ y) b2 k2 O])) (λx=>Fo x∨Ff x) (hG.now Eu) (by rw[AAy,ABL,p1,Fk,List.map_singleton,hYe]) (A8.2 (OkL_two Zj p4 hokY hFoF)) C8;have Xw:(List.map DV.A0 (.own (C7 m x) b k Ao::(Ds++[.own (C7 δ y) b2 k2 O])))=cc.args.toList.map a.eval:=by rw[GM];simp[p3,ex0,ey0,hargv]
 unfold Oper.wp;rw[UK ho Mb hf hfb hfn,Oper.upon_enter,← Xw];refine Gs.mono ?_;rintro e w' ⟨rD,os,S',F',rfl,SA,hoe,yV,Cj,EX,MU,q7,K8,Xu⟩;obtain⟨Fa,Fb,hra',hosk,hdab,Qw⟩:=A8.1 Cj;obtain⟨oX,os1,M,rfl,H,hYe',hXa,hYa⟩:∃oX os1 M,os=oX::(os1++[M])/\oX.er=out/\M.er= .own b2 k2 W/\oX.A0=C7 m x/\M.A0=C7 δ y:=by
  cases os with
  |nil=>simp at hoe
  |cons oX l=>
   simp only[AAy,List.cons.injEq]at hoe yV;obtain⟨e1,e2⟩:=hoe;obtain⟨l1,l2,rfl,e3,e4⟩:=List.map_eq_append_iff.1 e2;obtain⟨M,rfl,e5⟩:∃M,l2=[M]/\M.er= .own b2 k2 W:=by
    cases l2 with
    |nil=>simp at e4
    |cons M l3=>simp only[AAy,List.cons.injEq,List.map_eq_nil_iff]at e4;exact⟨M,by rw[e4.2],e4.1⟩
   refine⟨oX,l1,M,rfl,e1,e5,by simpa using yV.1,?_⟩
   have:=yV.2;rw[ABL,ABL]at this
   have:=(List.append_inj' this rfl).2;simpa using this
 obtain⟨FX,FR,hoX,hoR,hdXR,RO⟩:=hosk;obtain⟨FY,hoY,X⟩:=zO (l:=os1) (r:=[]) hoR;have D4:∀s x,V s x->x<w.heap.size:=λs x i=>(R.ok s).lt x i;have L:∀x,Fa x∨FX x∨FY x->(Fo x∨Ff x)∨w.heap.size≤x:=λx i=>Xu x ((Qw x).2 (i.imp id λh=>(RO x).2 (h.imp id (X x))))
 -- what a slot owns meets nothing that the call has, but for the lent part
 have rC:∀s x,V s x->¬Fo x->¬(Fa x∨FX x∨FY x):=by
  intro s x i T hh;rcases L x hh with(j|j)|j
  . exact T j
  . exact bF s x i j
  . have:=D4 s x i;omega
 have rJ:∀b,S b->w'.heap[b]? =w.heap[b]? :=λb D=>EX.block b (C8 b D) (λhf=>hf.elim (λh=>Zj.E7 b h D) λh=>hokY.E7 b h D);have oT:∀s b,V s b->¬Fo b->w'.heap[b]? =w.heap[b]? :=λs b D T=>EX.block b (D4 s b D) λhf=>hf.elim T (bF s b D);have hS'n:∀s b,V s b->¬Fo b->¬S' b:=by
  intro s b D T h';rcases q7 b h' with j| (j|j)|j
  . exact(R.ok s).E7 b D j
  . exact T j
  . exact bF s b D j
  . have:=D4 s b D;omega
 have TU:∀s,s≠r->∀x,V s x->¬Fo x:=λs B x i hf=>B (R.MT s r x i (Bx x hf));obtain⟨tD,F2,rI,hokt,IW,Dh⟩:=NL w' S' oX FX (by rw[hXa];simp) hoX (λx i I=>Classical.byContradiction λT=>rC r x I T (.inr (.inl i))) rJ (λb D T=>oT r b D T) MU (λb D T=>hS'n r b D T);have vX:tD.er=t:=by obtain⟨t',j,C⟩:=HS (d:=m r) (p:=p) (a:=t) oX (R.ok r).LD (by rw[H];exact hput1);rw[rI]at j;obtain rfl:=AAl j;exact C
 have hdisr:∀s,s≠r->∀x,F2 x->¬V s x:=by
  intro s B x i E;rcases(IW x).1 i with⟨j,_⟩|j
  . exact B (R.MT s r x E j)
  . exact rC s x E (TU s B x E) (.inr (.inl j))
 have hbX:Ib oX.er=true:=by rw[H];exact Pf
 generalize hN:Te out b k p=N at hK Z;have hab:∀q v' bx k' J,q.length<N->Au (m r) q=some (.own v' bx k' J)->∃W,Au tD q=some (.own v' bx k' W):=by
  intro q v' bx k' J hq hsq;subst hN;unfold Te at hq;split at hq
  . rename_i b1 k1 Ju;split at hq
    . rename_i e;obtain⟨rfl,rfl⟩:=e;refine Nu q p (by omega) rI (λ_ v2 bx2 k2 W C=> ?_) hsq;rw[hD]at C;cases C;cases oX with
      |own hh b2 k2 W=>simp only[Et,AV.own.injEq]at H;obtain⟨rfl,rfl,_⟩:=H;simp only[Kz]at hXa;exact⟨W,by rw[hXa]⟩
      |lf a v=>simp only[Ei]at H;subst H;cases hoX with|lf _ _ _ h=>exact h.elim
      |agg=>simp at H
      |BM=>simp at H
    . omega
  . omega
 have U:St G w' S' (DZ (EY G N r m) r tD) (DZ V r F2):=
  R.setn N r tD F2 rJ (λs B x i=>oT s x i (TU s B x i)) MU (λs B x i=>hS'n s x i (TU s B x i)) hokt hdisr (MH p rI (R.rt r) (OD hbX)) (My p rI (R.al r) (Ui hbX)) hab
 have Rx:(λs=>(DZ (EY G N r m) r tD s).er)=DZ (Fq G N r λs=>(m s).er) r t:=by
  funext s;unfold DZ;split
  . exact vX
  . exact R.Ql N r s
 have Ml:∀s,(DZ (EY G N r m) r tD s).A0=(m s).A0:=by
  intro s;unfold DZ;split
  . rename_i e;rw[e,Dh]
  . exact R.MD N r s
 have W0:Au (DZ (EY G N r m) r tD u) F=some (.lf .dead (C7 δ y)):=by
  rw[Ba _ _ (Ne.symm Pk)];unfold EY;have Nk:Au (m u) F=some (.lf .dead (C7 δ y)):=by simpa using Nk
  split
  . exact VA N r F Nk
  . exact Nk
 generalize hδ2:DZ (EY G N r m) r tD=δ2 at U Rx Ml W0;have Xv:∀s x,DZ V r F2 s x->¬(Fa x∨FY x):=by
  intro s x i E;have key:FX x->False:=λhX=>by
   rcases E with E|E
   . exact hdab x E ((RO x).2 (.inl hX))
   . exact hdXR x hX (X x E)
  by_cases B:s=r
  . subst B;rw[BI]at i;rcases(IW x).1 i with⟨j,C⟩|j
    . exact rC s x j C (E.imp id .inr)
    . exact key j
  . rw[Ba _ _ B]at i;exact rC s x i (TU s B x i) (E.imp id .inr)
 have hO2:∀s x,DZ V r F2 s x->BE Fr x∨w.heap.size≤x:=by
  intro s x i;have up:V s x->BE Fr x∨w.heap.size≤x:=λh=>.inl (TY x (.inl ⟨s,h⟩));by_cases B:s=r
  . subst B;rw[BI]at i;rcases(IW x).1 i with⟨j,_⟩|j
    . exact up j
    . exact(L x (.inr (.inl j))).imp (λh=>TY x (h.imp (λh=>⟨s,Bx x h⟩) id)) id
  . rw[Ba _ _ B]at i;exact up i
 generalize DZ V r F2=G2 at U Xv hO2;obtain⟨Fd,hokd,hsubd,hrepd⟩:=(U.ok u).replace F W0;obtain⟨tE,F3,htE,hokE,hiffE,hannE⟩:=hrepd w' S' M FY (by rw[hYa];simp) hoY (λx i I=>(Xv _ x I (.inr i)).elim) (λ_ _=>rfl) (λ_ _ _=>rfl) (λ_ h=>h) (λb D _=>(U.ok u).E7 b D);have hteE:tE.er=t2:=by obtain⟨t',j,C⟩:=HS (d:=δ2 u) (p:=F) (a:=t2) M (U.ok u).LD (by rw[hYe',← Z];exact AB6 (λg=>put (g u) F _) Rx);rw[htE]at j;obtain rfl:=AAl j;exact C
 have hbY:Ib M.er=true:=by rw[hYe'];rfl
 have hF3:∀x,F3 x->G2 u x∨FY x:=λx i=>((hiffE x).1 i).imp (λh=>h.1) id;have hst3:St G w' S' (DZ (EY G F.length u δ2) u tE) (DZ G2 u F3):=
  U.setn F.length u tE F3 (λ_ _=>rfl) (λ_ _ _ _=>rfl) (λ_ h=>h) (λs _ x i=>(U.ok s).E7 x i) hokE
   (λs B x i E=>(hF3 x i).elim (λh=>B (U.MT s u x E h)) λh=>Xv s x E (.inr h)) (MH F htE (U.rt u) (OD hbY)) (My F htE (U.al u) (Ui hbY))
   λq v' bx k' J hq hsq=>Nu q F (by omega) htE (λe=>absurd e (by omega)) hsq
 have her3:(λs=>(DZ (EY G F.length u δ2) u tE s).er)=DZ (Fq G F.length u (DZ (Fq G N r λs=>(m s).er) r t)) u t2:=by
  rw[← Rx];funext s;unfold DZ;split
  . exact hteE
  . exact U.Ql F.length u s
 have hann3:∀s,(DZ (EY G F.length u δ2) u tE s).A0=(δ s).A0:=by
  intro s;rw[← KH s,← Ml s];unfold DZ;split
  . rename_i e;rw[e,hannE]
  . exact U.MD F.length u s
 have hdisD:∀s x,DZ G2 u F3 s x->¬Fa x:=by
  intro s x i E;by_cases B:s=u
  . subst B;rw[BI]at i;exact(hF3 x i).elim (λh=>Xv s x h (.inl E)) λh=>hdab x E ((RO x).2 (.inr (X x h)))
  . rw[Ba _ _ B]at i;exact Xv s x i (.inl E)
 have D8:∀x,(Fo x∨Ff x)->BE Fr x:=λx h=>TY x (h.imp (λh=>⟨r,Bx x h⟩) id);have hOwn3:∀x,BE (DZ G2 u F3) x->BE Fr x∨w.heap.size≤x:=by
  rintro x ⟨s,i⟩;by_cases B:s=u
  . subst B;rw[BI]at i;exact(hF3 x i).elim (hO2 s x) λh=>(L x (.inr (.inr h))).imp (D8 x) id
  . rw[Ba _ _ B]at i;exact hO2 s x i
 have HK:∀F4:Nat->Nat->Prop,(∀x,BE F4 x->BE (DZ G2 u F3) x∨Fa x)->Nx w0 S0 U0 w' S' (BE F4):=by
  intro F4 hF4;refine Eu.trans ⟨EX.os,EX.tape,EX.output,EX.size,λb D T=>EX.block b D λhf=>T (D8 b hf),MU,λb D=>(q7 b D).imp id (Or.imp (D8 b) id),λ_=>K8,λx i=> ?_⟩;rcases hF4 x i with j|j
  . exact hOwn3 x j
  . exact(L x (.inl j)).imp (D8 x) id
 rw[← her3]at hK;have RP:Rd (DZ (EY G F.length u δ2) u tE) a:=λs=>(ha s).trans (hann3 s).symm;simp only;cases d with
 |none=>
  have h0:o.dst=none:=hd;refine⟨_,⟨S',_,_,?_,?_,?_,rfl,hst3,HK _ (λx i=>.inl i),K8⟩,hK⟩
  . rw[h0];exact hn
  . rw[h0];exact EO
  . rw[h0];exact RP
 |some d=>
  simp only[C3]at hK;split at hK
  . rename_i τ' Mo;obtain⟨j,C,h3,h4⟩:=hd;rw[← SA]at Mo;obtain⟨δ',F5,Kn,JU,RQ,X5⟩:=hst3.wr C h3 (λ_ _=>rfl) (λ_ _ _=>rfl) (λ_ h=>h) (λs x i=>(hst3.ok s).E7 x i) hra' hdisD (Xf hra' (by rw[SA];exact HP)) Mo;refine⟨τ',⟨S',δ',F5,?_,?_,?_,JU,Kn,HK F5 X5,K8⟩,hK⟩
    . rw[j];simpa[Act.put]using hn
    . rw[j];simpa[Act.put]using EO
    . intro s;rw[j,I1 a d.d rD.A0 h4 s,RQ s];split
      . rfl
      . exact RP s
  . exact hK.elim
end Go.Abs
namespace Go.Abs
variable {P:Program} {G:Gi}
theorem HZ {d:AB8 Dn} {v:AV} {K b:Sg->Prop} {τ:Sg} (h:∀σ,K σ->b σ) (a:C3 d v K τ):C3 d v b τ:=by
 unfold C3 at*;split at a
 . split at a
   . exact h _ a
   . exact a.elim
 . exact h _ a
theorem PV {o:BN} {K a:Sg->Prop} {σ:Sg} (h:∀σ,K σ->a σ) (d:K3 P G o K σ):K3 P G o a σ:=by obtain⟨τ,b,c⟩:=PW.1 d;exact PW.2 ⟨τ,b,h _ c⟩
theorem Qd {K a:Sg->Prop} (h:∀σ,K σ->a σ):∀{os:List BN} {σ:Sg},OA P G os K σ->OA P G os a σ
 |[],_,ht=>h _ ht
 |_::_,_,ht=>PV (λ_ b=>Qd h b) ht
theorem K4 {K k:Sg->Prop} (h:∀σ,K σ->k σ):∀{c:List gD} {σ:Sg},Lh P G c K σ->Lh P G c k σ
 |[],_,a=>h _ a
 | .o _::_,_,a=>PV (λ_ i=>K4 h i) a
 | .Tl d neg x::c,σ,a=>by
  simp only[Lh]at a ⊢;split at a
  . split at a
    . exactλb B=>HZ (λ_ i=>K4 h i) (a b B)
    . exact a.elim
  . exact a.elim
 | .gld d g n::c,σ,a=>by
  simp only[Lh]at a ⊢;split at a
  . exact HZ (λ_ i=>K4 h i) a
  . exact a.elim
 | .bxv d n s::c,σ,a=>by
  simp only[Lh]at a ⊢;split at a
  . exact⟨a.1,λD C=>HZ (λ_ i=>K4 h i) (a.2 D C)⟩
  . exact a.elim
 | .lb d f x Th y::c,σ,a=>by
  have q:∀τ,Lh P G c K τ->Lh P G c k τ:=λ_ i=>K4 h i;simp only[Lh,lbP]at a ⊢;split at a
  case h_2=>exact a.elim
  split at a
  case h_2=>exact a.elim
  split at a
  case h_2=>exact a.elim
  split at a
  case h_2=>exact a.elim
  unfold lbQ at a ⊢;obtain⟨r,j,out,w,l,z,m⟩:=a;refine⟨r,j,out,w,l,z,?_⟩;split at m
  case h_2=>exact m.elim
  split at m
  case h_2=>exact m.elim
  exact HZ q m
 | .clo d f x args g::c,σ,a=>by
  have q:∀τ,Lh P G c K τ->Lh P G c k τ:=λ_ i=>K4 h i;have t:nQ P d f x args (Lh P G c K) σ->nQ P d f x args (Lh P G c k) σ:=by
   unfold nQ;intro a;split at a
   . obtain⟨j,r,l⟩:=a;refine⟨j,r,?_⟩;split at l
     . exact HZ q l
     . exact l.elim
   . exact a.elim
  have u:ZF d (Lh P G c K) σ->ZF d (Lh P G c k) σ:=by cases d<;>exact q _
  show gdP g _ _ σ;have a:gdP g _ _ σ:=a;cases g with
  |none=>exact t a
  |some g=>
   obtain⟨g,p⟩:=g;simp only[gdP]at a ⊢;cases hg:σ g with
   |sc v=>
    cases v with
    |bool b=>
     rw[hg]at a;by_cases e:b=p
     . simp only[AAs e]at a ⊢;exact t a
     . simp only[AAp e]at a ⊢;exact u a
    |_=>rw[hg]at a;exact a.elim
   |un=>rw[hg]at a;exact u a
   |_=>rw[hg]at a;exact a.elim
theorem XU {f:yM} {K a:Sg->Prop} (h:∀σ,K σ->a σ):∀{os:List BN} {m:Nat} {σ:Sg},Ol P G f m os K σ->Ol P G f m os a σ
 |[],_,_,ht=>⟨ht.1,h _ ht.2⟩
 |_::_,_,_,ht=>⟨ht.1,PV (λ_ b=>XU h b) ht.2⟩
theorem XT {f:yN} {K a:Sg->Prop} (h:∀σ,K σ->a σ):∀{os:List BN} {σ:Sg},RK P G f os K σ->RK P G f os a σ
 |[],_,ht=>h _ ht
 |_::_,_,ht=>⟨ht.1,PV (λ_ b=>XT h b) ht.2⟩
def goA:Exit->Bool
 | .goto _=>true
 |_=>false
theorem aN {ic:IC}:∀{Q k:Exit->Sg->Prop} {σ:Sg},(∀e σ,goA e=false->Q e σ->k e σ)->ID P G ic Q σ->ID P G ic k σ:=by
 induction ic with
 |skip=>exactλh d=>h _ _ rfl d
 |bad=>exactλ_ d=>d
 |Wc xs=>exactλh d=>K4 (λσ=>h .normal σ rfl) d
 |PR ops=>exactλh d=>Qd (λσ=>h .normal σ rfl) d
 |aY fs ops=>exactλh d=>Qd (λσ=>h .normal σ rfl) d
 |flo f a b=>exactλh d=>XT (λ_ l=>Qd (λσ=>h .normal σ rfl) l) d
 |apd f ops=>intro Q k σ h d;exact XU (λ_ l=>PV (λσ=>h .normal σ rfl) l) d
 |pg _ r p a SB=>
  intro Q k σ h d;refine SB (λe σ' j g=> ?_) d;cases e with
  |normal=>
   simp only[pgQ]at g ⊢;split at g
   . exact h _ _ j g
   . exact g.elim
  |_=>exact h _ _ j g
 |gz _ r p a SB=>
  intro Q k σ h d;simp only[ID]at d ⊢;split at d
  . exact SB h d
  . exact d.elim
 |seq a b SB ihb=>
  intro Q k σ h d;refine SB (λe σ' j g=> ?_) d;cases e with
  |normal=>exact ihb h g
  |_=>exact h _ _ j g
 |cond c a b SB ihb=>
  intro Q k σ h d;rw[gU]at d ⊢;split at d
  . split at d
    . rename_i l;simp only[l,AA5];exact SB h d
    . rename_i l;simp only[l];exact ihb h d
  . exact d.elim
 |block id a SB=>
  intro Q k σ h d;refine SB (λe σ' j g=> ?_) d;cases e with
  |exit i=>
   rw[PY]at g ⊢;split
   . rename_i hi;rw[AAs hi]at g;exact h _ _ j g
   . rename_i hi;rw[AAp hi]at g;exact h _ _ j g
  |_=>exact h _ _ j g
 |loop a SB=>
  intro Q k σ h d;obtain⟨I,m,q⟩:=d;refine⟨I,m,λn τ o=>SB (λe σ' j g=> ?_) (q n τ o)⟩;cases e with
  |normal=>exact g
  |_=>exact h _ _ j g
 |exit id=>exactλh d=>h _ _ rfl d
 |ret=>exactλh d=>h _ _ rfl d
theorem gV {ic:IC} {Q a:Exit->Sg->Prop} {σ:Sg} (h:∀e σ,Q e σ->a e σ):ID P G ic Q σ->ID P G ic a σ:=aN λe σ _=>h e σ
end Go.Abs
namespace Go.Abs
variable {w w':World} {S S':Nat->Prop} {G:Gi} {δ:Nat->DV} {Fr:Nat->Nat->Prop} {P:Program}
def iG (P:Program) (G:Gi) (n:Nat) (ops:Array Oper) (o:Oper):gD->Bool
 | .o io=>HN P G n ops o io
 | .Tl d neg x=>o.guard.isNone&&Dz G n o.dst (some d)&&nN P o.op neg x
 | .gld d g m=>o.guard.isNone&&Dz G n o.dst (some d)&&nL P o.op g m
 | .bxv d m s=>o.guard.isNone&&Dz G n o.dst (some d)&&nH P o.op m s
 | .lb d f x Th y=>o.guard.isNone&&Dz G n o.dst d&&KF P o.op f (x::(Th++[y])) 0
 | .clo d f x args g=>K5 n ops o.guard g&&Dz G n o.dst d&&nI P o.op f x args
def aT (P:Program) (G:Gi) (n:Nat) (ops:Array Oper):List Oper->List gD->Bool
 |[],[]=>true
 |o::os,x::xs=>iG P G n ops o x&&aT P G n ops os xs
 |_,_=>false
theorem gW {n:Nat} {q:World} {j l:Nat->Prop} (u:ZX q j l) {ops:Array Oper} {K:Sg->Prop} (Q:Exit->Act->World->Prop) {k:Nat} {o:Oper} (B:ops[k]? =some o) {x:gD} {z:List gD} {a:Act} {w:World} {σ:Sg}
 (h:Rel G n q j l a w σ) (c:iG P G n ops o x=true/\True) (b:Lh P G (x::z) K σ):wpOp P ops Q k (λp w'=>∃σ',Rel G n q j l p w' σ'/\Lh P G z K σ') a w:=by
 have t:o.guard.isNone=true->o.wp P a w (λp w'=>∃σ',Rel G n q j l p w' σ'/\Lh P G z K σ') Q->wpOp P ops Q k (λp w'=>∃σ',Rel G n q j l p w' σ'/\Lh P G z K σ') a w:=by
  intro N D;unfold wpOp;rw[B];have C:o.guard=none:=by simpa using N
  simp only;rw[AAs (by simp[Region.wanted,C])];exact .inl D
 cases x with
 |o io=>exact Is u h c.1 b Q B
 |Tl d neg x=>
  simp only[iG,AAi]at c;obtain⟨⟨⟨e,g2⟩,i⟩,_⟩:=c;refine t e ?_;simp only[Lh]at b;split at b
  . rename_i T U O;split at b
    . rename_i rows I;exact o5 h i g2 O I b Q
    . exact b.elim
  . exact b.elim
 |lb d f x Th y=>simp only[iG,AAi]at c;obtain⟨⟨⟨e,g2⟩,i⟩,_⟩:=c;exact t e (lb_sound u h i g2 b Q)
 |bxv d m s=>
  simp only[iG,AAi]at c;obtain⟨⟨⟨e,g2⟩,i⟩,_⟩:=c;refine t e ?_;simp only[Lh]at b;split at b
  . rename_i M R;exact uD h i g2 R b.1 b.2 Q
  . exact b.elim
 |clo d f x args g=>
  simp only[iG,AAi]at c;obtain⟨⟨⟨e,g2⟩,i⟩,_⟩:=c;simp only[Lh]at b;refine Pe h g2 e Q (λb=> ?_) (λ_ _ r k=>⟨_,r,k⟩) b B;unfold nQ at b;split at b
  . rename_i L H;obtain⟨S,F,b⟩:=b;split at b
    . rename_i v E;exact uK u h i g2 H F E b Q
    . exact b.elim
  . exact b.elim
 |gld d g m=>
  simp only[iG,AAi]at c;obtain⟨⟨⟨e,g2⟩,i⟩,_⟩:=c;refine t e ?_;simp only[Lh]at b;split at b
  . rename_i M J;exact vH u h i g2 J b Q
  . exact b.elim
theorem uA {n:Nat} {g:World} {e f:Nat->Prop} (s:ZX g e f) {ops:Array Oper} {K:Sg->Prop} (Q:Exit->Act->World->Prop) (t:∀a w σ,Rel G n g e f a w σ->K σ->Q .normal a w) (d:List gD):
 ∀(k:Nat) {a:Act} {w:World} {σ:Sg},Rel G n g e f a w σ->aT P G n ops (ops.toList.drop k) d=true->Lh P G d K σ->wpOps P ops Q (List.range' k (ops.size-k)) a w:=by
 induction d with
 |nil=>
  intro k a w σ h b m;have p:ops.toList.drop k=[]:=by cases hd:ops.toList.drop k with|nil=>rfl|cons o os=>rw[hd]at b;simp[aT]at b
  have q:ops.size≤k:=by simpa using p
  rw[show ops.size-k=0 from by omega];exact t a w σ h m
 |cons x d ih=>
  intro k a w σ h b m;cases hd:ops.toList.drop k with
  |nil=>rw[hd]at b;simp[aT]at b
  |cons o os=>rw[hd]at b;simp only[aT,AAi]at b;have p:k<ops.size:=(by have:(ops.toList.drop k).length=os.length+1:=(by rw[hd];rfl);simp at this;omega);have u:ops[k]? =some o:=(by have:(ops.toList.drop k)[0]? =some o:=(by rw[hd];rfl);simpa using this);have l:ops.toList.drop (k+1)=os:=(by have:(ops.toList.drop k).drop 1=os:=(by rw[hd];rfl);rw[List.drop_drop]at this;exact this);rw[show ops.size-k=(ops.size-(k+1))+1 from by omega,List.range'_succ,wpOps_cons];have c:∀i w',(∃σ',Rel G n g e f i w' σ'/\Lh P G d K σ')->wpOps P ops Q (List.range' (k+1) (ops.size-(k+1))) i w':=(by rintro i w' ⟨σ',r,j⟩;exact ih (k+1) r (by rw[l];exact b.2) j);exact wpOp_mono c (gW s Q u h ⟨b.1,trivial⟩ m)
def G1 (P:Program) (G:Gi) (n:Nat):Code->IC->Bool
 | .skip,.skip=>true
 |_,.bad=>true
 |c,.gz _ _ _ a=>G1 P G n c a
 |c,.pg _ _ _ a=>G1 P G n c a
 | .region _ ops false,.Wc xs=>aT P G n ops ops.toList xs
 | .region _ ops d,.PR Dj=>Lx P G n ops ops.toList Dj&&(!d||Lw G ops.toList Dj)
 | .region _ ops true,.flo f aZ9 bs=>nK P G n f ops (aZ9++bs)&&aZ9.length==f.i2+1
 | .region _ ops true,.aY fs Dj=>nJ P G n fs ops Dj
 | .region _ ops true,.apd f Dj=>nG P G n f ops Dj
 | .seq a b,.seq a' b'=>G1 P G n a a'&&G1 P G n b b'
 | .cond c a b,.cond c' a' b'=>CM c c'&&G1 P G n a a'&&G1 P G n b b'
 | .block id a,.block id' a'=>id==id'&&G1 P G n a a'
 | .loop a,.loop a'=>G1 P G n a a'
 | .exit id,.exit id'=>id==id'
 | .ret,.ret=>true
 | .label _,.skip=>true
 | .scope a,.seq .skip c=>G1 P G n a c
 |_,_=>false
def Qs (m:Nat) (a0 a:Act):Prop:=∀i,i<m->a.tmps.getD i undef=a0.tmps.getD i undef
theorem Qs.refl (m:Nat) (a:Act):Qs m a a:=λ_ _=>rfl
def VJ (m:Nat) (o:Oper):Bool:=match o.dst with
 |some d=>decide (m≤d)
 |none=>true
def Gc (m:Nat):Code->Bool
 | .region _ ops _=>ops.toList.all (VJ m)
 | .seq a b=>Gc m a&&Gc m b
 | .cond _ a b=>Gc m a&&Gc m b
 | .block _ a=>Gc m a
 | .loop a=>Gc m a
 | .scope a=>Gc m a
 |_=>true
theorem Pa (c:Code):Gc 0 c=true:=by
 induction c with
 |region id ops d=>simp only[Gc,AAm];intro o _;unfold VJ;split<;>simp
 |seq a b SB ihb=>simp[Gc,SB,ihb]
 |cond c a b SB ihb=>simp[Gc,SB,ihb]
 |block id a SB=>simp[Gc,SB]
 |loop a SB=>simp[Gc,SB]
 |scope a SB=>simp[Gc,SB]
 |_=>simp[Gc]
def Kept (m:Nat) (a0:Act) (Q:Exit->Act->World->Prop) (e:Exit) (a:Act) (w:World):Prop:=Q e a w/\(e= .outgrown∨Qs m a0 a)
theorem Qs.put {m:Nat} {a0 a:Act} (h:Qs m a0 a) {o:Oper} (b:VJ m o=true) (v:Value):Qs m a0 (a.put o.dst v):=by
 intro i hi;unfold VJ at b;split at b
 . rename_i d hd;simp only[AA1]at b;rw[hd];simp only[Act.put,AA4,ABh];rw[AAp (by omega)]
   have:=h i hi;simpa[AA4]using this
 . rename_i hd;rw[hd];exact h i hi
theorem ZO {ops:Array Oper} {Q:Exit->Act->World->Prop} {m:Nat} {a0:Act} (n:ops.toList.all (VJ m)=true) (l:List Nat):
 ∀(a:Act) (w:World),Qs m a0 a->wpOps P ops Q l a w->wpOps P ops (Kept m a0 Q) l a w:=by
 induction l with
 |nil=>intro a w b h;exact⟨h,.inr b⟩
 |cons i rest ih=>
  intro a w b h;simp only[wpOps]at h ⊢;cases ho:ops[i]? with
  |none=>simp only[ho]at h ⊢;exact ih a w b h
  |some o=>
   simp only[ho]at h ⊢;have g:VJ m o=true:=(by rw[AAm]at n;exact n o (by rw[Array.mem_toList_iff];exact Array.mem_of_getElem? ho));have c:LetsOut Q->LetsOut (Kept m a0 Q):=λ⟨a,w,q⟩=>⟨a,w,q,.inl rfl⟩;by_cases p:Region.wanted o (yielded ops a.tmps)=true
   . simp only[p,AA5]at h ⊢;refine h.imp (λh=> ?_) (λh=>⟨h.1,c h.2⟩);unfold Oper.wp at*;generalize (execOp a.eval o).run P w=r at*;cases r with
     |ok x w'=>
      cases x with
      |value v=>exact ih _ _ (b.put g v) h
      |skip=>exact ih _ _ (b.put g undef) h
      |defer d=>exact ih _ _ (Qs.put (a:={a with defers:=d::a.defers}) (λi hi=>b i hi) g undef) h
      |enter f args=>
       simp only[Oper.upon]at h ⊢;refine Calls.mono h λe k j=> ?_;cases e with
       |returned v=>exact ih _ _ (b.put g v) j
       |panicked chain=>exact⟨j,.inr b⟩
       |outgrown=>exact c j
      |row row args=>simp only[Oper.upon]at h ⊢;exact Rows.mono h λv k j=>ih _ _ (b.put g v) j
      |_=>simp only[Oper.upon]at h
     |halt x w'=>
      cases x with
      |panic v=>simp only[Oper.upon]at h ⊢;exact⟨h,.inr b⟩
      |_=>simp only[Oper.upon]at h
   . simp only[p]at h ⊢;exact ih _ _ (b.put g undef) h
theorem QX {d:Nat} {ops:Array Oper} {Q:Exit->Act->World->Prop} {m:Nat} {a0 a:Act} {w:World} (b:ops.toList.all (VJ m)=true) (c:Qs m a0 a)
 (h:wpOps P ops Q (List.range ops.size) a w):(Code.region d ops false).wp P (Kept m a0 Q) a w:=wp_region (ZO b _ a w c h)
theorem IK {e:Nat} {ops:Array Oper} {Q:Exit->Act->World->Prop} {m:Nat} {a0 a:Act} {w:World} (b:ops.toList.all (VJ m)=true) (c:Qs m a0 a) (d:P.follows .mixedOrders=true)
 (h:wpAny P .any ops Q ops.size (Array.replicate ops.size false) a {w with drawn:=w.drawn+1}):(Code.region e ops true).wp P (Kept m a0 Q) a w:=
 wp_region_draw λt=>by simp only[Region.schedule,d,Bool.true_or,AA5];exact ZO b _ a _ c (wpAny_sound ops.size t _ a _ h)
def XP (G:Gi) (n:Nat) (w0:World) (S0 U0:Nat->Prop) (Q:Exit->Sg->Prop) (e:Exit) (a:Act) (w:World):Prop:=∃σ,Rel G n w0 S0 U0 a w σ/\Q e σ
def Tied (G:Gi) (n:Nat) (w0:World) (S0 U0:Nat->Prop) (m:Nat) (a0:Act) (Q:Exit->Sg->Prop):Exit->Act->World->Prop:=Kept m a0 (XP G n w0 S0 U0 Q)
theorem Rel.drew {n:Nat} {f:World} {d e:Nat->Prop} {a:Act} {σ:Sg} (h:Rel G n f d e a w σ):Rel G n f d e a {w with drawn:=w.drawn+1} σ:=by obtain⟨S,δ,Fr,hn,i,k,j,c,b,g⟩:=h;exact⟨S,δ,Fr,hn,i,k,j,c.world (λ_ _=>rfl) (λ_ _ _=>rfl) (λ_ h=>h) (λs x l=>(c.ok s).E7 x l),⟨b.os,b.tape,b.output,b.size,b.block,b.sub,b.sup,b.lt,b.own⟩,g⟩
theorem Rel.gz {n:Nat} {l:World} {i j:Nat->Prop} {a:Act} {σ τ:Sg} {r:Nat} {p:List Step} {v:AV} (h:Rel G n l i j a w σ) (F:Qv G r p σ=some (v,τ)):Rel G n l i j a w τ:=by
 obtain⟨S,δ,Fr,hn,q,D,rfl,f,u,m⟩:=h;obtain⟨e,y,z,v,bx,k,rows,C,B,o,_,_,_,I,g,_⟩:=f.Qv F;have c:∀x,z x->x<w.heap.size:=λx d=>by obtain⟨t,H⟩:=g x (.inr d);exact(f.ok t).lt x H
 exact⟨_,e,y,hn,q,λs=>(D s).trans (o s).symm,B,C,u.trans (Nx.JZ (λx d=>g x d) c),λb E=>E.elim (m b) (c b)⟩
theorem cz_tree {v:Value} {bx:Bool} {k:Nat} {rows:List (List DV)} {F:Nat->Prop} (h:Ok w S (.own v bx k rows) F):∃f r,f.map (·.map DV.er)=(rows.map (·.map DV.er)).map (·.map JZ)/\(∀x,r x->F x)/\Ok w (λx=>S x∨(F x/\¬r x)) (.own v bx k f) r:=by
 cases h with
 |nil _ _ hF=>exact⟨[],F,rfl,λ_ h=>h,.nil k F hF⟩
 |own _ _ _ b c arr E Fs _ hb hk D6 Lk hv hr hd Bi KW hF=>
  obtain⟨s,n,l⟩:=LX rows (λi a (R:List DV)=>R.length=a.length/\∀(j:Nat) d,a[j]? =some d->∃D,R[j]? =some D/\(D.er=JZ d.er/\D.A0=d.A0/\Ok w (λx=>S x∨Fs i j x) D (λ_=>False))) (by intro i a hi;exact LX a (λj d D=>D.er=JZ d.er/\D.A0=d.A0/\Ok w (λx=>S x∨Fs i j x) D (λ_=>False)) (by intro j d B;obtain⟨D,m,g,q,_⟩:=Rw (δ:=λ_=>default) (hr i j a d hi B);exact⟨D,m,g,q⟩));have e:s.map (·.map DV.er)=(rows.map (·.map DV.er)).map (·.map JZ):=by refine map_mk n l _ _ (by simp) λi a R p y=> ?_;simp only[AAt,y,AA9,AAh];exact(map_mk p.1 p.2 _ _ (by simp) λj d D hd y=>by simp[y,hd.1]).symm
  refine⟨s,λx=>x=b,e,λx z=>(hF x).2 (.inl z),?_⟩;rw[← n];refine .own bx k s b c arr E (λ_ _ _=>False) _ hb ?_ (by rw[n];exact D6) ?_ ?_ ?_ (λ_ _ _ _ _ h=>h.elim) (λ_ _ _ h=>h.elim) (λ_ _ h=>h) (λx=>by simp)
  . intro R o;obtain⟨i,hi⟩:=AA7 o;obtain⟨a,m,g⟩:=mem_mk n l i R hi;rw[g.1];exact hk a (AAu m)
  . rintro(h|⟨_,h⟩)
    . exact Lk h
    . exact h rfl
  . intro i j R D o u;obtain⟨a,m,g⟩:=mem_mk n l i R o;obtain⟨d,q,t⟩:=mem_mk g.1 g.2 j D u;rw[t.2.1];exact hv i j a d m q
  . intro i j R D o u;obtain⟨a,m,g⟩:=mem_mk n l i R o;obtain⟨d,q,t⟩:=mem_mk g.1 g.2 j D u;exact t.2.2.mono (λ_ _=>rfl) (λ_ h=>h.elim) (λx z=>z.imp id λh=>⟨(hF x).2 (.inr ⟨i,j,h⟩),λe=>KW i j (e▸h)⟩) (λ_ h=>h.elim)
theorem Rel.cz {n:Nat} {P:World} {F H:Nat->Prop} {a:Act} {σ τ:Sg} {r:Nat} {p:List Step} (h:Rel G n P F H a w σ) (j:czS G r p σ=some τ):Rel G n P F H a w τ:=by
 obtain⟨S,δ,Fr,hn,U,O,rfl,f,V,Q⟩:=h;unfold czS at j;split at j
 . rename_i b k rows hs;split at j
   . rename_i t W;obtain rfl:=AAl j;obtain⟨nD,N,i⟩:=Dr (f.ok r).LD hs;obtain⟨E,J,l,NL⟩:=(f.ok r).replace p N;cases nD with
     |own v b2 k2 Ao=>
      simp only[Et,AV.own.injEq]at i;obtain⟨rfl,rfl,Z⟩:=i;obtain⟨g,z,e1,K,e3⟩:=cz_tree J;obtain⟨tD,y,o,m,X,R⟩:=NL w (λx=>S x∨(E x/\¬z x)) (.own v b2 k2 g) z (by simp) e3 (λx c _=>K x c) (λ_ _=>rfl) (λ_ _ _=>rfl) (λ_ h=>.inl h)
       (λx c LA=>λh=>h.elim (λh=>(f.ok r).E7 x c h) λh=>LA h.1)
      have vX:tD.er=t:=(by obtain⟨t',L,h2⟩:=HS (d:=δ r) (p:=p) (a:=t) (.own v b2 k2 g) (f.ok r).LD (by simp only[Et,e1,Z,← Wy];exact W);rw[o]at L;obtain rfl:=AAl L;exact h2);have I:∀x,y x->Fr r x:=λx c=>((X x).1 c).elim (λh=>h.1) λh=>l x (K x h);have T:St G w (λx=>S x∨(E x/\¬z x)) (DZ (EY G (p.length+1) r δ) r tD) (DZ Fr r y):=
       f.setn (p.length+1) r tD y (λ_ _=>rfl) (λ_ _ _ _=>rfl) (λ_ h=>.inl h) (λs B x c h=>h.elim (λh=>(f.ok s).E7 x c h) λh=>B (f.MT s r x c (l x h.1)))
        m (λs B x c hy=>B (f.MT s r x hy (I x c))) (MH p o (f.rt r) (by simp)) (My p o (f.al r) (.own _ _ _ _))
        λq v' bx k' I9 hq C=>Nu q p (by omega) o (λ_ v3 bx3 k3 D M=>by rw[N]at M;cases M;exact⟨_,rfl⟩) C
      refine⟨_,_,_,hn,U,λs=> ?_,?_,T,V.trans (Nx.JZ (λx c=> ?_) λx c=> ?_),?_⟩
      . rw[NG f];split
        . rename_i e;rw[e,R];exact O r
        . exact O s
      . rw[OI f,vX]
      . rcases c with⟨s,c⟩|c
        . by_cases e:s=r
          . subst e;rw[BI]at c;exact⟨_,I x c⟩
          . rw[Ba _ _ e]at c;exact⟨s,c⟩
        . exact⟨r,l x c.1⟩
      . exact(f.ok r).lt x (l x c.1)
      . exactλx c=>c.elim (Q x) λh=>(f.ok r).lt x (l x h.1)
     |lf a u=>simp only[Ei]at i;subst i;cases J with|lf _ _ _ h=>exact h.elim
     |agg=>simp at i
     |BM=>simp at i
   . cases j
 . cases j
theorem Rel.gzS {n:Nat} {f:World} {d e:Nat->Prop} {a:Act} {σ τ:Sg} {c:Bool} {r:Nat} {p:List Step} (h:Rel G n f d e a w σ) (b:gzS G c r p σ=some τ):Rel G n f d e a w τ:=by
 unfold Abs.gzS at b;split at b
 . exact h.cz b
 split at b
 . obtain rfl:=AAl b;exact h
 . split at b
   . rename_i v i g;obtain rfl:=AAl b;exact h.gz g
   . cases b
def isGz:IC->Bool
 | .gz .. =>true
 | .pg .. =>true
 |_=>false
theorem Iw {n:Nat} {i:World} {f g:Nat->Prop} {m:Nat} {a0:Act} {c:Code} (h:∀ic,isGz ic=false->∀(Q:Exit->Sg->Prop) (a:Act) (w:World) (σ:Sg),G1 P G n c ic=true->Gc m c=true->Qs m a0 a->Rel G n i f g a w σ->ID P G ic Q σ->c.wp P (Tied G n i f g m a0 Q) a w):
 ∀(ic:IC) (Q:Exit->Sg->Prop) (a:Act) (w:World) (σ:Sg),G1 P G n c ic=true->Gc m c=true->Qs m a0 a->Rel G n i f g a w σ->ID P G ic Q σ->c.wp P (Tied G n i f g m a0 Q) a w:=by
 intro ic;induction ic with
 |gz _ r p x Zn=>
  intro Q a w σ o k j s b;have l:G1 P G n c x=true:=by cases c<;>simpa[G1]using o
  simp only[ID]at b;split at b
  . rename_i τ q;exact Zn Q a w τ l k j (s.gzS q) b
  . exact b.elim
 |pg _ r p x Zn=>
  intro Q a w σ o k j s b;have l:G1 P G n c x=true:=by cases c<;>simpa[G1]using o
  refine wp_mono (Zn _ a w σ l k j s b) ?_;rintro e y w' ⟨⟨τ,t,d⟩,u⟩;refine⟨?_,u⟩;cases e with
  |normal=>
   simp only[pgQ]at d;split at d
   . rename_i v q;exact⟨v,t.gzS q,d⟩
   . exact d.elim
  |_=>exact⟨τ,t,d⟩
 |_=>exact h _ rfl
theorem aO {n:Nat} {C:World} {v z:Nat->Prop} (F:ZX C v z) (L:P.follows .mixedOrders=true) {m:Nat} {a0:Act} (c:Code):∀(ic:IC) (Q:Exit->Sg->Prop) (a:Act) (w:World) (σ:Sg),G1 P G n c ic=true->Gc m c=true->Qs m a0 a->Rel G n C v z a w σ->ID P G ic Q σ->c.wp P (Tied G n C v z m a0 Q) a w:=by
 induction c with
 |skip=>
  refine Iw ?_;intro ic o Q a w σ g p r h j;cases ic with
  |skip=>exact wp_skip ⟨⟨σ,h,j⟩,.inr r⟩
  |bad=>exact j.elim
  |gz=>cases o
  |pg=>cases o
  |_=>simp[G1]at g
 |region id ops d=>
  refine Iw ?_;intro ic o Q a w σ g p r h j;cases ic with
  |PR Dj=>
   simp only[G1,AAi,ABE,ABR]at g;obtain⟨g,Jp⟩:=g;cases d with
   |false=>
    refine QX p r ?_
    have:=mL F (P:=P) (G:=G) (ops:=ops) (K:=Q .normal) (XP G n C v z Q) (λa w σ h u=>⟨σ,h,u⟩) Dj 0 h (by simpa using g) j;rw[List.range_eq_range'];simpa using this
   |true=>refine IK p r L ?_;replace Jp:=Jp.resolve_left (by simp);exact iR F (P:=P) (G:=G) (K:=Q .normal) (XP G n C v z Q) (λa w σ h u=>⟨σ,h,u⟩) h.drew g Jp j
  |flo f aZ9 bs=>
   cases d with
   |false=>simp[G1]at g
   |true=>simp only[G1,AAi,AAw]at g;refine IK p r L ?_;obtain⟨q,q0,q1,q2,q3⟩:=floRun j;exact uW F (P:=P) (G:=G) (K:=Q .normal) (XP G n C v z Q) (λa w σ h u=>⟨σ,h,u⟩) h.drew g.1 q q0 q1 q3 (λm L=>q2 m (by omega))
  |aY fs Dj=>
   cases d with
   |false=>simp[G1]at g
   |true=>simp only[G1]at g;refine IK p r L ?_;exact uV F (P:=P) (G:=G) (K:=Q .normal) (XP G n C v z Q) (λa w σ h u=>⟨σ,h,u⟩) h.drew g j
  |apd f Dj=>
   cases d with
   |false=>simp[G1]at g
   |true=>simp only[G1]at g;refine IK p r L ?_;exact s8 F (P:=P) (G:=G) (K:=Q .normal) (XP G n C v z Q) (λa w σ h u=>⟨σ,h,u⟩) h.drew g j
  |Wc xs=>
   cases d with
   |true=>simp[G1]at g
   |false=>
    simp only[G1]at g;refine QX p r ?_
    have:=uA F (P:=P) (G:=G) (ops:=ops) (K:=Q .normal) (XP G n C v z Q) (λa w σ h u=>⟨σ,h,u⟩) xs 0 h (by simpa using g) j;rw[List.range_eq_range'];simpa using this
  |bad=>exact j.elim
  |gz=>cases o
  |pg=>cases o
  |_=>simp[G1]at g
 |seq x y Zn ihy=>
  refine Iw ?_;intro ic o Q a w σ g p r h j;cases ic with
  |seq x' y'=>
   simp only[G1,AAi]at g;simp only[Gc,AAi]at p;refine wp_seq (wp_mono (Zn x' _ a w σ g.1 p.1 r h j) ?_);rintro e J w' ⟨⟨σ',B,t⟩,D⟩;cases e with
   |normal=>exact ihy y' Q J w' σ' g.2 p.2 (D.resolve_left (by simp)) B t
   |_=>exact⟨⟨σ',B,t⟩,D⟩
  |bad=>exact j.elim
  |gz=>cases o
  |pg=>cases o
  |_=>simp[G1]at g
 |cond c x y Zn ihy=>
  refine Iw ?_;intro ic o Q a w σ g p r h j;cases ic with
  |cond c' x' y'=>
   simp only[G1,AAi]at g;obtain⟨⟨X,E⟩,Z⟩:=g;simp only[Gc,AAi]at p;rw[gU]at j;split at j
   . rename_i b hb;have U:a.eval c= .bool b:=(by obtain⟨S,δ,Fr,hn,EO,ha,rfl,V,_⟩:=h;obtain⟨hy,T⟩:=Am X ha;rw[T];exact(V.FB hy hb).1);split at j
     . rename_i R;subst R;exact wp_cond_true U (Zn x' Q a w σ E p.1 r h j)
     . rename_i O;obtain rfl:b=false:=(by simpa using O);exact wp_cond_false U (ihy y' Q a w σ Z p.2 r h j)
   . exact j.elim
  |bad=>exact j.elim
  |gz=>cases o
  |pg=>cases o
  |_=>simp[G1]at g
 |block id x Zn=>
  refine Iw ?_;intro ic o Q a w σ g p r h j;cases ic with
  |block id' x'=>
   simp only[G1,AAi,AAw]at g;obtain⟨rfl,E⟩:=g;simp only[Gc]at p;refine wp_block (wp_mono (Zn x' _ a w σ E p r h j) ?_);rintro e J w' ⟨⟨σ',B,t⟩,D⟩;cases e with
   |exit i=>
    simp only[Exit.inBlock];rw[PY]at t;have H:=D.resolve_left (by simp);split
    . rename_i hi;rw[AAs hi]at t;exact⟨⟨σ',B,t⟩,.inr H⟩
    . rename_i hi;rw[AAp hi]at t;exact⟨⟨σ',B,t⟩,.inr H⟩
   |_=>exact⟨⟨σ',B,t⟩,D⟩
  |bad=>exact j.elim
  |gz=>cases o
  |pg=>cases o
  |_=>simp[G1]at g
 |loop x Zn=>
  refine Iw ?_;intro ic o Q a w σ g p r h j;cases ic with
  |loop x'=>
   simp only[G1]at g;obtain⟨I,⟨n0,W⟩,oQ⟩:=j;simp only[Gc]at p;refine wp_loop_ghost (λk a w=>(∃σ,Rel G n C v z a w σ/\I k σ)/\Qs m a0 a) n0 ⟨⟨σ,h,W⟩,r⟩ ?_;rintro k J w' ⟨⟨τ,B,hI⟩,D⟩;refine wp_mono (Zn x' _ J w' τ g p D B (oQ k τ hI)) ?_;rintro e a2 w2 ⟨⟨M,E,t⟩,H⟩;cases e with
   |normal=>obtain⟨k',u,N⟩:=t;exact⟨k',u,⟨M,E,N⟩,H.resolve_left (by simp)⟩
   |_=>exact⟨⟨M,E,t⟩,H⟩
  |bad=>exact j.elim
  |gz=>cases o
  |pg=>cases o
  |_=>simp[G1]at g
 |exit id=>
  refine Iw ?_;intro ic o Q a w σ g p r h j;cases ic with
  |exit id'=>simp only[G1,AAw]at g;subst g;exact wp_exit ⟨⟨σ,h,j⟩,.inr r⟩
  |bad=>exact j.elim
  |gz=>cases o
  |pg=>cases o
  |_=>simp[G1]at g
 |ret=>
  refine Iw ?_;intro ic o Q a w σ g p r h j;cases ic with
  |ret=>exact wp_ret ⟨⟨σ,h,j⟩,.inr r⟩
  |bad=>exact j.elim
  |gz=>cases o
  |pg=>cases o
  |_=>simp[G1]at g
 |rangeFunc=>refine Iw ?_;intro ic o Q a w σ g p r h j;cases ic with|bad=>exact j.elim|gz=>cases o|pg=>cases o|_=>simp[G1]at g
 |scope x Zn=>
  refine Iw ?_;intro ic o Q a w σ g p r h j;cases ic with
  |bad=>exact j.elim
  |gz=>cases o
  |pg=>cases o
  |seq s ic=>
   cases s with
   |skip=>
    refine wp_scope_straight (wp_mono (Zn ic (λe σ=>goA e=false/\Q e σ) a w σ (by simpa[G1]using g) (by simpa[Gc]using p) r h (aN (λe σ T t=>⟨T,t⟩) j)) ?_);rintro e J w' ⟨⟨σ',B,t⟩,D⟩;cases e with
    |goto l=>cases t.1
    |_=>exact⟨⟨σ',B,t.2⟩,D⟩
   |_=>simp[G1]at g
  |_=>simp[G1]at g
 |label=>refine Iw ?_;intro ic o Q a w σ g p r h j;cases ic with|skip=>exact wp_label ⟨⟨σ,h,j⟩,.inr r⟩|bad=>exact j.elim|gz=>cases o|pg=>cases o|_=>simp[G1]at g
 |goto=>refine Iw ?_;intro ic o Q a w σ g p r h j;cases ic with|bad=>exact j.elim|gz=>cases o|pg=>cases o|_=>simp[G1]at g
 |refuse=>refine Iw ?_;intro ic o Q a w σ g p r h j;cases ic with|bad=>exact j.elim|gz=>cases o|pg=>cases o|_=>simp[G1]at g
end Go.Abs
namespace Go.Abs
variable {w w':World} {S S':Nat->Prop} {G:Gi} {δ:Nat->DV} {Fr:Nat->Nat->Prop} {P:Program}
def iE (P:Program):ResultVar->RV->Bool
 | .tmp t,.tmp t'=>t==t'
 | .cell a t,.cell a' agg n=>a==a'&&Gv P t==some n&&Jb P t==some agg&&(agg||n==1)
 |_,_=>false
def PZ (P:Program):List ResultVar->List RV->Bool
 |[],[]=>true
 |r::rs,v::vs=>iE P r v&&PZ P rs vs
 |_,_=>false
def Sf (tmps:Array Value):ResultVar->Sem Value
 | .tmp t=>pure (tmps.getD t undef)
 | .cell a t=>do loadVar t (← asAddr (tmps.getD a undef))
theorem NR {a b:Type} (f:a->Sem b) (x:a) (l:List a) {v:b} {vs:List b} (c:(f x).run P w= .ok v w) (d:(l.mapM f).run P w= .ok vs w):((x::l).mapM f).run P w= .ok (v::vs) w:=by rw[List.mapM_cons];simp[c,d]
theorem JQ {tmps:Array Value} (B:List ResultVar):∀{rs:List RV} {δ:Nat->DV} {Fr:Nat->Nat->Prop} {vs:List AV} {τ:Sg},St G w S δ Fr->(∀s,tmps.getD s undef=(δ s).A0)->PZ P B rs=true->
 GH G rs (λs=>(δ s).er)=some (vs,τ)->∃(F:List DV) (FD:Nat->Prop),F.map DV.er=vs/\(B.mapM (Sf tmps)).run P w= .ok (F.map DV.A0) w/\Jm w S F FD/\(∀x,FD x->BE Fr x)/\
  ∃(C:Nat->DV) (W:Nat->Nat->Prop),St G w S C W/\(λs=>(C s).er)=τ/\(∀s,(C s).A0=(δ s).A0)/\(∀s x,W s x->¬FD x)/\(∀x,BE W x->BE Fr x):=by
 induction B with
 |nil=>
  intro rs δ Fr vs τ h K Q l;cases rs with
  |nil=>simp only[GH,AAh,AAv]at l;obtain⟨rfl,rfl⟩:=l;exact⟨[],λ_=>False,rfl,by simp,λ_ h=>h,λ_ h=>h.elim,δ,Fr,h,rfl,λ_=>rfl,λ_ _ _ h=>h,λ_ h=>h⟩
  |cons=>simp[PZ]at Q
 |cons rv B ih=>
  intro rs δ Fr vs τ h K Q l;cases rs with
  |nil=>simp[PZ]at Q
  |cons r rs=>
   simp only[PZ,AAi]at Q;obtain⟨M,NI⟩:=Q;cases r with
   |tmp t=>
    cases rv with
    |cell=>simp[iE]at M
    |tmp t'=>
     simp only[iE,AAw]at M;subst M;simp only[GH]at l;split at l
     . rename_i v τ1 ZT;split at l
       . rename_i vs' τ' o;simp only[AAh,AAv]at l;obtain⟨rfl,rfl⟩:=l;obtain⟨C,W,D,Ff,y,JU,Fk,Ud⟩:=h.tk (x:=.t t') trivial ZT;subst JU;obtain⟨F,FD,Z,g2,g3,O,q,N,k1,k2,k3,U,k5⟩:=ih y.st (λs=>(K s).trans (y.A0 s).symm) NI o;refine⟨D::F,λx=>Ff x∨FD x,by simp[Fk,Z],?_,⟨Ff,FD,y.ok,g3,?_,λx=>AB7⟩,?_,q,N,k1,k2,λs=>(k3 s).trans (y.A0 s),?_,λx f=>y.own x (.inl (k5 x f))⟩
         . refine NR _ _ _ ?_ g2;simp[Sf,K,Ud,C7]
         . intro x f m;obtain⟨s,g⟩:=O x m;exact y.MT s x g f
         . rintro x (f|f)
           . exact y.own x (.inr f)
           . exact y.own x (.inl (O x f))
         . rintro s x f (m|m)
           . obtain⟨s',HH⟩:=k5 x ⟨s,f⟩;exact y.MT s' x HH m
           . exact U s x f m
       . cases l
     . cases l
   |cell a agg n=>
    cases rv with
    |tmp=>simp[iE]at M
    |cell a' t=>
     simp only[iE,AAi,AAw,ABE]at M;obtain⟨⟨⟨rfl,hn⟩,hg⟩,hg1⟩:=M;simp only[GH]at l;split at l
     . rename_i k row g;split at l
       . rename_i v p;split at l
         . rename_i vs' τ' o;simp only[AAh,AAv]at l;obtain⟨rfl,rfl⟩:=l;obtain⟨Ao,hd,u⟩:=h.YS g;have Cj:=h.ok a';rw[hd]at Cj
           match Ao,u with
           |[I3],u=>
            simp only[AAy,ABF,List.cons.injEq,and_true]at u;generalize T:(δ a').A0=va at*;cases Cj with
            |own _ _ _ b c arr E Fs _ hb hk D6 Lk hvv hr MV Bi KW hF=>
             have hkr:I3.length=k:=hk I3 (by simp);simp only[AA5]at D6;have J:Jm w S I3 (λx=>∃j,Fs 0 j x):=(by refine KB.2 ⟨λj=>Fs 0 j,λj d I=>hr 0 j I3 d rfl I,λi i' x f m=>(MV 0 i 0 i' x f m).2,λj x f=> ?_,λx=>AB7⟩;obtain⟨row',d,h1,h2⟩:=Bi 0 j x f;simp only[ABO,AAh]at h1;exact⟨d,h1▸h2⟩);have R:I3.length=n:=by
              have:row.length=n:=by
               unfold It at p;split at p
               . assumption
               . cases p
              rw[← this,← u];simp
             have CJ:=h.set (w':=w) (S':=S) a' (.lf .dead (Jp true b 1 c)) (λ_=>False) (λ_ _=>rfl) (λ_ _ _ _=>rfl) (λ_ h=>h) (λs _ x f=>(h.ok s).E7 x f) (.lf _ _ _ trivial (λ_ h=>h)) (λ_ _ _ h=>h.elim) (by simp) (.lf _ _ trivial);have JU:(λs=>(DZ (Hb G a' δ) a' (.lf .dead (Jp true b 1 c)) s).er)=DZ (Jr G a' λs=>(δ s).er) a' .dead:=by
              funext s;simp only[DZ];split
              . simp
              . exact h.jT a' s
             rw[← JU]at o;have Dh:∀s,tmps.getD s undef=(DZ (Hb G a' δ) a' (.lf .dead (Jp true b 1 c)) s).A0:=by
              intro s;simp only[DZ];split
              . rename_i e;subst e;rw[K,T];simp
              . rw[K,h.Us a' s]
             obtain⟨F,FD,Z,g2,g3,O,q,N,q1,q2,q3,q4,q5⟩:=ih CJ Dh NI o;have V:∀s,(q s).A0=(δ s).A0:=λs=>(by rw[q3 s,← Dh s,K]);have z:∀x,BE N x->BE Fr x/\¬∃j,Fs 0 j x:=by
              intro x f;obtain⟨s,g⟩:=q5 x f;simp only[DZ]at g;split at g
              . exact g.elim
              . rename_i Pk;exact⟨⟨s,g⟩,λ⟨j,I⟩=>Pk (h.MT s a' x g ((hF x).2 (.inr ⟨0,j,I⟩)))⟩
             have L:(loadVar t ⟨b,0,none⟩).run P w= .ok (if agg=true then .agg (I3.map DV.A0).toArray else(I3.map DV.A0).headD undef) w:=by
              refine LM hn hg hg1 (by simp[R]) ?_;intro j v I;simp only[AAt]at I;cases hjd:I3[j]? with
              |none=>simp[hjd]at I
              |some d=>
               simp only[hjd,AA9,AAh]at I;subst I
               have:=hvv 0 j I3 d rfl hjd;simp only[World.cell?,hb];simpa using this
             have X:(Sf tmps (.cell a' t)).run P w= .ok (if agg=true then .agg (I3.map DV.A0).toArray else(I3.map DV.A0).headD undef) w:=by simp only[Sf,K,T,Jp,AA5];simpa[asAddr]using L
             have V3:∀x,(∃j,Fs 0 j x)->BE Fr x:=λx ⟨j,f⟩=>⟨a',(hF x).2 (.inr ⟨0,j,f⟩)⟩;have DA:∀x,(∃j,Fs 0 j x)->¬FD x:=by
              intro x ⟨j,f⟩ m;obtain⟨s,g⟩:=O x m;simp only[DZ]at g;split at g
              . exact g
              . rename_i Pk;exact Pk (h.MT s a' x g ((hF x).2 (.inr ⟨0,j,f⟩)))
             have H:∀x,FD x->BE Fr x:=by
              intro x f;obtain⟨s,g⟩:=O x f;simp only[DZ]at g;split at g
              . exact g.elim
              . exact⟨s,g⟩
             unfold It at p;split at p
             . cases agg with
               |true=>
                simp only[AA5,AAh]at p X;subst p;refine⟨.agg I3::F,λx=>(∃j,Fs 0 j x)∨FD x,by simp[u,Z],?_,⟨_,FD,B2.2 J,g3,DA,λx=>AB7⟩,?_,q,N,q1,q2,V,?_,λx f=>(z x f).1⟩
                . have:=NR _ _ _ X g2;simpa using this
                . rintro x (f|f)
                  . exact V3 x f
                  . exact H x f
                . rintro s x f (m|m)
                  . exact(z x ⟨s,f⟩).2 m
                  . exact q4 s x f m
               |false=>
                simp only[AAr,AAx]at p X;split at p
                . rename_i c0 hn1;simp only[AAh]at p;subst p
                  match I3,u with
                  |[D0],u=>
                   simp only[AAy,ABF,List.cons.injEq,and_true]at u;obtain⟨F1,F2q,k1,k2,k3,U⟩:=J;refine⟨D0::F,λx=>F1 x∨FD x,by simp[u,Z],?_,⟨_,FD,k1,g3,λx f=>DA x ((U x).2 (.inl f)),λx=>AB7⟩,?_,q,N,q1,q2,V,?_,λx f=>(z x f).1⟩
                   . have:=NR _ _ _ X g2;simpa using this
                   . rintro x (f|f)
                     . exact V3 x ((U x).2 (.inl f))
                     . exact H x f
                   . rintro s x f (m|m)
                     . exact(z x ⟨s,f⟩).2 ((U x).2 (.inl m))
                     . exact q4 s x f m
                . cases p
             . cases p
         . cases l
       . cases l
     . cases l
def dD:AV->Bool
 | .sc _| .sl .. | .dead| .fp _| .own .. | .nY .. =>true
 |_=>false
def I7:AV->Bool
 | .agg cs=>cs.all dD
 | .BM cs=>cs.all dD
 |a=>dD a
theorem XY {L:List Nat} {a:AV} (h:dD a=true):F9 L a=true:=by cases a<;>simp_all [dD,F9]
theorem aK {L:List Nat} {a:AV} (h:I7 a=true):F9 L a=true:=by
 cases a with
 |agg cs=>simp only[I7,AAm]at h;rw[F9,W8,AAm];exactλx b=>XY (h x b)
 |BM cs=>simp only[I7,AAm]at h;rw[F9,W8,AAm];exactλx b=>XY (h x b)
 |_=>exact XY h
theorem dF {d:DV} (b:aF d) (h:dD d.er=true):Dd δ d:=by
 cases b with
 |lf a v b=>refine .lf _ _ ?_;simp only[Ei]at h;cases a<;>simp_all [dD,ND]
 |own=>exact .own _ _ _ _
 |agg=>simp[dD]at h
 |BM=>simp[dD]at h
theorem gP {d:DV} (b:aF d) (h:I7 d.er=true):Dd δ d:=by
 cases b with
 |lf a v b=>exact dF (.lf a v b) (by simp only[Ei]at h ⊢;cases a<;>simp_all [I7,C9])
 |own=>exact .own _ _ _ _
 |agg cs hr=>simp only[Hi,I7,ABf,AAm,Function.comp]at h;exact .agg _ λi d hd=>dF (hr i d hd) (h d (AAu hd))
 |BM cs hr=>simp only[JY,I7,ABf,AAm,Function.comp]at h;exact .BM _ λi d hd=>dF (hr i d hd) (h d (AAu hd))
structure FI where
 c:IC
 g:Gi
 r:List RV
def Lj (P:Program) (fn:Func) (I:FI):Bool:=
 (match fn.body with
 |some c=>G1 P I.g fn.ntmps c I.c
 |none=>false)&&PZ P fn.results.toList I.r&&I.g.rt.all (λx=> !x.2.contains x.1)
theorem r9 {G:Gi} (h:G.rt.all (λx=> !x.2.contains x.1)=true) (s:Nat):s∉G.HI s:=by
 unfold Gi.HI;split
 . rename_i x b;have c:=AB1 b;have a:=List.find?_some b;simp only[AAm]at h
   have:=h _ c;simp only[AAw]at a;rw[← a];simpa using this
 . simp
theorem Xq (ds:List DV) (n s:Nat):((ds.map DV.A0).toArray++Array.replicate (n-(ds.map DV.A0).toArray.size) undef).getD s undef=(ds.getD s (.lf .un undef)).A0:=by
 simp only[AA4,Array.getElem?_append,List.getD_eq_getElem?_getD];simp only[List.size_toArray,ABI];split
 . rename_i h;simp[h]
 . rename_i h;simp only[Array.getElem?_replicate];rw[ABy (by omega)];split<;>simp
def PF:List DV->DV
 |[d]=>d
 |ds=>.BM ds
theorem Ts (ds:List DV):(PF ds).er=one (ds.map DV.er):=by
 match ds with
 |[]=>simp[PF,one]
 |[d]=>simp[PF,one]
 |_::_::_=>simp[PF,one]
theorem OS {ds:List DV} {F:Nat->Prop} (h:Jm w S ds F):Ok w S (PF ds) F:=by
 match ds with
 |[]=>exact A8.2 h
 |[d]=>obtain⟨c,i,e,f,j,b⟩:=h;have:F=c:=funext λx=>propext ⟨λa=>((b x).1 a).elim id λg=>absurd g (f x),λa=>(b x).2 (.inl a)⟩;exact this▸e
 |_::_::_=>exact A8.2 h
def YV:List Value->Value
 |[v]=>v
 |vs=>.tuple vs.toArray
theorem kU {a:Func} {tmps:Array Value} {vs:List Value} (h:(a.results.toList.mapM (Sf tmps)).run P w= .ok vs w):
 (results a tmps).run P w= .ok (YV vs) w:=by
 have e:results a tmps=(do
  let vs ← a.results.mapM (Sf tmps)
  pure (if h:vs.size=1 then vs[0]else .tuple vs)):=by
  unfold results;congr 1
 rw[e,Array.mapM_eq_mapM_toList,map_eq_pure_bind,bind_assoc];have b:∀(m:Sem (List Value)) (k:List Value->Sem Value),m.run P w= .ok vs w->(m >>= k).run P w=(k vs).run P w:=by intro m k c;simp[c]
 rw[b _ _ h]
 match vs with
 |[]=>simp[YV]
 |[v]=>simp[YV]
 |_::_::_=>simp[YV]
theorem Qe {f m:Nat} {j:Func} {I:FI} {ds:List DV} {F:Nat->Prop} {Q:Exit->Sg->Prop} {R:Ending->World->Prop} (hm:P.follows .mixedOrders=true) (E:P.funcs[f]? =some j) (T:Lj P j I=true) (hn:ds.length≤j.ntmps) (L:(ds.map DV.er).all I7=true)
 (Ph:∀c,j.body=some c->Gc m c=true) (Nl:GI w S) (J:Ok w S (.BM ds) F) (O:∀b,S b->b<w.heap.size) (h:ID P I.g I.c Q (start (ds.map DV.er)))
 (vM:∀ex n S1 k p (tmps:Array Value),Q ex (λs=>(k s).er)->St I.g n S1 k p->Nx w S F n S1 (BE p)->(∀b,S1 b->b<n.heap.size)->(∀s,tmps.getD s undef=(k s).A0)->(ex= .outgrown∨∀i,i<m->tmps.getD i undef=(ds.getD i (.lf .un undef)).A0)->
  PZ P j.results.toList I.r=true->(ex= .normal∨ex= .ret)/\∃v,(results j tmps).run P n= .ok v n/\R (.returned v) n):Calls P f (ds.map DV.A0).toArray w R:=by
 simp only[Lj,AAi]at T;obtain⟨⟨z,NI⟩,C⟩:=T;split at z
 . rename_i c o;obtain⟨q,u,hd,y,B⟩:zP w S ds F:=(by cases J with|BM _ q _ u hd y B=>exact⟨q,u,hd,y,B⟩);have M:∀(i:Nat) d,ds[i]? =some d->I7 d.er=true:=λi d hi=>(by simp only[AAm]at L;exact L _ (ABm (AAu hi)));refine calls_of_wp E o ?_
   let δ:Nat->DV:=λs=>ds.getD s (.lf .un undef)
   have l:∀s,(∃d,ds[s]? =some d/\δ s=d)∨(ds[s]? =none/\δ s= .lf .un undef):=by
    intro s;cases a:ds[s]? with
    |some d=>exact .inl ⟨d,rfl,by simp[δ,a]⟩
    |none=>exact .inr ⟨rfl,by simp[δ,a]⟩
   have V:St I.g w S δ q:=by
    refine⟨λs=> ?_,λs t x=>hd s t x,λs=> ?_,λs=> ?_,r9 C⟩
    . rcases l s with⟨d,a,e⟩|⟨a,e⟩
      . rw[e];exact u s d a
      . rw[e];exact .lf _ _ _ rfl λx G=>by obtain⟨d,hd⟩:=y s x G;rw[a]at hd;cases hd
    . rcases l s with⟨d,a,e⟩|⟨a,e⟩
      . rw[e];exact gP (u s d a).LD (M s d a)
      . rw[e];exact .lf _ _ trivial
    . rcases l s with⟨d,a,e⟩|⟨a,e⟩
      . rw[e];exact aK (M s d a)
      . rw[e];simp
   have H:(λs=>(δ s).er)=start (ds.map DV.er):=by
    funext s;unfold start;rcases l s with⟨d,a,e⟩|⟨a,e⟩
    . simp[e,a]
    . simp[e,a]
   have IX:Rel I.g j.ntmps w S F {tmps:=(ds.map DV.A0).toArray++Array.replicate (j.ntmps-(ds.map DV.A0).toArray.size) undef,defers:=[]} w (start (ds.map DV.er)):=(by refine⟨S,δ,q,by simp;omega,rfl,λs=>Xq ds j.ntmps s,H,V,Nx.less λx ⟨s,G⟩=>(B x).2 ⟨s,G⟩,O⟩);refine wp_mono (aO ⟨Nl,λb o=>⟨λE=>J.E7 b E o,O b o⟩⟩ hm (m:=m) (a0:={tmps:=(ds.map DV.A0).toArray++Array.replicate (j.ntmps-(ds.map DV.A0).toArray.size) undef,defers:=[]}) c I.c _ _ w _ z (Ph c o) (Qs.refl _ _) IX h) ?_;rintro e a' n ⟨⟨σ,⟨S1,k,p,hn1,K,RP,rfl,X,Z,W⟩,hq⟩,I8⟩;obtain⟨D,v,U,N⟩:=vM e n S1 k p a'.tmps hq X Z W RP (I8.imp id λhk i hi=>(hk i hi).trans (Xq ds j.ntmps i)) NI;rcases D with rfl|rfl
   . exact⟨K,v,U,N⟩
   . exact⟨K,v,U,N⟩
 . cases z
theorem qD {rs:List RV} {a:AV} {e:Exit} {σ:Sg} (h:Ends G rs a e σ):e= .normal∨e= .ret:=by obtain⟨h,_⟩:=h;cases e<;>simp_all
theorem UL {b:Func} {tmps:Array Value} {a:List DV} (h:(b.results.toList.mapM (Sf tmps)).run P w= .ok (a.map DV.A0) w):(results b tmps).run P w= .ok (PF a).A0 w:=by
 rw[kU h]
 match a with
 |[]=>simp[PF,YV]
 |[d]=>simp[PF,YV]
 |_::_::_=>simp[PF,YV]
theorem JX {f:Nat} {e:Func} {I:FI} {args:List AV} {b:AV} (H:P.follows .mixedOrders=true) (G:P.funcs[f]? =some e) (E:Lj P e I=true) (hn:args.length≤e.ntmps) (o:args.all I7=true)
 (h:ID P I.g I.c (Ends I.g I.r b) (start args)):Says P f args b:=by
 intro w S ds F s p j D;subst p;refine Qe (m:=0) H G E (by simpa using hn) o (λc _=>Pa c) s j D h ?_;rintro N K S1 L M tmps i n a k t _ q;refine⟨qD i,?_⟩;obtain⟨_,vs,τ,v,u⟩:=i;obtain⟨l,FD,y,g2,z,B,_⟩:=JQ e.results.toList n t q v;have C:Jm K S1 (ds.map λd=>DV.lf .dead d.A0) (λ_=>False):=by refine CC λd hd=> ?_;obtain⟨x,_,rfl⟩:=AB0.1 hd;exact .lf _ _ _ trivial (λ_ h=>h)
 exact⟨_,UL g2,PF l,ds.map λd=>DV.lf .dead d.A0,S1,FD,rfl,by rw[Ts,y,u],by simp,by simp,A8.2 ⟨FD,λ_=>False,OS z,C,λ_ _ h=>h,λx=>by simp⟩,⟨a.os,a.tape,a.output,a.size,a.block⟩,a.sub,a.sup,k,λx J=>a.own x (B x J)⟩
def Tu (σ:Sg):Nat->List AV->Prop
 |_,[]=>True
 |i,o::os=>(match o with| .dead=>True|o=>σ i=o)/\Tu σ (i+1) os
def XH (G:Gi) (rs:List RV) (res:AV) (outs:List AV) (e:Exit) (σ:Sg):Prop:=
 (match e with| .normal=>True| .ret=>True|_=>False)/\∃vs τ,GH G rs σ=some (vs,τ)/\one vs=res/\Tu τ 0 outs
def iD (fn:Func) (m:Nat):Bool:=match fn.body with
 |some c=>Gc m c
 |none=>false
theorem YW {b:Nat->DV} {e:Nat->Nat->Prop} (g:St G w S b e) (a:List AV):∀(i:Nat),Tu (λs=>(b s).er) i a->
 ∃os:List DV,os.map DV.er=a/\os.map DV.A0=(List.range' i a.length).map (λs=>(b s).A0)/\∃c,Jm w S os c/\(∀x,c x->∃s,i≤s/\e s x):=by
 induction a with
 |nil=>intro i _;exact⟨[],rfl,rfl,λ_=>False,λ_ h=>h,λ_ h=>h.elim⟩
 |cons o a ih=>
  intro i h;obtain⟨p,q⟩:=h;obtain⟨os,l,m,c,n,j⟩:=ih (i+1) q;have key:∃(D:DV) (FD:Nat->Prop),D.er=o/\D.A0=(b i).A0/\Ok w S D FD/\∀x,FD x->e i x:=by
   by_cases hd:o= .dead
   . subst hd;exact⟨.lf .dead (b i).A0,λ_=>False,by simp,by simp,.lf _ _ _ trivial (λ_ h=>h),λ_ h=>h.elim⟩
   . refine⟨b i,e i,?_,rfl,g.ok i,λ_ h=>h⟩;cases o<;>first|exact p|exact absurd rfl hd
  obtain⟨D,FD,u,v,y,k⟩:=key;refine⟨D::os,by simp[u,l],by simp[v,m,List.range'_succ],λx=>FD x∨c x,⟨FD,c,y,n,?_,λx=>AB7⟩,?_⟩
  . intro x d t;obtain⟨s,r,f⟩:=j x t
    have:=g.MT i s x (k x d) f;omega
  . rintro x (d|d)
    . exact⟨i,AA8 _,k x d⟩
    . obtain⟨s,r,f⟩:=j x d;exact⟨s,by omega,f⟩
theorem lB {f:Nat} {d:Func} {I:FI} {args:List AV} {k:AV} {a:List AV} (hm:P.follows .mixedOrders=true) (hf:P.funcs[f]? =some d) (hc:Lj P d I=true) (v:iD d args.length=true) (hn:args.length≤d.ntmps) (G:args.all I7=true) (n:a.length=args.length)
 (h:ID P I.g I.c (XH I.g I.r k a) (start args)):BA P f args k a:=by
 intro w S ds F L J z X;subst J;refine Qe (m:=ds.length) hm hf hc (by simpa using hn) G (λc Z=>by simp only[iD,Z]at v;simpa using v) L z X h ?_;rintro l w1 S1 δ1 F1 tmps y E b B q H K;have e:l= .normal∨l= .ret:=by obtain⟨h,_⟩:=y;cases l<;>simp_all
 refine⟨e,?_⟩;obtain⟨_,vs,τ,O,N,t⟩:=y;have M:=H.resolve_left (by rcases e with rfl|rfl<;>simp);obtain⟨D,FD,U,g2,V,W,δ2,F2,k1,k2,k3,k4,k5⟩:=JQ d.results.toList E q K O;rw[← k2]at t;obtain⟨os,Q,R,p,T,u⟩:=YW k1 a 0 t;have C:os.map DV.A0=ds.map DV.A0:=by
  rw[R];have hl:a.length=ds.length:=by simpa using n
  rw[hl];apply ABu;intro i;simp only[AAt];by_cases hi:i<ds.length
  . rw[List.getElem?_range' (by simpa using hi),AAo hi];simp only[ABr,Nat.one_mul,AA9,AAh];rw[k3,← q,M i hi];simp[hi]
  . rw[ABy (by simp;omega),ABy (by omega)];rfl
 refine⟨_,UL g2,PF D,os,S1,λx=>FD x∨p x,rfl,by rw[Ts,U,N],Q,C,A8.2 ⟨FD,p,OS V,T,?_,λx=>AB7⟩,⟨b.os,b.tape,b.output,b.size,b.block⟩,b.sub,b.sup,B,?_⟩
 . intro x j hy;obtain⟨s,_,o⟩:=u x hy;exact k4 s x o j
 . rintro x (j|j)
   . exact b.own x (W x j)
   . obtain⟨s,_,o⟩:=u x j;exact b.own x (k5 x ⟨s,o⟩)
end Go.Abs
namespace Go.Abs
open Go.Sort
variable {w w':World} {S S':Nat->Prop} {P:Program}
def ints (l:List Int):List (List AV):=l.map λz=>[AV.sc (.int .i64 z)]
theorem jQ (l:List Int):(ints l).length=l.length:=by simp[ints]
theorem jO (l:List Int) (i:Nat):(ints l)[i]? =(l[i]?).map λz=>[AV.sc (.int .i64 z)]:=by simp[ints]
theorem YX {d:DV} {F:Nat->Prop} {zs:List Int} (h:Ok w S d F) (f:d.er= .own false 1 (ints zs)):
 (d.A0= .slice none 0 0/\zs=[]/\∀x,¬F x)∨∃b c arr E,d.A0= .slice (some ⟨b,0,none⟩) zs.length c/\w.heap[b]? =some (.cells arr E (0,0))/\c=arr.size/\zs.length≤c/\¬S b/\
  (∀(i:Nat) (z:Int),zs[i]? =some z->arr[i]? =some (.int .i64 z))/\(∀x,F x↔x=b):=by
 cases h with
 |lf a v _ ha hF=>simp only[Ei]at f;subst f;exact ha.elim
 |agg=>simp at f
 |BM=>simp at f
 |nil k _ hF=>
  simp only[Et,ABF,AV.own.injEq,true_and]at f
  left
  refine⟨by simp,?_,hF⟩
  have:=AB6 List.length f.2;simpa[ints]using this.symm
 |own bx k rows b c arr E Fs _ hb hk D6 Lk hv hr hd Bi KW hF=>
  simp only[Et,AV.own.injEq]at f;obtain⟨rfl,rfl,f⟩:=f
  right
  have g:rows.length=zs.length:=by have:=AB6 List.length f;simpa[ints]using this
  simp only[AAr,AAx,Nat.mul_one]at D6;have p:∀(i:Nat) (z:Int),zs[i]? =some z->∃d v,rows[i]? =some [d]/\d= .lf (.sc (.int .i64 z)) v/\v= .int .i64 z:=by
   intro i z n;have e:(rows.map (·.map DV.er))[i]? =some [AV.sc (.int .i64 z)]:=(by rw[f,jO,n];rfl);rw[AAt]at e;cases JG:rows[i]? with
   |none=>simp[JG]at e
   |some o=>
    simp only[JG,AA9,AAh]at e;obtain⟨d,rfl,l⟩:=ABn.1 e;clear e;have e:=l;clear l;have m:=hr i 0 [d] d JG rfl;cases m with
    |lf a v _ ha hF=>rw[Ei]at e;subst e;exact⟨_,v,rfl,rfl,ha.1⟩
    |nil=>simp at e
    |own=>simp at e
    |agg=>simp at e
    |BM=>simp at e
  refine⟨b,c,arr,E,by simp[Jp,g],hb,D6.1,by omega,Lk,?_,?_⟩
  . intro i z n;obtain⟨d,v,e,rfl,rfl⟩:=p i z n
    have:=hv i 0 _ _ e rfl;simpa using this
  . intro x;rw[hF x];constructor
    . rintro(h|⟨i,j,h⟩)
      . exact h
      . obtain⟨o,d,e,l⟩:=Bi i j x h;have hi:i<zs.length:=(by rw[← g];exact(AAj.1 e).1);obtain⟨s,v,q,rfl,_⟩:=p i zs[i] (AAo hi);rw[e]at q;obtain rfl:=AAl q;have r:j=0:=(by have:=(AAj.1 l).1;simp at this;exact this);subst r;simp only[ABO,AAh]at l;subst l;have m:=hr i 0 _ _ e rfl;cases m with
        |lf _ _ _ _ Xu=>exact absurd h (Xu x)
    . exact .inl
theorem W6 {b c:Nat} {arr:Array Value} {E:TypeId} {zs:List Int} (n:w.heap[b]? =some (.cells arr E (0,0))) (o:c=arr.size) (r:zs.length≤c) (m:¬S b) (q:∀(i:Nat) (z:Int),zs[i]? =some z->arr[i]? =some (.int .i64 z)):
 ∃d,d.er= .own false 1 (ints zs)/\d.A0= .slice (some ⟨b,0,none⟩) zs.length c/\Ok w S d (λx=>x=b):=by
 have g:∀(i j:Nat) a d,(zs.map λz=>[DV.lf (.sc (.int .i64 z)) (.int .i64 z)])[i]? =some a->a[j]? =some d->∃z,zs[i]? =some z/\j=0/\d= .lf (.sc (.int .i64 z)) (.int .i64 z):=by
  intro i j a d e f;rw[AAt]at e;cases hi:zs[i]? with
  |none=>simp[hi]at e
  |some z=>simp only[hi,AA9,AAh]at e;subst e;have p:j=0:=(by have:=(AAj.1 f).1;simp at this;exact this);subst p;simp only[ABO,AAh]at f;exact⟨z,rfl,rfl,f.symm⟩
 have l:=Ok.own (w:=w) (S:=S) false 1 (zs.map λz=>[DV.lf (.sc (.int .i64 z)) (.int .i64 z)]) b c arr E (λ_ _ _=>False) (λx=>x=b) n (by simp) (by simp[o];omega) m
  (by intro i j a d e f;obtain⟨z,k,rfl,rfl⟩:=g i j a d e f;simpa using q i z k)
  (by intro i j a d e f;obtain⟨z,k,rfl,rfl⟩:=g i j a d e f;exact .lf _ _ _ ⟨rfl,rfl⟩ (λ_ h=>h))
  (λ_ _ _ _ _ h=>h.elim) (λ_ _ _ h=>h.elim) (λ_ _ h=>h) (λx=>by simp)
 exact⟨_,by simp[ints],by simp[Jp],l⟩
theorem Rz {b:Nat} {arr:Array Value} {E:TypeId} {zs:List Int} (a:w.heap[b]? =some (.cells arr E (0,0))) (e:∀(i:Nat) (z:Int),zs[i]? =some z->arr[i]? =some (.int .i64 z)):Holds (Value.int .i64) w b 0 zs.toArray:=by
 intro j d;have c:j<zs.length:=by simpa using d
 refine⟨?_,by simp[World.frozen?,a]⟩
 have:=e j zs[j] (AAo c);simp only[World.cell?,a,ABr];simp[this,c]
theorem Xz {g n:Nat} {os:Array Obj} {a:Array Value} {e:TypeId} {b:Nat×Nat} (d:Array Int) (c:w.heap[g]? =some (.cells a e b)):
 (grow (putRow (Value.int .i64) (Sort.ahead w n) g 0 d) os).heap[g]? =some (.cells (putCells (Value.int .i64) 0 d a) e b):=by
 have f:g<w.heap.size:=(ABN.1 c).1;rw[heap_grow_old _ _ (by simpa using f)];simp[putRow,mapBlock,Sort.ahead,Array.getElem?_modify,c,onCells]
theorem dS {g n:Nat} {os:Array Obj} (d:Array Int) {F:Nat->Prop} (b:F g):Ext w (grow (putRow (Value.int .i64) (Sort.ahead w n) g 0 d) os) F:=by refine⟨rfl,rfl,rfl,by simp,λk c a=> ?_⟩;rw[heap_grow_old _ _ (by simpa using c)];have:g≠k:=λe=>a (e▸b);simp[putRow,mapBlock,Sort.ahead,Array.getElem?_modify,this]
theorem pJ {a:Array Value} (b:List Int) (h:b.length≤a.size):∀(i:Nat) (z:Int),b[i]? =some z->(putCells (Value.int .i64) 0 b.toArray a)[i]? =some (.int .i64 z):=by intro i z c;obtain⟨hi,rfl⟩:=AAj.1 c;simp[putCells,hi,show i<a.size by omega]
theorem pX {f:Nat}
 (a:∀(k off cap:Nat) (zs:List Int) (w:World),Holds (Value.int .i64) w k off zs.toArray->k<w.heap.size->zs.length<4611686018427387904->
  Calls P f #[.slice (some ⟨k,off,none⟩) zs.length cap] w λe w'=>e= .returned (.tuple #[])/\∃n os,w'=grow (putRow (Value.int .i64) (Sort.ahead w n) k off (zs.mergeSort λx y=>decide (x≤y)).toArray) os)
 (M:∀(p:AB8 Addr) (cap:Nat) (w:World),Calls P f #[.slice p 0 cap] w λe w'=>e= .returned (.tuple #[])/\w'=w)
 (zs:List Int) (K:zs.length<4611686018427387904):BA P f [.own false 1 (ints zs)] (.BM []) [.own false 1 (ints (zs.mergeSort λx y=>decide (x≤y)))]:=by
 intro w S ds F _ j z v;obtain⟨d,rfl,G⟩:=ABn.1 j;replace j:=G;obtain⟨o,B,r,s,_,t⟩:=A8.1 z;have u:∀x,F x↔o x:=λx=>by rw[t x];exact⟨λh=>h.elim id λh=>absurd h (s x),.inl⟩
 rcases YX r j with⟨l,rfl,C⟩|⟨b,c,arr,E,l,m,J,H,D,L,q⟩
 . simp only[AAy,ABF,l];refine(M none 0 w).mono ?_;rintro e w' ⟨rfl,rfl⟩;refine⟨.BM [],[d],S,F,by simp,by simp,by simpa using j,by simp[l],?_,⟨rfl,rfl,rfl,AA8 _,λ_ _ _=>rfl⟩,λ_ h=>h,λ_ h=>.inl h,v,λ_ h=>.inl h⟩;exact A8.2 ⟨λ_=>False,F,A8.2 (λ_ h=>h),⟨o,B,r,s,λx i=>absurd i (C x),t⟩,λ_ h=>h.elim,λx=>by simp⟩
 . simp only[AAy,ABF,l];refine(a b 0 c zs w (Rz m L) (ABN.1 m).1 K).mono ?_;rintro e w' ⟨rfl,n,os,rfl⟩;have g:(zs.mergeSort λx y=>decide (x≤y)).length=zs.length:=(by simp);obtain⟨I,N,O,Q⟩:=W6 (S:=S) (c:=c) (Xz (n:=n) (os:=os) (zs.mergeSort λx y=>decide (x≤y)).toArray m) (by simp[putCells,J]) (by rw[g];exact H) D (pJ _ (by rw[g];omega));refine⟨.BM [],[I],S,λx=>x=b,by simp,by simp,by simp[N],by simp[O],?_,dS _ ((u b).2 ((q b).2 rfl)),λ_ h=>h,λ_ h=>.inl h,λx i=> ?_,λx i=>.inl ((u x).2 ((q x).2 i))⟩
   . exact A8.2 ⟨λ_=>False,λx=>x=b,A8.2 (λ_ h=>h),⟨_,λ_=>False,Q,λ_ h=>h,λ_ _ h=>h,λx=>by simp⟩,λ_ h=>h.elim,λx=>by simp⟩
   . have:=v x i;simp;omega
theorem Ze {f:Nat}
 (a:∀(o off cap:Nat) (zs:List Int) (w:World),Holds (Value.int .i64) w o off zs.toArray->zs.length≤9223372036854775807->zs.length≤cap->
  Calls P f #[.slice (some ⟨o,off,none⟩) zs.length cap] w λe w'=>e= .returned (.slice (some ⟨o,off,none⟩) (Lib.compact zs).length cap)/\∃q,w'=putRow (Value.int .i64) (Sort.ahead w q) o off (Lib.compact zs++List.replicate (zs.length-(Lib.compact zs).length) 0).toArray)
 (T:∀(p:AB8 Addr) (cap:Nat) (w:World),Calls P f #[.slice p 0 cap] w λe w'=>e= .returned (.slice p 0 cap)/\w'=w)
 (zs:List Int) (hl:zs.length<4611686018427387904) (Q:(Lib.compact zs).length≤zs.length) (l:Lib.compact ([]:List Int)=[]):BA P f [.own false 1 (ints zs)] (.own false 1 (ints (Lib.compact zs))) [.dead]:=by
 intro w S ds F _ m G y;obtain⟨d,rfl,J⟩:=ABn.1 m;replace m:=J;obtain⟨r,X,v,M,_,N⟩:=A8.1 G;have s:∀x,F x↔r x:=λx=>by rw[N x];exact⟨λh=>h.elim id λh=>absurd h (M x),.inl⟩
 have t:∀w',Jm w' S [DV.lf .dead d.A0] (λ_=>False):=λw'=>CC λx k=>by simp at k;subst k;exact .lf _ _ _ trivial (λ_ h=>h)
 rcases YX v m with⟨j,rfl,Z⟩|⟨b,c,arr,E,j,B,O,K,I,R,u⟩
 . simp only[AAy,ABF,j];refine(T none 0 w).mono ?_;rintro e w' ⟨rfl,rfl⟩;refine⟨d,[.lf .dead d.A0],S,r,by rw[j],by rw[m,l],by simp,by simp[j],?_,⟨rfl,rfl,rfl,AA8 _,λ_ _ _=>rfl⟩,λ_ h=>h,λ_ h=>.inl h,y,λx h=>.inl ((s x).2 h)⟩;exact A8.2 ⟨r,λ_=>False,v,t _,λ_ _ h=>h,λx=>by simp⟩
 . simp only[AAy,ABF,j];refine(a b 0 c zs w (Rz B R) (by omega) K).mono ?_;rintro e w' ⟨rfl,n,rfl⟩;have H:(Lib.compact zs++List.replicate (zs.length-(Lib.compact zs).length) (0:Int)).length=zs.length:=(by simp;omega);have D:=Xz (n:=n) (os:= #[]) (Lib.compact zs++List.replicate (zs.length-(Lib.compact zs).length) 0).toArray B;have C:=dS (w:=w) (n:=n) (os:= #[]) (g:=b) (F:=F) (Lib.compact zs++List.replicate (zs.length-(Lib.compact zs).length) 0).toArray ((s b).2 ((u b).2 rfl));rw[grow_empty]at D C;obtain⟨L,U,V,W⟩:=W6 (S:=S) (c:=c) (zs:=Lib.compact zs) D (by simp[putCells,O]) (by omega) I (λi z hi=>pJ (Lib.compact zs++List.replicate (zs.length-(Lib.compact zs).length) 0) (by rw[H];omega) i z (by rw[ABA (AAj.1 hi).1];exact hi));refine⟨L,[.lf .dead d.A0],S,λx=>x=b,by rw[V],U,by simp,by simp[j],?_,C,λ_ h=>h,λ_ h=>.inl h,λx k=> ?_,λx k=>.inl ((s x).2 ((u x).2 k))⟩
   . exact A8.2 ⟨_,λ_=>False,W,t _,λ_ _ h=>h,λx=>by simp⟩
   . have:=y x k;simpa using this
end Go.Abs
namespace Go.Abs
open Go.Sort
variable {w w':World} {S S':Nat->Prop} {P:Program}
theorem fz_ints {e:Bool} {zs:List Int} {v:Value} (h:Fz w S (.sl e 1 (ints zs)) v):
 (∃a c,v= .slice a 0 c/\zs=[])∨∃b off c,v= .slice (some ⟨b,off,none⟩) zs.length c/\S b/\∀(i:Nat) (z:Int),zs[i]? =some z->w.cell? ⟨b,off+i,none⟩=some (.int .i64 z):=by
 generalize j:ints zs=rows at h;cases h with
 |nil x k a c hx=>
  left
  refine⟨a,c,rfl,?_⟩
  have:=AB6 List.length j;simpa[ints]using this
 |sl x k rows b off c vs hx Qy hS hk hc hf=>
  right
  subst j;refine⟨b,off,c,by rw[jQ],hS,?_⟩;intro i z l;have d:(ints zs)[i]? =some [AV.sc (.int .i64 z)]:=by rw[jO,l];rfl
  have f:=hc i 0 _ _ d rfl;have g:=hf i 0 _ _ d rfl;generalize m:vs i 0=u at f g;cases g with
  |sc _ hp=>simpa using f
theorem getD_of {zs:List Int} {f:Nat->AB8 Value} (h:∀(i:Nat) (z:Int),zs[i]? =some z->f i=some (.int .i64 z)):∀j,j<zs.length->f j=some (.int .i64 (zs.getD j 0)):=by intro j a;rw[h j zs[j] (AAo a)];simp[a]
theorem ext_drew (w:World) (q:Nat) (F:Nat->Prop):Ext w (w.drewN q) F:=⟨rfl,rfl,rfl,AA8 _,λ_ _ _=>rfl⟩
theorem dI {f:Nat}
 (D:∀(b off n c:Nat) (zs:List Int) (x:Int) (w:World),n≤zs.length->n<4611686018427387904->(∀j,j<zs.length->w.cell? ⟨b,off+j,none⟩=some (.int .i64 (zs.getD j 0)))->(zs.take n).Pairwise (· ≤ ·)->
  Calls P f #[.slice (some ⟨b,off,none⟩) n c,.int .i64 x] w λe w'=>e= .returned (.tuple #[.int .i64 ((zs.take n).countP (· <x):Nat),.bool ((zs.take n).contains x)])/\∃q,w'=w.drewN q)
 (G:∀(a:AB8 Addr) (c:Nat) (x:Int) (w:World),Calls P f #[.slice a 0 c,.int .i64 x] w λe w'=>e= .returned (.tuple #[.int .i64 0,.bool false])/\w'=w)
 (zs:List Int) (x:Int) (H:zs.length<4611686018427387904) (I:zs.Pairwise (· ≤ ·)):
 Says P f [.sl false 1 (ints zs),.sc (.int .i64 x)] (.BM [.sc (.int .i64 (zs.countP (· <x):Nat)),.sc (.bool (zs.contains x))]):=by
 intro w S ds F _ u t C;obtain⟨d1,O,rfl,i,g⟩:=List.map_eq_cons_iff.1 u;obtain⟨o,rfl,B⟩:=ABn.1 g;replace g:=B;obtain⟨J,K,y,g2,_,N⟩:=A8.1 t;obtain⟨L,M,z,_,_,_⟩:=g2;have p:Fz w S (.sl false 1 (ints zs)) d1.A0:=by
  cases y with
  |lf a v _ ha hF=>rw[Ei]at i;subst i;rw[Kh];exact ha
  |nil=>simp at i
  |own=>simp at i
  |agg=>simp at i
  |BM=>simp at i
 have m:o.A0= .int .i64 x:=by
  cases z with
  |lf a v _ ha hF=>rw[Ei]at g;subst g;simpa using ha.1
  |nil=>simp at g
  |own=>simp at g
  |agg=>simp at g
  |BM=>simp at g
 have k:∀q,∀e,e=Ending.returned (.tuple #[.int .i64 (zs.countP (· <x):Nat),.bool (zs.contains x)])->∃(r:DV) (os:List DV) (S' s:Nat->Prop),e= .returned r.A0/\r.er= .BM [.sc (.int .i64 (zs.countP (· <x):Nat)),.sc (.bool (zs.contains x))]/\os.map DV.er=[.dead,.dead]/\os.map DV.A0=[d1,o].map DV.A0/\
  Ok (w.drewN q) S' (.BM (r::os)) s/\Ext w (w.drewN q) F/\(∀b,S b->S' b)/\(∀b,S' b->S b∨F b∨w.heap.size≤b)/\(∀b,S' b->b<(w.drewN q).heap.size)/\(∀x,s x->F x∨w.heap.size≤x):=by
  rintro q e rfl;refine⟨.BM [.lf (.sc (.int .i64 (zs.countP (· <x):Nat))) (.int .i64 (zs.countP (· <x):Nat)),.lf (.sc (.bool (zs.contains x))) (.bool (zs.contains x))],[.lf .dead d1.A0,.lf .dead o.A0],S,λ_=>False,by simp,by simp,by simp,by simp,?_,ext_drew w q F,λ_ h=>h,λ_ h=>.inl h,C,λ_ h=>h.elim⟩;refine A8.2 ⟨λ_=>False,λ_=>False,A8.2 (CC ?_),CC ?_,λ_ h=>h.elim,λx=>by simp⟩
  . intro d hd;simp only[ABH,ABa,ABU]at hd;rcases hd with rfl|rfl
    . exact .lf _ _ _ ⟨rfl,rfl⟩ (λ_ h=>h)
    . exact .lf _ _ _ ⟨rfl,rfl⟩ (λ_ h=>h)
  . intro d hd;simp only[ABH,ABa,ABU]at hd;rcases hd with rfl|rfl
    . exact .lf _ _ _ trivial (λ_ h=>h)
    . exact .lf _ _ _ trivial (λ_ h=>h)
 rcases fz_ints p with⟨a,c,l,rfl⟩|⟨b,off,c,l,_,E⟩
 . simp only[AAy,ABF,l,m];refine(G a c x w).mono ?_;rintro e w' ⟨rfl,rfl⟩
   have:=k 0 _ rfl;simpa[World.drewN,l,m]using this
 . simp only[AAy,ABF,l,m];refine(D b off zs.length c zs x w (AA8 _) H (getD_of E) (by rw[List.take_length];exact I)).mono ?_;rintro e w' ⟨rfl,q,rfl⟩;rw[List.take_length]
   have:=k q _ rfl;simpa only[AAy,ABF,l,m]using this
theorem vI {f:Nat} {E:TypeId} (H:∀(n:Nat) (w:World),0<n->n*8≤140737488355328->Calls P f #[.slice none 0 0,.int .i64 n] w λe w'=>∃(c:Nat) (arr:Array Value),arr.size=c/\e= .returned (.slice (some ⟨w.heap.size,0,none⟩) 0 c)/\w'=w.drew.alloc (.cells arr E))
 (C:∀w:World,Calls P f #[.slice none 0 0,.int .i64 0] w λe w'=>e= .returned (.slice none 0 0)/\w'=w)
 (n:Nat) (hn:n*8≤140737488355328):Says P f [.sc (.slice none 0 0),.sc (.int .i64 n)] (.own false 1 []):=by
 intro w S ds F _ s r o;obtain⟨d1,V,rfl,D,m⟩:=List.map_eq_cons_iff.1 s;obtain⟨j,rfl,G⟩:=ABn.1 m;replace m:=G;obtain⟨O,Q,z,g2,_,U⟩:=A8.1 r;obtain⟨R,T,B,_,_,_⟩:=g2;have sc:∀{d:DV} {F:Nat->Prop} {u:Value},Ok w S d F->d.er= .sc u->d.A0=u:=by
  intro d F u hd g;cases hd with
  |lf a v _ ha hF=>rw[Ei]at g;subst g;simpa using ha.1
  |nil=>simp at g
  |own=>simp at g
  |agg=>simp at g
  |BM=>simp at g
 have b:=sc z D;have l:=sc B m;have p:∀w',Jm w' S [DV.lf .dead d1.A0,DV.lf .dead j.A0] (λ_=>False):=λw'=>CC λd hd=>by
  simp only[ABH,ABa,ABU]at hd;rcases hd with rfl|rfl
  . exact .lf _ _ _ trivial (λ_ h=>h)
  . exact .lf _ _ _ trivial (λ_ h=>h)
 simp only[AAy,ABF,b,l];rcases Nat.eq_zero_or_pos n with rfl|K
 . refine(C w).mono ?_;rintro e w' ⟨rfl,rfl⟩;refine⟨.own (.slice none 0 0) false 1 [],[.lf .dead d1.A0,.lf .dead j.A0],S,λ_=>False,by simp,by simp,by simp,by simp[b,l],?_,⟨rfl,rfl,rfl,AA8 _,λ_ _ _=>rfl⟩,λ_ h=>h,λ_ h=>.inl h,o,λ_ h=>h.elim⟩;exact A8.2 ⟨λ_=>False,λ_=>False,.nil _ _ (λ_ h=>h),p _,λ_ h=>h.elim,λx=>by simp⟩
 . refine(H n w K hn).mono ?_;rintro e w' ⟨c,arr,t,rfl,rfl⟩;have i:(w.drew.alloc (.cells arr E)).heap=w.heap.push (.cells arr E):=rfl;have I:(w.drew.alloc (.cells arr E)).heap[w.heap.size]? =some (.cells arr E (0,0)):=(by rw[i];simp);obtain⟨y,L,M,N⟩:=W6 (S:=S) (c:=c) (zs:=[]) I t.symm (by simp) (λh=>by have:=o _ h;omega) (by simp);refine⟨y,[.lf .dead d1.A0,.lf .dead j.A0],S,λx=>x=w.heap.size,by rw[M];rfl,by rw[L];rfl,by simp,by simp[b,l],?_,⟨rfl,rfl,rfl,by rw[i];simp,λk J _=> ?_⟩,λ_ h=>h,λ_ h=>.inl h,λx q=> ?_,λx q=>.inr (by omega)⟩
   . exact A8.2 ⟨_,λ_=>False,N,p _,λ_ _ h=>h,λx=>by simp⟩
   . rw[i];simp[Array.getElem?_push,Nat.ne_of_lt J]
   . have:=o x q;rw[i];simp;omega
end Go.Abs
namespace Go.Abs
variable {P:Program} {G:Gi}
abbrev si (n:Int):AV:=.sc (.int .i64 n)
abbrev sb (b:Bool):AV:=.sc (.bool b)
def resIs (x:AB8 (List AV×Sg)) (res:AV):Prop:=match x with
 |some (vs,_)=>one vs=res
 |none=>False
theorem pO (vs:List AV) (τ:Sg) (a:AV):resIs (some (vs,τ)) a=(one vs=a):=(rfl)
theorem zJ (G:Gi) (rs:List RV) (a:AV) (σ:Sg):Ends G rs a .ret σ=resIs (GH G rs σ) a:=by
 unfold Ends resIs;cases GH G rs σ with
 |none=>simp
 |some x=>obtain⟨vs,τ⟩:=x;simp
theorem one_one (v:AV):one [v]=v:=(rfl)
theorem one_two (v u:AV) (l:List AV):one (v::u::l)= .BM (v::u::l):=(rfl)
end Go.Abs
namespace Go.Abs
variable {P:Program} {G:Gi}
theorem wG (d:Nat) (σ:Sg):Js [] d σ=σ:=(rfl)
theorem wC (G:Gi) (n d:Nat) (σ:Sg) (s:Nat):Fq G n d σ s=if s∈G.Oj d then FG n d (σ s)else σ s:=(rfl)
theorem killS_at (G:Gi) (d:Nat) (σ:Sg) (s:Nat):Jr G d σ s=if s∈G.Oj d then Dg d (σ s)else σ s:=(rfl)
theorem start_at (args:List AV) (s:Nat):start args s=args.getD s .un:=(rfl)
def bK (x:AB8 Sg) (K:Sg->Prop):Prop:=match x with
 |some τ=>K τ
 |none=>False
theorem bK_some (τ:Sg) (K:Sg->Prop):bK (some τ) K=K τ:=(rfl)
theorem bK_none (K:Sg->Prop):bK none K=False:=(rfl)
theorem awp_apd (f:yM) (ops:List BN) (Q:Exit->Sg->Prop) (σ:Sg):ID P G (.apd f ops) Q σ=Ol P G f 0 ops (K3 P G ⟨none,.st 1 (.t f.ap) (.t f.s),none⟩ (Q .normal)) σ:=(rfl)
theorem s6 (f:yM) (m:Nat) (K:Sg->Prop) (σ:Sg):Ol P G f m [] K σ=bK (if wZ f m σ=true then some σ else none) K:=by by_cases h:wZ f m σ=true<;>simp[Ol,bK,h]
theorem mK (f:yM) (m:Nat) (o:BN) (os:List BN) (K:Sg->Prop) (σ:Sg):Ol P G f m (o::os) K σ=bK (if wZ f m σ=true then some σ else none) (K3 P G o (Ol P G f (m+1) os K)):=by by_cases h:wZ f m σ=true<;>simp[Ol,bK,h]
theorem AAU (d:AB8 Dn) (x:Ar) (g:AB8 (Nat×Bool)) (K:Sg->Prop) (σ:Sg):EK P G ⟨d,.std x,g⟩ K σ=bK (Gn G (.std x) d σ) K:=(rfl)
theorem awp_pg (P:Program) (G:Gi) (c:Bool) (r:Nat) (p:List Step) (a:IC) (Q:Exit->Sg->Prop) (σ:Sg):ID P G (.pg c r p a) Q σ=ID P G a (pgQ G c r p Q) σ:=(rfl)
theorem pG (G:Gi) (c:Bool) (r:Nat) (p:List Step) (Q:Exit->Sg->Prop) (σ:Sg):pgQ G c r p Q .normal σ=bK (gzS G c r p σ) (Q .normal):=(rfl)
theorem awp_gz (P:Program) (G:Gi) (c:Bool) (r:Nat) (p:List Step) (a:IC) (Q:Exit->Sg->Prop) (σ:Sg):ID P G (.gz c r p a) Q σ=bK (gzS G c r p σ) (ID P G a Q):=(rfl)
def TE (x:AV) (a b:Sg->Prop) (σ:Sg):Prop:=match x with
 | .sc (.bool x)=>if x=true then a σ else b σ
 |_=>False
theorem qQ (a b:Sg->Prop) (σ:Sg):TE (.sc (.bool true)) a b σ=a σ:=by simp[TE]
theorem qP (a b:Sg->Prop) (σ:Sg):TE (.sc (.bool false)) a b σ=b σ:=by simp[TE]
theorem tY (P:Program) (G:Gi) (c:Ar) (a b:IC) (Q:Exit->Sg->Prop) (σ:Sg):ID P G (.cond c a b) Q σ=TE (ar σ c) (ID P G a Q) (ID P G b Q) σ:=(rfl)
def sC (d:AB8 Dn) (K:Sg->Prop) (σ:Sg):Prop:=match d with
 |some d=>K (DZ (Js d.kl d.d σ) d.d .un)
 |none=>K σ
theorem skipK_s (d:Dn) (K:Sg->Prop) (σ:Sg):sC (some d) K σ=K (DZ (Js d.kl d.d σ) d.d .un):=(rfl)
theorem skipK_n (K:Sg->Prop) (σ:Sg):sC none K σ=K σ:=(rfl)
def gK (x:AV) (want:Bool) (a b:Sg->Prop) (σ:Sg):Prop:=match x with
 | .sc (.bool x)=>if x=want then a σ else b σ
 | .un=>b σ
 |_=>False
theorem gK_tt (a b:Sg->Prop) (σ:Sg):gK (.sc (.bool true)) true a b σ=a σ:=by simp[gK]
theorem gK_tf (a b:Sg->Prop) (σ:Sg):gK (.sc (.bool true)) false a b σ=b σ:=by simp[gK]
theorem gK_ft (a b:Sg->Prop) (σ:Sg):gK (.sc (.bool false)) true a b σ=b σ:=by simp[gK]
theorem gK_ff (a b:Sg->Prop) (σ:Sg):gK (.sc (.bool false)) false a b σ=a σ:=by simp[gK]
theorem gK_un (c:Bool) (a b:Sg->Prop) (σ:Sg):gK .un c a b σ=b σ:=(rfl)
theorem aop_n (d:AB8 Dn) (op:ZR) (K:Sg->Prop) (σ:Sg):K3 P G ⟨d,op,none⟩ K σ=EK P G ⟨d,op,none⟩ K σ:=(rfl)
theorem aop_g (d:AB8 Dn) (op:ZR) (g:Nat) (a:Bool) (K:Sg->Prop) (σ:Sg):K3 P G ⟨d,op,some (g,a)⟩ K σ=gK (σ g) a (EK P G ⟨d,op,some (g,a)⟩ K) (sC d K) σ:=(rfl)
theorem awp_flc (a:List (Nat×Nat×Nat×Nat)) (ops:List BN) (Q:Exit->Sg->Prop) (σ:Sg):ID P G (.aY a ops) Q σ=OA P G ops (Q .normal) σ:=(rfl)
theorem awp_flo (f:yN) (a b:List BN) (Q:Exit->Sg->Prop) (σ:Sg):ID P G (.flo f a b) Q σ=RK P G f a (OA P G b (Q .normal)) σ:=(rfl)
theorem sZ (f:yN) (K:Sg->Prop) (σ:Sg):RK P G f [] K σ=K σ:=(rfl)
theorem mJ (f:yN) (o:BN) (os:List BN) (K:Sg->Prop) (σ:Sg):RK P G f (o::os) K σ=bK (if eE f.kb f.off (σ f.r)=true then some σ else none) (K3 P G o (RK P G f os K)):=by
 show(_/\_)=_;by_cases h:eE f.kb f.off (σ f.r)=true
 . simp[h,bK]
 . simp[h,bK]
theorem zZ (K:Sg->Prop) (σ:Sg):OA P G [] K σ=K σ:=(rfl)
theorem s7 (o:BN) (os:List BN) (K:Sg->Prop) (σ:Sg):OA P G (o::os) K σ=K3 P G o (OA P G os K) σ:=(rfl)
theorem toDst_s (d:Dn) (v:AV) (K:Sg->Prop) (τ:Sg):C3 (some d) v K τ=bK (wr d v τ) K:=(rfl)
theorem toDst_n (v:AV) (K:Sg->Prop) (τ:Sg):C3 none v K τ=K τ:=(rfl)
def pP (x:AB8 AV) (d:AB8 Dn) (K:Sg->Prop) (τ:Sg):Prop:=match x with
 |some v=>C3 d v K τ
 |none=>False
theorem xK (v:AV) (d:AB8 Dn) (K:Sg->Prop) (τ:Sg):pP (some v) d K τ=C3 d v K τ:=(rfl)
def callK (P:Program) (x:AB8 (List AV×Sg)) (f m:Nat) (d:AB8 Dn) (K:Sg->Prop):Prop:=match x with
 |some (Hq,τ)=>∃res,Says P f Hq res/\pP (Sh m res) d K τ
 |none=>False
theorem mY (b:List AV) (τ:Sg) (f m:Nat) (d:AB8 Dn) (K:Sg->Prop):callK P (some (b,τ)) f m d K=∃a,Says P f b a/\pP (Sh m a) d K τ:=(rfl)
theorem tH (d:AB8 Dn) (f:Nat) (args:List Ar) (m:Nat) (g:AB8 (Nat×Bool)) (K:Sg->Prop) (σ:Sg):EK P G ⟨d,.call f args m,g⟩ K σ=callK P (Gm G m args σ) f m d K:=(rfl)
theorem axs_nil (K:Sg->Prop) (σ:Sg):Lh P G [] K σ=K σ:=(rfl)
theorem axs_o (o:BN) (a:List gD) (K:Sg->Prop) (σ:Sg):Lh P G (.o o::a) K σ=K3 P G o (Lh P G a K) σ:=(rfl)
def nilK (x:AB8 (AV×AB8 (Nat×List Step))) (d:Dn) (neg:Bool) (K:Sg->Prop) (σ:Sg):Prop:=match x with
 |some (a,_)=>(match rowsOf a with
  |some rows=>∀b:Bool,(b=true->rows=[])->C3 (some d) (.sc (.bool (if neg=true then !b else b))) K σ
  |none=>False)
 |none=>False
theorem nilK_sl (e:Bool) (k:Nat) (rows:List (List AV)) (c:AB8 (Nat×List Step)) (d:Dn) (a:Bool) (K:Sg->Prop) (σ:Sg):nilK (some (.sl e k rows,c)) d a K σ=∀b:Bool,(b=true->rows=[])->C3 (some d) (.sc (.bool (if a=true then !b else b))) K σ:=(rfl)
theorem AAb (d:Dn) (a:Bool) (x:Ar) (b:List gD) (K:Sg->Prop) (σ:Sg):Lh P G (.Tl d a x::b) K σ=nilK (hd σ x) d a (Lh P G b K) σ:=(rfl)
def gldK (x:AB8 (List Value)) (d:Dn) (K:Sg->Prop) (σ:Sg):Prop:=match x with
 |some cs=>C3 (some d) (.agg (cs.map .sc)) K σ
 |none=>False
theorem vG (a:List Value) (d:Dn) (K:Sg->Prop) (σ:Sg):gldK (some a) d K σ=C3 (some d) (.agg (a.map .sc)) K σ:=(rfl)
theorem axs_gld (d:Dn) (g n:Nat) (a:List gD) (K:Sg->Prop) (σ:Sg):Lh P G (.gld d g n::a) K σ=gldK (iW g n) d (Lh P G a K) σ:=(rfl)
def bxvK (x:AV) (d:Dn) (n s:Nat) (K:Sg->Prop) (σ:Sg):Prop:=match x with
 | .agg cs=>cs.length=n/\∀us:List Value,us.length=n->C3 (some d) (.vb s 0 us) K σ
 |_=>False
theorem bxvK_agg (a:List AV) (d:Dn) (n s:Nat) (K:Sg->Prop) (σ:Sg):bxvK (.agg a) d n s K σ=(a.length=n/\∀b:List Value,b.length=n->C3 (some d) (.vb s 0 b) K σ):=(rfl)
theorem axs_bxv (d:Dn) (n s:Nat) (a:List gD) (K:Sg->Prop) (σ:Sg):Lh P G (.bxv d n s::a) K σ=bxvK (σ s) d n s (Lh P G a K) σ:=(rfl)
def cloK (P:Program) (x:AB8 (List AV)) (f:Nat) (d:AB8 Dn) (K:Sg->Prop) (σ:Sg):Prop:=match x with
 |some Hq=>∃res,Says P f Hq res/\pP (Sh 0 res) d K σ
 |none=>False
theorem uJ (f:Nat) (b:List AV) (d:AB8 Dn) (K:Sg->Prop) (σ:Sg):cloK P (some b) f d K σ=∃a,Says P f b a/\pP (Sh 0 a) d K σ:=(rfl)
theorem AAa (d:AB8 Dn) (f:Nat) (x:Ar) (args:List Ar) (g:Nat) (b:Bool) (a:List gD) (K:Sg->Prop) (σ:Sg):Lh P G (.clo d f x args (some (g,b))::a) K σ=gK (σ g) b (nQ P d f x args (Lh P G a K)) (sC d (Lh P G a K)) σ:=(rfl)
theorem cloP_at (d:AB8 Dn) (f:Nat) (x:Ar) (args:List Ar) (K:Sg->Prop) (σ:Sg):nQ P d f x args K σ=cloK P (cloA σ f x args) f d K σ:=(rfl)
theorem AAS (d:AB8 Dn) (f:Nat) (a:List Ar) (g:AB8 (Nat×Bool)) (K:Sg->Prop) (σ:Sg):EK P G ⟨d,.mkf f a,g⟩ K σ=bK (Gn G (.mkf f a) d σ) K:=(rfl)
def lndK (P:Program) (G:Gi) (x:AB8 (Nat×List Step)) (Hq bs:AB8 (List AV)) (a:AV->AV) (c:AB8 Nat) (f:Nat) (d:AB8 Dn) (K:Sg->Prop) (σ:Sg):Prop:=match x,Hq,bs with
 |some (r,p),some Hq,some bs=>(match sub (σ r) p with
  |some (.own b k rows)=>∃res out o,BA P f (Hq++a (.own b k rows)::bs) res ((Hq.map λ_=>.dead)++out::bs.map λ_=>.dead)/\S5 c out=some o/\Ib o=true/\clean res=true/\(match put (σ r) p o with
   |some t=>C3 d res K (DZ (Fq G (Te o b k p) r σ) r t)
   |none=>False)
  |_=>False)
 |_,_,_=>False
theorem AAR (d:AB8 Dn) (f:Nat) (b:List Ar) (x:Ar) (c:AB8 Nat) (a:List Ar) (g:AB8 (Nat×Bool)) (K:Sg->Prop) (σ:Sg):EK P G ⟨d,.VW f b x c a,g⟩ K σ=lndK P G (P1 σ x c) (NO σ b) (NO σ a) (Td σ x c) c f d K σ:=(rfl)
theorem arun_cp (d:AB8 Dn) (x:Ar) (g:AB8 (Nat×Bool)) (K:Sg->Prop) (σ:Sg):EK P G ⟨d,.cp x,g⟩ K σ=bK (Gn G (.cp x) d σ) K:=(rfl)
theorem arun_mv (d:AB8 Dn) (x:Ar) (g:AB8 (Nat×Bool)) (K:Sg->Prop) (σ:Sg):EK P G ⟨d,.mv x,g⟩ K σ=bK (Gn G (.mv x) d σ) K:=(rfl)
theorem tO (d:AB8 Dn) (c:Ar) (a:Ar) (b:Ar) (g:AB8 (Nat×Bool)) (K:Sg->Prop) (σ:Sg):EK P G ⟨d,.pick c a b,g⟩ K σ=bK (Gn G (.pick c a b) d σ) K:=(rfl)
theorem arun_bx (d:AB8 Dn) (n:Nat) (x:Ar) (g:AB8 (Nat×Bool)) (K:Sg->Prop) (σ:Sg):EK P G ⟨d,.bx n x,g⟩ K σ=bK (Gn G (.bx n x) d σ) K:=(rfl)
theorem AAH (d:AB8 Dn) (z:List AV) (a:List (Nat×Nat×Ar)) (g:AB8 (Nat×Bool)) (K:Sg->Prop) (σ:Sg):EK P G ⟨d,.Uc z a,g⟩ K σ=bK (Gn G (.Uc z a) d σ) K:=(rfl)
theorem AAI (d:AB8 Dn) (n:Nat) (z:List (List AV)) (a:List (Nat×Ar)) (g:AB8 (Nat×Bool)) (K:Sg->Prop) (σ:Sg):EK P G ⟨d,.Na n z a,g⟩ K σ=bK (Gn G (.Na n z a) d σ) K:=(rfl)
theorem arun_ld (d:AB8 Dn) (ag:Bool) (n:Nat) (x:Ar) (g:AB8 (Nat×Bool)) (K:Sg->Prop) (σ:Sg):EK P G ⟨d,.ld ag n x,g⟩ K σ=bK (Gn G (.ld ag n x) d σ) K:=(rfl)
theorem arun_st (d:AB8 Dn) (n:Nat) (x:Ar) (y:Ar) (g:AB8 (Nat×Bool)) (K:Sg->Prop) (σ:Sg):EK P G ⟨d,.st n x y,g⟩ K σ=bK (Gn G (.st n x y) d σ) K:=(rfl)
theorem AAL (d:AB8 Dn) (n:Nat) (x:Ar) (g:AB8 (Nat×Bool)) (K:Sg->Prop) (σ:Sg):EK P G ⟨d,.VK n x,g⟩ K σ=bK (Gn G (.VK n x) d σ) K:=(rfl)
theorem AAN (d:AB8 Dn) (n:Nat) (x:Ar) (y:Ar) (g:AB8 (Nat×Bool)) (K:Sg->Prop) (σ:Sg):EK P G ⟨d,.W4 n x y,g⟩ K σ=bK (Gn G (.W4 n x y) d σ) K:=(rfl)
theorem AAD (d:AB8 Dn) (n:Nat) (m:Nat) (x:Ar) (y:Ar) (g:AB8 (Nat×Bool)) (K:Sg->Prop) (σ:Sg):EK P G ⟨d,.aad n m x y,g⟩ K σ=bK (Gn G (.aad n m x y) d σ) K:=(rfl)
theorem AAO (d:AB8 Dn) (ag:Bool) (n:Nat) (m:Nat) (x:Ar) (y:Ar) (g:AB8 (Nat×Bool)) (K:Sg->Prop) (σ:Sg):EK P G ⟨d,.idx ag n m x y,g⟩ K σ=bK (Gn G (.idx ag n m x y) d σ) K:=(rfl)
theorem AAG (d:AB8 Dn) (a:BinOp) (x:Ar) (y:Ar) (g:AB8 (Nat×Bool)) (K:Sg->Prop) (σ:Sg):EK P G ⟨d,.bin a x y,g⟩ K σ=bK (Gn G (.bin a x y) d σ) K:=(rfl)
theorem AAF (d:AB8 Dn) (ag:Bool) (x:Ar) (y:Ar) (g:AB8 (Nat×Bool)) (K:Sg->Prop) (σ:Sg):EK P G ⟨d,.beq ag x y,g⟩ K σ=bK (Gn G (.beq ag x y) d σ) K:=(rfl)
theorem arun_un (d:AB8 Dn) (a:UnOp) (x:Ar) (g:AB8 (Nat×Bool)) (K:Sg->Prop) (σ:Sg):EK P G ⟨d,.un a x,g⟩ K σ=bK (Gn G (.un a x) d σ) K:=(rfl)
theorem AAJ (d:AB8 Dn) (a:IntKind) (x:Ar) (g:AB8 (Nat×Bool)) (K:Sg->Prop) (σ:Sg):EK P G ⟨d,.cvt a x,g⟩ K σ=bK (Gn G (.cvt a x) d σ) K:=(rfl)
theorem AAQ (d:AB8 Dn) (x:Ar) (g:AB8 (Nat×Bool)) (K:Sg->Prop) (σ:Sg):EK P G ⟨d,.len x,g⟩ K σ=bK (Gn G (.len x) d σ) K:=(rfl)
theorem tS (d:AB8 Dn) (x y:Ar) (g:AB8 (Nat×Bool)) (K:Sg->Prop) (σ:Sg):EK P G ⟨d,.lE x y,g⟩ K σ=bK (Gn G (.lE x y) d σ) K:=(rfl)
theorem arun_mm (d:AB8 Dn) (mx:Bool) (x y:Ar) (g:AB8 (Nat×Bool)) (K:Sg->Prop) (σ:Sg):EK P G ⟨d,.mm mx x y,g⟩ K σ=bK (Gn G (.mm mx x y) d σ) K:=(rfl)
theorem tQ (d:AB8 Dn) (a:Bool) (b:List Nat) (x y:Ar) (g:AB8 (Nat×Bool)) (K:Sg->Prop) (σ:Sg):EK P G ⟨d,.Wf a b x y,g⟩ K σ=bK (Gn G (.Wf a b x y) d σ) K:=(rfl)
theorem tT (d:AB8 Dn) (x:Ar) (g:AB8 (Nat×Bool)) (K:Sg->Prop) (σ:Sg):EK P G ⟨d,.Z6 x,g⟩ K σ=bK (Gn G (.Z6 x) d σ) K:=(rfl)
theorem AAE (d:AB8 Dn) (n:Nat) (m:Nat) (x:Ar) (y:Ar) (g:AB8 (Nat×Bool)) (K:Sg->Prop) (σ:Sg):EK P G ⟨d,.app n m x y,g⟩ K σ=bK (Gn G (.app n m x y) d σ) K:=(rfl)
theorem AAT (d:AB8 Dn) (n:Nat) (ag:Bool) (x:Ar) (lo:AB8 Ar) (hi:AB8 Ar) (mx:AB8 Ar) (g:AB8 (Nat×Bool)) (K:Sg->Prop) (σ:Sg):EK P G ⟨d,.zC n ag x lo hi mx,g⟩ K σ=bK (Gn G (.zC n ag x lo hi mx) d σ) K:=(rfl)
theorem AAK (d:AB8 Dn) (x:Ar) (n:Nat) (g:AB8 (Nat×Bool)) (K:Sg->Prop) (σ:Sg):EK P G ⟨d,.ext x n,g⟩ K σ=bK (Gn G (.ext x n) d σ) K:=(rfl)
theorem arun_mk (d:AB8 Dn) (n:Nat) (m:Nat) (z:List AV) (l:Ar) (c:Ar) (g:AB8 (Nat×Bool)) (K:Sg->Prop) (σ:Sg):EK P G ⟨d,.mk n m z l c,g⟩ K σ=bK (Gn G (.mk n m z l c) d σ) K:=(rfl)
theorem arun_fl (d:AB8 Dn) (g:AB8 (Nat×Bool)) (K:Sg->Prop) (σ:Sg):EK P G ⟨d,.fl,g⟩ K σ=bK (Gn G .fl d σ) K:=(rfl)
theorem AAM (d:AB8 Dn) (x:Ar) (k:Nat) (g:AB8 (Nat×Bool)) (K:Sg->Prop) (σ:Sg):EK P G ⟨d,.flk x k,g⟩ K σ=bK (Gn G (.flk x k) d σ) K:=(rfl)
theorem tJ (d:AB8 Dn) (r off kb k:Nat) (i:Ar) (g:AB8 (Nat×Bool)) (K:Sg->Prop) (σ:Sg):EK P G ⟨d,.jM r off kb k i,g⟩ K σ=bK (Gn G (.jM r off kb k i) d σ) K:=(rfl)
theorem AAP (d:AB8 Dn) (x:Ar) (g:AB8 (Nat×Bool)) (K:Sg->Prop) (σ:Sg):EK P G ⟨d,.YO x,g⟩ K σ=bK (Gn G (.YO x) d σ) K:=(rfl)
theorem AAV (d:AB8 Dn) (x y:Ar) (g:AB8 (Nat×Bool)) (K:Sg->Prop) (σ:Sg):EK P G ⟨d,.XC x y,g⟩ K σ=bK (Gn G (.XC x y) d σ) K:=(rfl)
theorem tK (d:AB8 Dn) (x:Ar) (g:AB8 (Nat×Bool)) (K:Sg->Prop) (σ:Sg):EK P G ⟨d,.KK x,g⟩ K σ=bK (Gn G (.KK x) d σ) K:=(rfl)
end Go.Abs
namespace Go.Abs
variable {w w':World} {S S':Nat->Prop} {G:Gi} {δ:Nat->DV} {Fr:Nat->Nat->Prop} {P:Program}
def qC (G:Gi) (rs:List RV) (res:AV) (e:Exit) (σ:Sg):Prop:=
 (match e with| .normal=>True| .ret=>True|_=>False)/\∃vs τ,GH G rs σ=some (vs,τ)/\one (vs.map yT)=res
def pK (x:AB8 (List AV×Sg)) (res:AV):Prop:=match x with
 |some (vs,_)=>one (vs.map yT)=res
 |none=>False
theorem kM (vs:List AV) (τ:Sg) (a:AV):pK (some (vs,τ)) a=(one (vs.map yT)=a):=(rfl)
theorem sO (G:Gi) (rs:List RV) (a:AV) (σ:Sg):qC G rs a .ret σ=pK (GH G rs σ) a:=by
 unfold qC pK;cases GH G rs σ with
 |none=>simp
 |some x=>obtain⟨vs,τ⟩:=x;simp
theorem aZ (ds:List DV):∀{F:Nat->Prop},Jm w S ds F->∃a:List DV,a.map DV.er=(ds.map DV.er).map yT/\a.map DV.A0=ds.map DV.A0/\Jm w (λx=>S x∨F x) a (λ_=>False):=by
 induction ds with
 |nil=>intro F h;exact⟨[],rfl,rfl,λ_ h=>h⟩
 |cons d ds ih=>
  rintro F ⟨n,o,l,m,p,e⟩;obtain⟨D,i,j,k⟩:=iV l;obtain⟨a,d1,f,g⟩:=ih m;refine⟨D::a,by simp[i,d1],by simp[j,f],⟨λ_=>False,λ_=>False,?_,?_,λ_ h=>h.elim,λx=>by simp⟩⟩
  . exact k.mono (λ_ _=>rfl) (λ_ h=>h.elim) (λb c=>c.imp id λh=>(e b).2 (.inl h)) (λ_ h=>h.elim)
  . exact g.mono (λ_ _=>rfl) (λ_ h=>h.elim) (λb c=>c.imp id λh=>(e b).2 (.inr h)) (λ_ h=>h.elim)
theorem Tr (ds:List DV):(PF ds).A0=YV (ds.map DV.A0):=by
 match ds with
 |[]=>simp[PF,YV]
 |[d]=>simp[PF,YV]
 |_::_::_=>simp[PF,YV]
theorem kY {f:Nat} {j:Func} {I:FI} {args:List AV} {i:AV} (L:P.follows .mixedOrders=true) (K:P.funcs[f]? =some j) (J:Lj P j I=true) (hn:args.length≤j.ntmps) (t:args.all I7=true)
 (h:ID P I.g I.c (qC I.g I.r i) (start args)):Says P f args i:=by
 intro w S ds F y u p H;subst u;refine Qe (m:=0) L K J (by simpa using hn) t (λc _=>Pa c) y p H h ?_;rintro k R S1 T V tmps o s e q z _ v;have l:k= .normal∨k= .ret:=by obtain⟨h,_⟩:=o;cases k<;>simp_all
 refine⟨l,?_⟩;obtain⟨_,vs,τ,C,B⟩:=o;obtain⟨U,FD,D,g2,n,E,_⟩:=JQ j.results.toList s z v C;obtain⟨Ds',N,O,Q⟩:=aZ _ n;have G:Jm R (λx=>S1 x∨FD x) (ds.map λd=>DV.lf .dead d.A0) (λ_=>False):=by refine CC λd hd=> ?_;obtain⟨x,_,rfl⟩:=AB0.1 hd;exact .lf _ _ _ trivial (λ_ h=>h)
 refine⟨_,UL g2,PF Ds',ds.map λd=>DV.lf .dead d.A0,λx=>S1 x∨FD x,λ_=>False,by rw[Tr,Tr,O],by rw[Ts,N,D,B],by simp,by simp,A8.2 ⟨λ_=>False,λ_=>False,OS Q,G,λ_ h=>h.elim,λx=>by simp⟩,⟨e.os,e.tape,e.output,e.size,e.block⟩,λb a=>.inl (e.sub b a),?_,?_,λx M=>M.elim⟩
 . rintro b (a|a)
   . exact e.sup b a
   . exact .inr (e.own b (E b a))
 . rintro b (a|a)
   . exact q b a
   . exact(OS n).lt b a
def Yy (x:AB8 (List AV×Sg)) (res:AV) (outs:List AV):Prop:=match x with
 |some (vs,τ)=>one vs=res/\Tu τ 0 outs
 |none=>False
theorem kN (vs:List AV) (τ:Sg) (b:AV) (a:List AV):Yy (some (vs,τ)) b a=(one vs=b/\Tu τ 0 a):=(rfl)
theorem sP (G:Gi) (rs:List RV) (b:AV) (a:List AV) (σ:Sg):XH G rs b a .ret σ=Yy (GH G rs σ) b a:=by
 unfold XH Yy;cases GH G rs σ with
 |none=>simp
 |some x=>obtain⟨vs,τ⟩:=x;simp only[AAh,AAv,true_and,eq_iff_iff];exact⟨λ⟨_,_,⟨c,d⟩,h⟩=>by subst c;subst d;exact h,λh=>⟨_,_,⟨rfl,rfl⟩,h⟩⟩
theorem cU (G:Gi) (rs:List RV) (b:AV) (a:List AV) (σ:Sg):XH G rs b a .normal σ=Yy (GH G rs σ) b a:=by
 unfold XH Yy;cases GH G rs σ with
 |none=>simp
 |some x=>obtain⟨vs,τ⟩:=x;simp only[AAh,AAv,true_and,eq_iff_iff];exact⟨λ⟨_,_,⟨c,d⟩,h⟩=>by subst c;subst d;exact h,λh=>⟨_,_,⟨rfl,rfl⟩,h⟩⟩
end Go.Abs
namespace Go.Abs
attribute [go_sem] qK awp_reg awp_rex tX AAZ AAX awp_ret awp_gz awp_pg awp_apd s6 mK AAU wZ Pp SD pG gzS czS tY qQ qP zZ s7 aop_n aop_g gK_tt gK_tf gK_ft gK_ff
attribute [go_sem] gK_un skipK_s skipK_n bK_some bK_none toDst_s toDst_n xK mY tH axs_nil axs_o nilK_sl AAb arun_cp arun_mv
attribute [go_sem] tO arun_bx AAH AAI arun_ld arun_st AAL AAN AAD AAO AAG AAF arun_un AAJ AAQ tT AAE AAT
attribute [go_sem] Int.reduceToNat arun_mm tQ uT Qg tS axs_gld vG Ri AAK arun_mk awp_flc awp_flo sZ mJ eE arun_fl AAM tJ AAP AAV tK Gn tk Z7 wr valOf binF binI unF view QR QQ NC vC vF It Jd
attribute [go_sem] Hl Fj cellsOf C9 ar hd mP EL wG Tb killS_at wC FG Up Dg Pq DZ F9 QG Vx Vy fE stC
attribute [go_sem] sub put Qv JZ TF Nt zA Vu XV Gm KM kE Tz zB NW lU yT fzl Sh aX
attribute [go_sem] fresh Pb Ru xD rowsOf Ib lC xS seqA_ret Zb PY mW Gi.Oj start_at if_true ite_true ite_false if_false Option.map_some
attribute [go_sem] Bool.false_eq_true List.getD_cons_zero List.getD_cons_succ true_and and_true and_self false_and and_false Int.natCast_nonneg Int.toNat_natCast List.take_succ_cons List.take_zero List.drop_zero List.drop_succ_cons List.map_cons List.map_nil List.length_cons List.length_nil Nat.zero_add decide_eq_true_eq
attribute [go_sem] List.getElem?_cons_zero List.getElem?_cons_succ List.all_cons List.all_nil Bool.and_true Bool.true_and Nat.le_refl List.nil_append List.append_nil beq_self_eq_true bne_self_eq_false beq_iff_eq bne_iff_ne ne_eq not_true_eq_false not_false_eq_true zJ sO
attribute [go_sem] kM GH pO one_one one_two AV.sc.injEq Value.bool.injEq Value.int.injEq AV.BM.injEq AV.agg.injEq List.cons.injEq AV.own.injEq AV.sl.injEq Option.some.injEq Prod.mk.injEq exists_and_left exists_eq_left exists_eq_left' exists_eq
attribute [go_sem] List.contains_nil List.filter_nil List.flatMap_nil List.not_mem_nil List.filter_cons Bool.not_true Bool.not_false Int.toNat_zero Nat.lt_irrefl Nat.sub_zero List.isEmpty_nil List.contains_cons Bool.or_false Bool.false_or Bool.or_true Bool.true_or List.mem_cons or_false false_or
attribute [go_sem] or_true true_or or_self Nat.lt_add_one Nat.zero_lt_one List.set_cons_zero List.set_cons_succ Zg Ni List.cons_append List.drop_nil List.take_nil Bool.not_eq_true Bool.and_false Bool.false_and Bool.and_self List.any_cons List.any_nil decide_true decide_false
attribute [go_sem] eq_self Wi Xc axs_bxv bxvK_agg AAa cloP_at uJ cloA uE S7 AAS AAR SU rdF NO P1 Td S5 clean Ki sP cU kN Tu
theorem frzR_set (a:List (List AV)) (i:Nat) (x:List AV):Ni (a.set i x)=(Ni a).set i (Zg x):=by simp[Wy,Wx,ABY]
attribute [go_sem] frzR_set List.isEmpty_cons
end Go.Abs
namespace Go.Abs
variable {w w':World} {S S':Nat->Prop} {G:Gi} {δ:Nat->DV} {Fr:Nat->Nat->Prop} {P:Program}
inductive MO where
 |mp (es:List (AB9×Value))
 |it (s:AB9) (pos:Nat)
def MO.is:MO->Obj->Prop
 | .mp es,o=>∃arr c,o= .map arr c/\arr.toList.map (λe=>(e.key,e.val))=es.map λx=>(Value.string x.1,x.2)
 | .it s p,o=>o= .stringIter s p
abbrev Mu:=Nat->AB8 MO
def Jv (G:Gi) (n:Nat) (w0:World) (S0 U0:Nat->Prop) (a:Act) (w:World) (σ:Sg) (μ:Mu):Prop:=
 ∃(w1:World) (S1 U1:Nat->Prop),Nx w0 S0 U0 w1 S1 U1/\ZX w1 S1 U1/\
  (∀b o,μ b=some o->b<w1.heap.size/\¬S1 b/\¬U1 b/\w0.heap.size≤b/\∃ob,w1.heap[b]? =some ob/\o.is ob)/\Rel G n w1 S1 U1 a w σ
variable {n:Nat} {w0:World} {S0 U0:Nat->Prop} {a:Act} {σ:Sg} {μ:Mu}
theorem Jv.start (b:ZX w0 S0 U0) (h:Rel G n w0 S0 U0 a w σ):Jv G n w0 S0 U0 a w σ (λ_=>none):=
 ⟨w0,S0,U0,Nx.refl _ _ _,b,λ_ _ h=>by(cases h),h⟩
theorem Jv.toRel (h:Jv G n w0 S0 U0 a w σ μ):Rel G n w0 S0 U0 a w σ:=by obtain⟨m,S1,U1,j,l,k,S,δ,F,b,c,d,e,f,g,i⟩:=h;exact⟨S,δ,F,b,c,d,e,f,j.trans g,i⟩
theorem Jv.obj (h:Jv G n w0 S0 U0 a w σ μ) {b:Nat} {o:MO} (j:μ b=some o):∃ob,w.heap[b]? =some ob/\o.is ob:=by obtain⟨v,S1,U1,u,t,c,S,δ,F,l,m,p,q,r,i,s⟩:=h;obtain⟨d,g2,e,k,ob,f,g⟩:=c b o j;exact⟨ob,by rw[i.block b d e];exact f,g⟩
theorem Jv.fresh (h:Jv G n w0 S0 U0 a w σ μ):μ w.heap.size=none:=by
 cases hb:μ w.heap.size with
 |none=>rfl
 |some o=>
  obtain⟨ob,b,_⟩:=h.obj hb
  have:=(ABN.1 b).1;omega
theorem Jv.turn (h:Jv G n w0 S0 U0 a w σ μ) {b:Nat} {o':MO} {ob':Obj} (K:(∃o,μ b=some o)∨b=w.heap.size) (M:w'.os=w.os) (O:w'.tape=w.tape) (N:w'.output=w.output) (u:w.heap.size≤w'.heap.size)
 (g:∀c,c<w.heap.size->c≠b->w'.heap[c]? =w.heap[c]?) (V:w'.heap[b]? =some ob') (L:o'.is ob'):Jv G n w0 S0 U0 a w' σ (DZ μ b (some o')):=by
 obtain⟨w1,S1,U1,P,hG,R,S,δ,F,X,Z,h3,rfl,y,m,z⟩:=h;have v:∀c o,μ c=some o->c<w.heap.size/\¬S c/\¬BE F c/\w0.heap.size≤c/\∃ob,w.heap[c]? =some ob/\o.is ob:=by
  intro c o d;obtain⟨C,g2,p,D,ob,H,I⟩:=R c o d;have B:=m.size;refine⟨by omega,?_,?_,D,ob,by rw[m.block c C p];exact H,I⟩
  . intro hS;rcases m.sup c hS with k|k|k
    . exact g2 k
    . exact p k
    . omega
  . intro J;rcases m.own c J with k|k
    . exact p k
    . omega
 have i:∀x,BE F x->x<w.heap.size:=λx ⟨s,B⟩=>(y.ok s).lt x B;have q:¬S b:=by
  rcases K with⟨o,t⟩|rfl
  . exact(v b o t).2.1
  . intro k;have:=z _ k;omega
 have T:¬BE F b:=by
  rcases K with⟨o,t⟩|rfl
  . exact(v b o t).2.2.1
  . intro k;have:=i _ k;omega
 have e:=P.trans m;have vL:w0.heap.size≤b:=by
  rcases K with⟨o,t⟩|rfl
  . exact(v b o t).2.2.2.1
  . exact e.size
 have r:b<w'.heap.size:=(ABN.1 V).1;have f:∀c,S c->w'.heap[c]? =w.heap[c]? :=λc d=>g c (z c d) (by rintro rfl;exact q d);have j:∀s x,F s x->w'.heap[x]? =w.heap[x]? :=λs x d=>g x (i x ⟨s,d⟩) (by rintro rfl;exact T ⟨s,d⟩);have W:St G w' S δ F:=y.world f j (λ_ h=>h) (λs x P=>(y.ok s).E7 x P);refine⟨w',S,BE F,?_,?_,?_,S,δ,F,X,Z,h3,rfl,W,Nx.refl _ _ _,λc d=>ABk (z c d) u⟩
 . refine⟨M.trans e.os,O.trans e.tape,N.trans e.output,ABc e.size u,?_,e.sub,e.sup,λhl c d=>ABk (e.lt hl c d) u,e.own⟩;intro c d J;rw[g c (ABk d e.size) (by omega),e.block c d J]
 . refine⟨?_,λc d=>⟨λ⟨s,B⟩=>(y.ok s).E7 c B d,ABk (z c d) u⟩⟩;intro x Q;obtain⟨U,arr,E,fz,k2,k3⟩:=(hG.now m) x Q;exact⟨U,arr,E,fz,by rw[f _ U];exact k2,k3⟩
 . intro c o d;by_cases l:c=b
   . subst l;rw[BI]at d;obtain rfl:=AAl d;exact⟨r,q,T,vL,ob',V,L⟩
   . rw[Ba _ _ l]at d;obtain⟨C,g2,p,D,ob,H,I⟩:=v c o d;exact⟨by omega,g2,p,D,ob,by rw[g c C l];exact H,I⟩
theorem Rel.Di (h:Rel G n w0 S0 U0 a w σ) {o:Oper} {dst:AB8 Dn} (k:Dz G n o.dst dst=true) {D:DV} {K:Sg->Prop} (g:∀w S,Ok w S D (λ_=>False)) (f:∀δ,Dd δ D) (i:C3 dst D.er K σ):
 ∃σ',Rel G n w0 S0 U0 (a.put o.dst D.A0) w σ'/\K σ':=by
 obtain⟨S,δ,Fr,hn,d,j,rfl,c,e,b⟩:=h;have hd:=Ee k hn;exact Lu (S2:=S) (D:=D) (FD:=λ_=>False) (v:=D.er) (K:=K) c hn d j hd rfl (λ_ _=>rfl) b (λ_ h=>h) (λ_ h=>.inl h) b (g w S) (λ_ h=>h.elim) (f δ) e rfl rfl rfl (AA8 _) i
theorem Jv.Di (h:Jv G n w0 S0 U0 a w σ μ) {o:Oper} {dst:AB8 Dn} (l:Dz G n o.dst dst=true) {D:DV} {K:Sg->Prop} (f:∀w S,Ok w S D (λ_=>False)) (c:∀δ,Dd δ D) (i:C3 dst D.er K σ):
 ∃σ',Jv G n w0 S0 U0 (a.put o.dst D.A0) w σ' μ/\K σ':=by
 obtain⟨m,S1,U1,k,g,b,j⟩:=h;obtain⟨σ',d,e⟩:=j.Di l f c i;exact⟨σ',⟨m,S1,U1,k,g,b,d⟩,e⟩
theorem Jv.FB (h:Jv G n w0 S0 U0 a w σ μ) {x:Operand} {y:Ar} (d:CM x y=true) {v:Value} (f:ar σ y= .sc v):a.eval x=v/\Ge v=true:=by obtain⟨S,δ,Fr,hn,j,c,rfl,b,k,i⟩:=h.toRel;obtain⟨g,e⟩:=Am d c;rw[e];exact b.FB g f
def Mq (es:List (AB9×Value)) (s:AB9) (z:Value):Value:=match es.find? (λx=>x.1==s)with
 |some x=>x.2
 |none=>z
def mH (es:List (AB9×Value)) (s:AB9) (v:Value):List (AB9×Value):=es++[(s,v)]
inductive mC where
 |x (o:gD)
 |mkm (d:Dn)
 |lkp (g:AB8 (Nat×Bool)) (d:Dn) (m k:Ar)
 |mup (m k v:Ar)
 |rng (d:Dn) (x:Ar)
 |nxt (d:Dn) (x:Ar)
def gM (g:AB8 (Nat×Bool)) (d:Dn) (A:Sg->Prop) (K:Sg->Prop) (σ:Sg):Prop:=match g with
 |none=>A σ
 |some (s,want)=>gK (σ s) want A (λσ=>K (DZ (Js d.kl d.d σ) d.d .un)) σ
theorem gM_gd {g:AB8 (Nat×Bool)} {d:Dn} {A K:Sg->Prop} {σ:Sg} (h:gM g d A K σ):gdP g A (ZF (some d) K) σ:=by cases g<;>exact h
def lkpK (m k:AV) (μ:Mu) (d:Dn) (K:Sg->Prop) (σ:Sg):Prop:=match m,k with
 | .sc (.map (some b)),.sc (.string s)=>match μ b with
  |some (.mp es)=>Ge (Mq es s (.bool false))=true/\C3 (some d) (.sc (Mq es s (.bool false))) K σ
  |_=>False
 |_,_=>False
def mupK (m k v:AV) (μ:Mu) (K:Mu->Prop):Prop:=match m,k,v with
 | .sc (.map (some b)),.sc (.string s),.sc u=>match μ b with
  |some (.mp es)=>es.all (λx=> !(x.1==s))=true/\K (DZ μ b (some (.mp (mH es s u))))
  |_=>False
 |_,_,_=>False
def rngK (x:AV) (d:Dn) (K:Sg->Mu->Prop) (σ:Sg) (μ:Mu):Prop:=match x with
 | .sc (.string s)=>∀b,μ b=none->C3 (some d) (.sc (.pointer (some ⟨b,0,none⟩))) (λσ'=>K σ' (DZ μ b (some (.it s 0)))) σ
 |_=>False
def nxtK (x:AV) (d:Dn) (K:Sg->Mu->Prop) (σ:Sg) (μ:Mu):Prop:=match x with
 | .sc (.pointer (some ⟨b,0,none⟩))=>match μ b with
  |some (.it s pos)=>if pos<s.size then C3 (some d) (.BM [.sc (.bool true),.sc (.int .i64 pos),.sc (.int .i32 (Utf8.decode s pos).1)]) (λσ'=>K σ' (DZ μ b (some (.it s (pos+(Utf8.decode s pos).2))))) σ
   else C3 (some d) (.BM [.sc (.bool false)]) (λσ'=>K σ' μ) σ
  |_=>False
 |_=>False
def O7 (P:Program) (G:Gi):List mC->(Sg->Mu->Prop)->Sg->Mu->Prop
 |[],K,σ,μ=>K σ μ
 | .x o::l,K,σ,μ=>Lh P G [o] (λσ'=>O7 P G l K σ' μ) σ
 | .mkm d::l,K,σ,μ=>∀b,μ b=none->C3 (some d) (.sc (.map (some b))) (λσ'=>O7 P G l K σ' (DZ μ b (some (.mp [])))) σ
 | .lkp g d m k::l,K,σ,μ=>gM g d (λσ=>lkpK (ar σ m) (ar σ k) μ d (λσ'=>O7 P G l K σ' μ) σ) (λσ'=>O7 P G l K σ' μ) σ
 | .mup m k v::l,K,σ,μ=>mupK (ar σ m) (ar σ k) (ar σ v) μ (λν=>O7 P G l K σ ν)
 | .rng d x::l,K,σ,μ=>rngK (ar σ x) d (O7 P G l K) σ μ
 | .nxt d x::l,K,σ,μ=>nxtK (ar σ x) d (O7 P G l K) σ μ
def Wr (P:Program) (t:TypeId) (zb:Bool):Bool:=match P.underlying t with
 |some (.map kt et)=>(match P.underlying kt with|some .string=>true|_=>false)&&(!zb||(match(P.info? et).bind (·.zero)with|some (.bool false)=>true|_=>false))
 |_=>false
def nM (P:Program) (G:Gi) (n:Nat) (ops:Array Oper) (o:Oper):mC->Bool
 | .x io=>iG P G n ops o io
 | .mkm d=>o.guard.isNone&&Dz G n o.dst (some d)&&(match o.op with| .makeMap _ none=>true|_=>false)
 | .lkp g d m k=>K5 n ops o.guard g&&Dz G n o.dst (some d)&&(match o.op with| .lookup t m' k' false=>CM m' m&&CM k' k&&Wr P t true|_=>false)
 | .mup m k v=>o.guard.isNone&&Dz G n o.dst none&&(match o.op with| .mapUpdate t m' k' v'=>CM m' m&&CM k' k&&CM v' v&&Wr P t false|_=>false)
 | .rng d x=>o.guard.isNone&&Dz G n o.dst (some d)&&(match o.op with| .range t x'=>CM x' x&&(match P.underlying t with|some .string=>true|_=>false)|_=>false)
 | .nxt d x=>o.guard.isNone&&Dz G n o.dst (some d)&&(match o.op with| .next x' true=>CM x' x|_=>false)
end Go.Abs
namespace Go.Abs
open Go.MapKept
variable {w w':World} {S S':Nat->Prop} {G:Gi} {δ:Nat->DV} {Fr:Nat->Nat->Prop} {P:Program}
variable {n:Nat} {w0:World} {S0 U0:Nat->Prop} {a:Act} {σ:Sg} {μ:Mu}
theorem okSc (v:Value) (a:Ge v=true) (w:World) (S:Nat->Prop):Ok w S (.lf (.sc v) v) (λ_=>False):=.lf _ _ _ ⟨rfl,a⟩ (λ_ h=>h)
theorem okTup (l:List Value) (b:∀v∈l,Ge v=true) (w:World) (S:Nat->Prop):Ok w S (.BM (l.map λv=>.lf (.sc v) v)) (λ_=>False):=by refine A8.2 (CC λD a=> ?_);obtain⟨v,c,rfl⟩:=AB0.1 a;exact okSc v (b v c) w S
theorem alTup (l:List Value) (δ:Nat->DV):Dd δ (.BM (l.map λv=>.lf (.sc v) v)):=by refine .BM _ λi D a=> ?_;obtain⟨v,b,rfl⟩:=AB0.1 (AAu a);exact .lf _ _ trivial
theorem TJ {b:List (AB9×Value)} {arr:List MapEntry} (h:arr.map (λe=>(e.key,e.val))=b.map λx=>(Value.string x.1,x.2)) (s:AB9) (i:Nat):
 (b.find? (λx=>x.1==s)=none/\Instr.findNow .string (.string s) arr i=some none)∨∃x j,b.find? (λx=>x.1==s)=some x/\Instr.findNow .string (.string s) arr i=some (some (j,x.2)):=by
 induction b generalizing arr i with
 |nil=>cases arr with
  |nil=>exact .inl ⟨rfl,rfl⟩
  |cons e r=>simp at h
 |cons x b ih=>
  cases arr with
  |nil=>simp at h
  |cons e r=>
   simp only[AAy,List.cons.injEq,AAv]at h;obtain⟨⟨d,g⟩,k⟩:=h;by_cases a:(s==x.1)=true
   . have c:(x.1==s)=true:=(by rw[bytes_beq]at a ⊢;exact a.symm);exact .inr ⟨x,i,by simp[List.find?,c],by simp[Instr.findNow,d,Instr.sameNow,a,g]⟩
   . have c:(x.1==s)=false:=(by rw[← Bool.not_eq_true,bytes_beq];rw[bytes_beq]at a;exactλe=>a e.symm);have f:(s==x.1)=false:=(by simpa using a);rcases ih k (i+1)with⟨k1,k2⟩|⟨y,j,k1,k2⟩
     . exact .inl ⟨by simp[List.find?,c,k1],by simp[Instr.findNow,d,Instr.sameNow,f,k2]⟩
     . exact .inr ⟨y,j,by simp[List.find?,c,k1],by simp[Instr.findNow,d,Instr.sameNow,f,k2]⟩
theorem run_look {t l o:TypeId} {b:Nat} {arr:Array MapEntry} {c:Nat} {n:List (AB9×Value)} {i:TypeInfo} (p:P.underlying t=some (.map l o)) (d:P.underlying l=some .string) (r:P.info? o=some i) (u:i.zero=some (.bool false))
 (q:w.heap[b]? =some (.map arr c)) (v:arr.toList.map (λe=>(e.key,e.val))=n.map λx=>(Value.string x.1,x.2)) (s:AB9):
 (Instr.lookup t (.map (some b)) (.string s) false).run P w= .ok (Mq n s (.bool false)) w:=by
 have m:∀a,(Instr.checkKey a 10000 l (.string s)).run P w= .ok () w:=λa=>MapKept.run_checkKey d (k:=.string s) (by simp[IsKey]) a 9999;rcases TJ v s 0 with⟨g,h⟩|⟨x,j,g,h⟩
 . have f:=run_findKey (w:=w) d h;simp[Instr.lookup,run_underlying p,MapKept.run_getObj_map q,m,f,Mq,g,zeroValue,typeInfo,r,u]
 . have f:=run_findKey (w:=w) d h;simp[Instr.lookup,run_underlying p,MapKept.run_getObj_map q,m,f,Mq,g]
theorem run_upd {t d n:TypeId} {b:Nat} {arr:Array MapEntry} {c:Nat} {g:List (AB9×Value)} (o:P.underlying t=some (.map d n)) (h:P.underlying d=some .string)
 (i:w.heap[b]? =some (.map arr c)) (p:arr.toList.map (λe=>(e.key,e.val))=g.map λx=>(Value.string x.1,x.2)) (s:AB9) (v:Value) (f:g.all (λx=> !(x.1==s))=true):
 (Instr.mapUpdate t (.map (some b)) (.string s) v).run P w= .ok () {w with heap:=w.heap.setIfInBounds b (.map (arr.push {key:=.string s,val:=v,born:=c}) (c+1))}:=by
 have m:(Instr.checkKey false 10000 d (.string s)).run P w= .ok () w:=MapKept.run_checkKey h (k:=.string s) (by simp[IsKey]) false 9999;rcases TJ p s 0 with⟨a,l⟩|⟨x,j,a,l⟩
 . have q:=run_findKey (w:=w) h l;simp[Instr.mapUpdate,run_underlying o,MapKept.run_getObj_map i,m,q,MapKept.run_setObj_map _ i]
 . have r:=AB1 a;have u:=List.find?_some a;rw[AAm]at f
   have:=f x r;simp only[u]at this;cases this
end Go.Abs
namespace Go.Abs
variable {w w':World} {S S':Nat->Prop} {G:Gi} {δ:Nat->DV} {Fr:Nat->Nat->Prop} {P:Program}
variable {n:Nat} {w0:World} {S0 U0:Nat->Prop} {a:Act} {σ:Sg} {μ:Mu}
theorem Jv.base (h:Jv G n w0 S0 U0 a w σ μ):∃(b:World) (S1 U1:Nat->Prop),ZX b S1 U1/\Rel G n b S1 U1 a w σ/\∀c w' σ',Rel G n b S1 U1 c w' σ'->Jv G n w0 S0 U0 c w' σ' μ:=by obtain⟨b,S1,U1,i,e,d,g⟩:=h;exact⟨b,S1,U1,e,g,λc w' σ' f=>⟨b,S1,U1,i,e,d,f⟩⟩
theorem run_mkm (t:TypeId) (w:World):(Instr.makeMap t none).run P w= .ok (.map (some w.heap.size)) (w.alloc (.map #[] 0)):=rfl
theorem zX {ops:Array Oper} {K:Sg->Mu->Prop} (Q:Exit->Act->World->Prop) {k:Nat} {o:Oper} (ho:ops[k]? =some o) {x:mC} {Z:List mC}
 (h:Jv G n w0 S0 U0 a w σ μ) (p:nM P G n ops o x=true) (e:O7 P G (x::Z) K σ μ):wpOp P ops Q k (λH w'=>∃σ' l,Jv G n w0 S0 U0 H w' σ' l/\O7 P G Z K σ' l) a w:=by
 have V:o.guard.isNone=true->o.wp P a w (λH w'=>∃σ' l,Jv G n w0 S0 U0 H w' σ' l/\O7 P G Z K σ' l) Q->wpOp P ops Q k (λH w'=>∃σ' l,Jv G n w0 S0 U0 H w' σ' l/\O7 P G Z K σ' l) a w:=by
  intro hg hwp;unfold wpOp;rw[ho];have hog:o.guard=none:=by simpa using hg
  simp only;rw[AAs (by simp[Region.wanted,hog])];exact .inl hwp
 cases x with
 |x io=>obtain⟨w1,S1,U1,hG,IX,Pf⟩:=h.base;refine wpOp_mono ?_ (gW hG Q ho IX ⟨p,trivial⟩ e);rintro H w' ⟨σ',I,J⟩;exact⟨σ',μ,Pf _ _ _ I,J⟩
 |mkm d=>
  simp only[nM,AAi]at p;obtain⟨⟨z,g2⟩,f⟩:=p;refine V z ?_;split at f
  . rename_i t y;have q:(execOp a.eval o).run P w= .ok (.value (.map (some w.heap.size))) (w.alloc (.map #[] 0)):=(by simp only[execOp,y,Option.map_none,Sem.run_bind,run_mkm,Result.andThen_ok,Sem.run_pure]);unfold Oper.wp;rw[q,Oper.upon_value];have I:=h.turn (w':=w.alloc (.map #[] 0)) (b:=w.heap.size) (o':=.mp []) (ob':=.map #[] 0) (.inr rfl) rfl rfl rfl (by show w.heap.size≤(w.heap.push _).size;rw[Array.size_push];omega) (λc p _=>(MapKept.heap_alloc w _).2 c p) (MapKept.heap_alloc w _).1 ⟨#[],0,rfl,rfl⟩;obtain⟨σ',C,E⟩:=I.Di (o:=o) g2 (D:=.lf (.sc (.map (some w.heap.size))) (.map (some w.heap.size))) (okSc _ rfl) (λ_=>.lf _ _ trivial) (by simpa using e w.heap.size h.fresh);exact⟨σ',_,by simpa using C,E⟩
  . cases f
 |lkp g d m k=>
  simp only[nM,AAi]at p;obtain⟨⟨z,g2⟩,f⟩:=p;obtain⟨w1,S1,U1,hG,IX,Pf⟩:=h.base;refine Pe IX g2 z Q ?_ (λH _ eA J=>⟨_,μ,Pf _ _ _ eA,J⟩) (gM_gd e) ho;intro F;split at f
  . rename_i t m' k' y;simp only[AAi]at f;obtain⟨⟨N,L⟩,r⟩:=f;unfold lkpK at F;split at F
    . rename_i b s hm J;split at F
      . rename_i R B;obtain⟨hp,F⟩:=F;obtain⟨ob,j,arr,c,rfl,W⟩:=h.obj B;unfold Wr at r;split at r
        . rename_i kt et U;simp only[AAi,Bool.not_true,Bool.false_or]at r;obtain⟨O,c5⟩:=r;have VR:P.underlying kt=some .string:=by split at O<;>first|assumption|cases O
          obtain⟨i,hi,M⟩:∃i,P.info? et=some i/\i.zero=some (.bool false):=by
           split at c5
           . rename_i M;cases hi:P.info? et with
             |none=>rw[hi]at M;cases M
             |some i=>rw[hi]at M;exact⟨i,rfl,M⟩
           . cases c5
          have q:(execOp a.eval o).run P w= .ok (.value (Mq R s (.bool false))) w:=(by simp only[execOp,y,(h.FB N hm).1,(h.FB L J).1,Sem.run_bind,run_look U VR hi M j W s,Result.andThen_ok,Sem.run_pure]);unfold Oper.wp;rw[q,Oper.upon_value];obtain⟨σ',C,E⟩:=h.Di (o:=o) g2 (D:=.lf (.sc (Mq R s (.bool false))) (Mq R s (.bool false))) (okSc _ hp) (λ_=>.lf _ _ trivial) (by simpa using F);exact⟨σ',μ,by simpa using C,E⟩
        . cases r
      . exact F.elim
    . exact F.elim
  . cases f
 |mup m k v=>
  simp only[nM,AAi]at p;obtain⟨⟨z,g2⟩,f⟩:=p;refine V z ?_;split at f
  . rename_i t m' k' v' y;simp only[AAi]at f;obtain⟨⟨⟨N,L⟩,c2'⟩,r⟩:=f;simp only[O7]at e;unfold mupK at e;split at e
    . rename_i b s u hm J hu;split at e
      . rename_i R B;obtain⟨LA,e⟩:=e;obtain⟨ob,j,arr,c,rfl,W⟩:=h.obj B;unfold Wr at r;split at r
        . rename_i kt et U;simp only[AAi]at r;have VR:P.underlying kt=some .string:=by have O:=r.1;split at O<;>first|assumption|cases O
          have q:(execOp a.eval o).run P w= .ok .skip {w with heap:=w.heap.setIfInBounds b (.map (arr.push {key:=.string s,val:=u,born:=c}) (c+1))}:=(by simp only[execOp,y,(h.FB N hm).1,(h.FB L J).1,(h.FB c2' hu).1,Sem.run_bind,run_upd U VR j W s u LA,Result.andThen_ok,Sem.run_pure]);unfold Oper.wp;rw[q,Oper.upon_skip];have hd:o.dst=none:=(by obtain⟨S,δ,Fr,hn,_⟩:=h.toRel;exact Ee g2 hn);rw[hd];refine⟨σ,_,h.turn (b:=b) (o':=.mp (mH R s u)) (ob':=.map (arr.push {key:=.string s,val:=u,born:=c}) (c+1)) (.inl ⟨_,B⟩) rfl rfl rfl (by simp) (λc' _ Pk=>(MapKept.heap_set j).2 c' Pk) (MapKept.heap_set j).1 ⟨_,_,rfl,?_⟩,e⟩;simp[mH,W]
        . cases r
      . exact e.elim
    . exact e.elim
  . cases f
 |rng d x=>
  simp only[nM,AAi]at p;obtain⟨⟨z,g2⟩,f⟩:=p;refine V z ?_;split at f
  . rename_i t x' y;simp only[AAi]at f;obtain⟨N,L⟩:=f;have U:P.underlying t=some .string:=by split at L<;>first|assumption|cases L
    simp only[O7]at e;unfold rngK at e;split at e
    . rename_i s X;have q:(execOp a.eval o).run P w= .ok (.value (.pointer (some ⟨w.heap.size,0,none⟩))) (w.iter s 0):=(by simp only[execOp,y,(h.FB N X).1,Sem.run_bind,run_range_string w t s U,Result.andThen_ok,Sem.run_pure]);unfold Oper.wp;rw[q,Oper.upon_value];have I:=h.turn (w':=w.iter s 0) (b:=w.heap.size) (o':=.it s 0) (ob':=.stringIter s 0) (.inr rfl) rfl rfl rfl (by show w.heap.size≤(w.heap.push _).size;rw[Array.size_push];omega) (λc p _=>(MapKept.heap_alloc w _).2 c p) (MapKept.heap_alloc w _).1 rfl;obtain⟨σ',C,E⟩:=I.Di (o:=o) g2 (D:=.lf (.sc (.pointer (some ⟨w.heap.size,0,none⟩))) (.pointer (some ⟨w.heap.size,0,none⟩))) (okSc _ rfl) (λ_=>.lf _ _ trivial) (by simpa using e w.heap.size h.fresh);exact⟨σ',_,by simpa using C,E⟩
    . exact e.elim
  . cases f
 |nxt d x=>
  simp only[nM,AAi]at p;obtain⟨⟨z,g2⟩,f⟩:=p;refine V z ?_;split at f
  . rename_i x' y;simp only[O7]at e;unfold nxtK at e;split at e
    . rename_i b X;split at e
      . rename_i s pos T;obtain⟨ob,j,rfl⟩:=h.obj T;split at e
        . rename_i D4;have q:(execOp a.eval o).run P w= .ok (.value (.tuple #[.bool true,.int .i64 pos,.int .i32 (Utf8.decode s pos).1])) (w.iterAt b s (pos+(Utf8.decode s pos).2)):=(by simp only[execOp,y,(h.FB f X).1,Sem.run_bind,Lib.run_next_any_at w b s pos o.type j D4,Result.andThen_ok,Sem.run_pure]);unfold Oper.wp;rw[q,Oper.upon_value];have I:=h.turn (w':=w.iterAt b s (pos+(Utf8.decode s pos).2)) (b:=b) (o':=.it s (pos+(Utf8.decode s pos).2)) (ob':=.stringIter s (pos+(Utf8.decode s pos).2)) (.inl ⟨_,T⟩) rfl rfl rfl (by simp[World.iterAt]) (λc p Pk=>(MapKept.heap_set j).2 c Pk) (MapKept.heap_set j).1 rfl;obtain⟨σ',C,E⟩:=I.Di (o:=o) g2 (D:=.BM ([.bool true,.int .i64 pos,.int .i32 (Utf8.decode s pos).1].map λv=>.lf (.sc v) v)) (okTup _ (by simp[Ge])) (alTup _) (by simpa using e);exact⟨σ',_,by simpa using C,E⟩
        . rename_i D4;have q:(execOp a.eval o).run P w= .ok (.value (.tuple #[.bool false])) w:=(by simp only[execOp,y,(h.FB f X).1,Sem.run_bind,Lib.run_next_end_at w b s pos o.type j D4,Result.andThen_ok,Sem.run_pure]);unfold Oper.wp;rw[q,Oper.upon_value];obtain⟨σ',C,E⟩:=h.Di (o:=o) g2 (D:=.BM ([.bool false].map λv=>.lf (.sc v) v)) (okTup _ (by simp[Ge])) (alTup _) (by simpa using e);exact⟨σ',_,by simpa using C,E⟩
      . exact e.elim
    . exact e.elim
  . cases f
def aR (P:Program) (G:Gi) (n:Nat) (ops:Array Oper):List Oper->List mC->Bool
 |[],[]=>true
 |o::os,x::xs=>nM P G n ops o x&&aR P G n ops os xs
 |_,_=>false
theorem sY {ops:Array Oper} {K:Sg->Mu->Prop} (Q:Exit->Act->World->Prop) (l:∀a w σ μ,Jv G n w0 S0 U0 a w σ μ->K σ μ->Q .normal a w) (c:List mC):
 ∀(k:Nat) {a:Act} {w:World} {σ:Sg} {μ:Mu},Jv G n w0 S0 U0 a w σ μ->aR P G n ops (ops.toList.drop k) c=true->O7 P G c K σ μ->wpOps P ops Q (List.range' k (ops.size-k)) a w:=by
 induction c with
 |nil=>
  intro k a w σ μ h b f;have g:ops.toList.drop k=[]:=by cases hd:ops.toList.drop k with|nil=>rfl|cons o os=>rw[hd]at b;simp[aR]at b
  have i:ops.size≤k:=by simpa using g
  rw[show ops.size-k=0 from by omega];exact l a w σ μ h f
 |cons x c ih=>
  intro k a w σ μ h b f;cases hd:ops.toList.drop k with
  |nil=>rw[hd]at b;simp[aR]at b
  |cons o os=>rw[hd]at b;simp only[aR,AAi]at b;have g:k<ops.size:=(by have:(ops.toList.drop k).length=os.length+1:=(by rw[hd];rfl);simp at this;omega);have m:ops[k]? =some o:=(by have:(ops.toList.drop k)[0]? =some o:=(by rw[hd];rfl);simpa using this);have e:ops.toList.drop (k+1)=os:=(by have:(ops.toList.drop k).drop 1=os:=(by rw[hd];rfl);rw[List.drop_drop]at this;exact this);rw[show ops.size-k=(ops.size-(k+1))+1 from by omega,List.range'_succ,wpOps_cons];refine wpOp_mono ?_ (zX Q m h b.1 f);rintro q w' ⟨σ',p,j,d⟩;exact ih (k+1) j (by rw[e];exact b.2) d
inductive ZY where
 |ic (c:IC)
 |Zt (xs:List mC)
 |seq (a b:ZY)
 |cond (c:Ar) (a b:ZY)
 |block (id:Nat) (a:ZY)
 |loop (a:ZY)
def Hs (P:Program) (G:Gi) (n:Nat):Code->ZY->Bool
 |c,.ic c'=>G1 P G n c c'
 | .region _ ops false,.Zt xs=>aR P G n ops ops.toList xs
 | .seq a b,.seq a' b'=>Hs P G n a a'&&Hs P G n b b'
 | .cond c a b,.cond c' a' b'=>CM c c'&&Hs P G n a a'&&Hs P G n b b'
 | .block id a,.block id' a'=>id==id'&&Hs P G n a a'
 | .loop a,.loop a'=>Hs P G n a a'
 |_,_=>false
def Exit.ZA (next:Sg->Mu->Prop) (Q:Exit->Sg->Mu->Prop):Exit->Sg->Mu->Prop
 | .normal,σ,μ=>next σ μ
 |e,σ,μ=>Q e σ μ
def Exit.Uj (id:Nat) (Q:Exit->Sg->Mu->Prop):Exit->Sg->Mu->Prop
 | .exit i,σ,μ=>if i=id then Q .normal σ μ else Q (.exit i) σ μ
 |e,σ,μ=>Q e σ μ
def qR (x:AV) (a b:Sg->Mu->Prop) (σ:Sg) (μ:Mu):Prop:=match x with
 | .sc (.bool x)=>if x=true then a σ μ else b σ μ
 |_=>False
def JD (P:Program) (G:Gi):ZY->(Exit->Sg->Mu->Prop)->Sg->Mu->Prop
 | .ic c,Q,σ,μ=>ID P G c (λe σ'=>Q e σ' μ) σ
 | .Zt xs,Q,σ,μ=>O7 P G xs (Q .normal) σ μ
 | .seq a b,Q,σ,μ=>JD P G a (Exit.ZA (JD P G b Q) Q) σ μ
 | .cond c a b,Q,σ,μ=>qR (ar σ c) (JD P G a Q) (JD P G b Q) σ μ
 | .block id a,Q,σ,μ=>JD P G a (Exit.Uj id Q) σ μ
 | .loop a,Q,σ,μ=>∃I:Nat->Sg->Mu->Prop,(∃n,I n σ μ)/\∀n τ ν,I n τ ν->JD P G a (Exit.ZA (λτ' ν'=>∃n',n'<n/\I n' τ' ν') Q) τ ν
def zT (G:Gi) (n:Nat) (w0:World) (S0 U0:Nat->Prop) (Q:Exit->Sg->Mu->Prop) (e:Exit) (a:Act) (w:World):Prop:=∃σ μ,Jv G n w0 S0 U0 a w σ μ/\Q e σ μ
theorem mV (R:P.follows .mixedOrders=true) (c:Code):∀(ic:ZY) (Q:Exit->Sg->Mu->Prop) (a:Act) (w:World) (σ:Sg) (μ:Mu),Hs P G n c ic=true->Jv G n w0 S0 U0 a w σ μ->JD P G ic Q σ μ->c.wp P (zT G n w0 S0 U0 Q) a w:=by
 have g:∀(c:Code) (ic:IC) (Q:Exit->Sg->Mu->Prop) (a:Act) (w:World) (σ:Sg) (μ:Mu),G1 P G n c ic=true->Jv G n w0 S0 U0 a w σ μ->ID P G ic (λe σ'=>Q e σ' μ) σ->c.wp P (zT G n w0 S0 U0 Q) a w:=by intro c ic Q a w σ μ f h j;obtain⟨W,S1,U1,M,E,F⟩:=h.base;refine wp_mono (aO M R (m:=0) (a0:=a) c ic _ a w σ f (Pa c) (Qs.refl _ _) E j) ?_;rintro e r w' ⟨⟨σ',p,l⟩,_⟩;exact⟨σ',μ,F _ _ _ p,l⟩
 induction c with
 |region id ops d=>
  intro ic Q a w σ μ f h j;cases ic with
  |ic c'=>exact g _ c' Q a w σ μ (by simpa[Hs]using f) h j
  |Zt xs=>
   cases d with
   |true=>simp[Hs]at f
   |false=>
    simp only[Hs]at f;refine wp_region ?_
    have:=sY (P:=P) (G:=G) (ops:=ops) (K:=Q .normal) (zT G n w0 S0 U0 Q) (λa w σ μ h B=>⟨σ,μ,h,B⟩) xs 0 h (by simpa using f) j;rw[List.range_eq_range'];simpa using this
  |_=>simp[Hs]at f
 |seq x y Zn ihy=>
  intro ic Q a w σ μ f h j;cases ic with
  |ic c'=>exact g _ c' Q a w σ μ (by simpa[Hs]using f) h j
  |seq x' y'=>
   simp only[Hs,AAi]at f;refine wp_seq (wp_mono (Zn x' _ a w σ μ f.1 h j) ?_);rintro e r w' ⟨σ',o,p,l⟩;cases e with
   |normal=>exact ihy y' Q r w' σ' o f.2 p l
   |_=>exact⟨σ',o,p,l⟩
  |_=>simp[Hs]at f
 |cond c x y Zn ihy=>
  intro ic Q a w σ μ f h j;cases ic with
  |ic c'=>exact g _ c' Q a w σ μ (by simpa[Hs]using f) h j
  |cond c' x' y'=>
   simp only[Hs,AAi]at f;obtain⟨⟨J,q⟩,L⟩:=f;simp only[JD]at j;unfold qR at j;split at j
   . rename_i b O;have C:a.eval c= .bool b:=(h.FB J O).1;split at j
     . rename_i z;subst z;exact wp_cond_true C (Zn x' Q a w σ μ q h j)
     . rename_i v;obtain rfl:b=false:=(by simpa using v);exact wp_cond_false C (ihy y' Q a w σ μ L h j)
   . exact j.elim
  |_=>simp[Hs]at f
 |block id x Zn=>
  intro ic Q a w σ μ f h j;cases ic with
  |ic c'=>exact g _ c' Q a w σ μ (by simpa[Hs]using f) h j
  |block id' x'=>
   simp only[Hs,AAi,AAw]at f;obtain⟨rfl,q⟩:=f;refine wp_block (wp_mono (Zn x' _ a w σ μ q h j) ?_);rintro e r w' ⟨σ',o,p,l⟩;cases e with
   |exit i=>
    simp only[Exit.inBlock];simp only[Exit.Uj]at l;split
    . rename_i hi;rw[AAs hi]at l;exact⟨σ',o,p,l⟩
    . rename_i hi;rw[AAp hi]at l;exact⟨σ',o,p,l⟩
   |_=>exact⟨σ',o,p,l⟩
  |_=>simp[Hs]at f
 |loop x Zn=>
  intro ic Q a w σ μ f h j;cases ic with
  |ic c'=>exact g _ c' Q a w σ μ (by simpa[Hs]using f) h j
  |loop x'=>
   simp only[Hs]at f;obtain⟨I,⟨T,H⟩,U⟩:=j;refine wp_loop_ghost (λk a w=>∃σ μ,Jv G n w0 S0 U0 a w σ μ/\I k σ μ) T ⟨σ,μ,h,H⟩ ?_;rintro k r w' ⟨τ,D,p,N⟩;refine wp_mono (Zn x' _ r w' τ D f p (U k τ D N)) ?_;rintro e V X ⟨t,s,q,l⟩;cases e with
   |normal=>obtain⟨S,B,u⟩:=l;exact⟨S,B,t,s,q,u⟩
   |_=>exact⟨t,s,q,l⟩
  |_=>simp[Hs]at f
 |_=>
  intro ic Q a w σ μ f h j;cases ic with
  |ic c'=>exact g _ c' Q a w σ μ (by simpa[Hs]using f) h j
  |_=>simp[Hs]at f
structure FIM where
 c:ZY
 g:Gi
 r:List RV
def qN (P:Program) (fn:Func) (I:FIM):Bool:=
 (match fn.body with
 |some c=>Hs P I.g fn.ntmps c I.c
 |none=>false)&&PZ P fn.results.toList I.r&&I.g.rt.all (λx=> !x.2.contains x.1)
theorem kZ {f:Nat} {j:Func} {I:FIM} {args:List AV} {n:AV} (hm:P.follows .mixedOrders=true) (H:P.funcs[f]? =some j) (U:qN P j I=true) (hn:args.length≤j.ntmps) (O:args.all I7=true)
 (h:JD P I.g I.c (λe σ _=>Ends I.g I.r n e σ) (start args) (λ_=>none)):Says P f args n:=by
 intro w S ds F Nl Ja L T;subst Ja;simp only[qN,AAi]at U;obtain⟨⟨B,NI⟩,E⟩:=U;split at B
 . rename_i c u;obtain⟨q,y,hd,z,D⟩:zP w S ds F:=(by cases L with|BM _ q _ y hd z D=>exact⟨q,y,hd,z,D⟩);have Q:∀(i:Nat) d,ds[i]? =some d->I7 d.er=true:=λi d hi=>(by simp only[AAm]at O;exact O _ (ABm (AAu hi)));refine calls_of_wp H u ?_
   let δ:Nat->DV:=λs=>ds.getD s (.lf .un undef)
   have k:∀s,(∃d,ds[s]? =some d/\δ s=d)∨(ds[s]? =none/\δ s= .lf .un undef):=by
    intro s;cases a:ds[s]? with
    |some d=>exact .inl ⟨d,rfl,by simp[δ,a]⟩
    |none=>exact .inr ⟨rfl,by simp[δ,a]⟩
   have X:St I.g w S δ q:=by
    refine⟨λs=> ?_,λs t x=>hd s t x,λs=> ?_,λs=> ?_,r9 E⟩
    . rcases k s with⟨d,a,e⟩|⟨a,e⟩
      . rw[e];exact y s d a
      . rw[e];exact .lf _ _ _ rfl λx p=>by obtain⟨d,hd⟩:=z s x p;rw[a]at hd;cases hd
    . rcases k s with⟨d,a,e⟩|⟨a,e⟩
      . rw[e];exact gP (y s d a).LD (Q s d a)
      . rw[e];exact .lf _ _ trivial
    . rcases k s with⟨d,a,e⟩|⟨a,e⟩
      . rw[e];exact aK (Q s d a)
      . rw[e];simp
   have K:(λs=>(δ s).er)=start (ds.map DV.er):=by
    funext s;unfold start;rcases k s with⟨d,a,e⟩|⟨a,e⟩
    . simp[e,a]
    . simp[e,a]
   have vR:ds.length≤j.ntmps:=(by simpa using hn);have IX:Rel I.g j.ntmps w S F {tmps:=(ds.map DV.A0).toArray++Array.replicate (j.ntmps-(ds.map DV.A0).toArray.size) undef,defers:=[]} w (start (ds.map DV.er)):=(by refine⟨S,δ,q,by simp;omega,rfl,λs=>Xq ds j.ntmps s,K,X,Nx.less λx ⟨s,p⟩=>(D x).2 ⟨s,p⟩,T⟩);have m:=Jv.start ⟨Nl,λb u=>⟨λH=>L.E7 b H u,T b u⟩⟩ IX;refine wp_mono (mV hm c I.c _ _ w _ _ B m h) ?_;rintro e a' o ⟨σ,μ,J,V⟩;obtain⟨S1,δ1,F1,hn1,M,RP,rfl,E8,l,Z⟩:=J.toRel;have G:=qD V;obtain⟨_,vs,τ,ZT,TW⟩:=V;obtain⟨Ds,FD,g1,g2,g3,g4,_⟩:=JQ j.results.toList E8 RP NI ZT;have hO:Jm o S1 (ds.map λd=>DV.lf .dead d.A0) (λ_=>False):=(by refine CC λd hd=> ?_;obtain⟨x,_,rfl⟩:=AB0.1 hd;exact .lf _ _ _ trivial (λ_ h=>h));have C:∃v,(results j a'.tmps).run P o= .ok v o/\∃(r:DV) (os:List DV) (S' N:Nat->Prop),Ending.returned v= .returned r.A0/\r.er=n/\os.map DV.er=((ds.map DV.er).map λ_=>AV.dead)/\os.map DV.A0=ds.map DV.A0/\
    Ok o S' (.BM (r::os)) N/\Ext w o F/\(∀b,S b->S' b)/\(∀b,S' b->S b∨F b∨w.heap.size≤b)/\(∀b,S' b->b<o.heap.size)/\(∀x,N x->F x∨w.heap.size≤x):=
    ⟨_,UL g2,PF Ds,ds.map λd=>DV.lf .dead d.A0,S1,FD,rfl,by rw[Ts,g1,TW],by simp,by simp,A8.2 ⟨FD,λ_=>False,OS g3,hO,λ_ _ h=>h,λx=>by simp⟩,⟨l.os,l.tape,l.output,l.size,l.block⟩,l.sub,l.sup,Z,λx p=>l.own x (g4 x p)⟩
   obtain⟨v,W,R⟩:=C;rcases G with rfl|rfl
   . exact⟨M,v,W,R⟩
   . exact⟨M,v,W,R⟩
 . cases B
end Go.Abs
namespace Go.Abs
variable {P:Program} {G:Gi}
theorem awpM_ic (c:IC) (Q:Exit->Sg->Mu->Prop) (σ:Sg) (a:Mu):JD P G (.ic c) Q σ a=ID P G c (λe σ'=>Q e σ' a) σ:=(rfl)
theorem tW (a:List mC) (Q:Exit->Sg->Mu->Prop) (σ:Sg) (b:Mu):JD P G (.Zt a) Q σ b=O7 P G a (Q .normal) σ b:=(rfl)
theorem gS (a b:ZY) (Q:Exit->Sg->Mu->Prop) (σ:Sg) (c:Mu):JD P G (.seq a b) Q σ c=JD P G a (Exit.ZA (JD P G b Q) Q) σ c:=(rfl)
theorem Xa (c:Ar) (a b:ZY) (Q:Exit->Sg->Mu->Prop) (σ:Sg) (d:Mu):JD P G (.cond c a b) Q σ d=qR (ar σ c) (JD P G a Q) (JD P G b Q) σ d:=(rfl)
theorem mT (b:Nat) (a:ZY) (Q:Exit->Sg->Mu->Prop) (σ:Sg) (c:Mu):JD P G (.block b a) Q σ c=JD P G a (Exit.Uj b Q) σ c:=(rfl)
theorem lD (next:Sg->Mu->Prop) (Q:Exit->Sg->Mu->Prop) (σ:Sg) (a:Mu):Exit.ZA next Q .normal σ a=next σ a:=(rfl)
theorem xT (next:Sg->Mu->Prop) (Q:Exit->Sg->Mu->Prop) (a:Nat) (σ:Sg) (b:Mu):Exit.ZA next Q (.exit a) σ b=Q (.exit a) σ b:=(rfl)
theorem seqM_ret (next:Sg->Mu->Prop) (Q:Exit->Sg->Mu->Prop) (σ:Sg) (a:Mu):Exit.ZA next Q .ret σ a=Q .ret σ a:=(rfl)
theorem Zc (b:Nat) (Q:Exit->Sg->Mu->Prop) (σ:Sg) (a:Mu):Exit.Uj b Q .normal σ a=Q .normal σ a:=(rfl)
theorem VF (b i:Nat) (Q:Exit->Sg->Mu->Prop) (σ:Sg) (a:Mu):Exit.Uj b Q (.exit i) σ a=if i=b then Q .normal σ a else Q (.exit i) σ a:=(rfl)
theorem mX (b:Nat) (Q:Exit->Sg->Mu->Prop) (σ:Sg) (a:Mu):Exit.Uj b Q .ret σ a=Q .ret σ a:=(rfl)
theorem ams_nil (K:Sg->Mu->Prop) (σ:Sg) (a:Mu):O7 P G [] K σ a=K σ a:=(rfl)
theorem ams_x (o:gD) (l:List mC) (K:Sg->Mu->Prop) (σ:Sg) (a:Mu):O7 P G (.x o::l) K σ a=Lh P G [o] (λσ'=>O7 P G l K σ' a) σ:=(rfl)
theorem ams_mkm (d:Dn) (l:List mC) (K:Sg->Mu->Prop) (σ:Sg) (a:Mu):O7 P G (.mkm d::l) K σ a=∀b,a b=none->C3 (some d) (.sc (.map (some b))) (λσ'=>O7 P G l K σ' (DZ a b (some (.mp [])))) σ:=(rfl)
theorem ams_lkp (g:AB8 (Nat×Bool)) (d:Dn) (m k:Ar) (l:List mC) (K:Sg->Mu->Prop) (σ:Sg) (a:Mu):O7 P G (.lkp g d m k::l) K σ a=gM g d (λσ=>lkpK (ar σ m) (ar σ k) a d (λσ'=>O7 P G l K σ' a) σ) (λσ'=>O7 P G l K σ' a) σ:=(rfl)
theorem ams_mup (m k v:Ar) (l:List mC) (K:Sg->Mu->Prop) (σ:Sg) (a:Mu):O7 P G (.mup m k v::l) K σ a=mupK (ar σ m) (ar σ k) (ar σ v) a (λb=>O7 P G l K σ b):=(rfl)
theorem ams_rng (d:Dn) (x:Ar) (l:List mC) (K:Sg->Mu->Prop) (σ:Sg) (a:Mu):O7 P G (.rng d x::l) K σ a=rngK (ar σ x) d (O7 P G l K) σ a:=(rfl)
theorem ams_nxt (d:Dn) (x:Ar) (l:List mC) (K:Sg->Mu->Prop) (σ:Sg) (a:Mu):O7 P G (.nxt d x::l) K σ a=nxtK (ar σ x) d (O7 P G l K) σ a:=(rfl)
theorem gM_some (s:Nat) (a:Bool) (d:Dn) (A K:Sg->Prop) (σ:Sg):gM (some (s,a)) d A K σ=gK (σ s) a A (λσ=>K (DZ (Js d.kl d.d σ) d.d .un)) σ:=(rfl)
def lkpV (x:AB8 MO) (s:AB9) (d:Dn) (K:Sg->Prop) (σ:Sg):Prop:=match x with
 |some (.mp es)=>Ge (Mq es s (.bool false))=true/\C3 (some d) (.sc (Mq es s (.bool false))) K σ
 |_=>False
theorem lkpK_at (b:Nat) (s:AB9) (a:Mu) (d:Dn) (K:Sg->Prop) (σ:Sg):lkpK (.sc (.map (some b))) (.sc (.string s)) a d K σ=lkpV (a b) s d K σ:=(rfl)
theorem lkpV_mp (a:List (AB9×Value)) (s:AB9) (d:Dn) (K:Sg->Prop) (σ:Sg):lkpV (some (.mp a)) s d K σ=(Ge (Mq a s (.bool false))=true/\C3 (some d) (.sc (Mq a s (.bool false))) K σ):=(rfl)
def mupV (x:AB8 MO) (b:Nat) (s:AB9) (u:Value) (μ:Mu) (K:Mu->Prop):Prop:=match x with
 |some (.mp es)=>es.all (λx=> !(x.1==s))=true/\K (DZ μ b (some (.mp (mH es s u))))
 |_=>False
theorem mupK_at (b:Nat) (s:AB9) (u:Value) (a:Mu) (K:Mu->Prop):mupK (.sc (.map (some b))) (.sc (.string s)) (.sc u) a K=mupV (a b) b s u a K:=(rfl)
theorem mupV_mp (a:List (AB9×Value)) (b:Nat) (s:AB9) (u:Value) (c:Mu) (K:Mu->Prop):mupV (some (.mp a)) b s u c K=(a.all (λx=> !(x.1==s))=true/\K (DZ c b (some (.mp (mH a s u))))):=(rfl)
theorem rngK_s (s:AB9) (d:Dn) (K:Sg->Mu->Prop) (σ:Sg) (a:Mu):rngK (.sc (.string s)) d K σ a=∀b,a b=none->C3 (some d) (.sc (.pointer (some ⟨b,0,none⟩))) (λσ'=>K σ' (DZ a b (some (.it s 0)))) σ:=(rfl)
def nxtV (x:AB8 MO) (b:Nat) (d:Dn) (K:Sg->Mu->Prop) (σ:Sg) (μ:Mu):Prop:=match x with
 |some (.it s pos)=>if pos<s.size then C3 (some d) (.BM [.sc (.bool true),.sc (.int .i64 pos),.sc (.int .i32 (Utf8.decode s pos).1)]) (λσ'=>K σ' (DZ μ b (some (.it s (pos+(Utf8.decode s pos).2))))) σ
  else C3 (some d) (.BM [.sc (.bool false)]) (λσ'=>K σ' μ) σ
 |_=>False
theorem nxtK_at (b:Nat) (d:Dn) (K:Sg->Mu->Prop) (σ:Sg) (a:Mu):nxtK (.sc (.pointer (some ⟨b,0,none⟩))) d K σ a=nxtV (a b) b d K σ a:=(rfl)
theorem HR {s:AB9} {pos:Nat} (b:Nat) (d:Dn) (K:Sg->Mu->Prop) (σ:Sg) (a:Mu) (h:pos<s.size):nxtV (some (.it s pos)) b d K σ a=C3 (some d) (.BM [.sc (.bool true),.sc (.int .i64 pos),.sc (.int .i32 (Utf8.decode s pos).1)]) (λσ'=>K σ' (DZ a b (some (.it s (pos+(Utf8.decode s pos).2))))) σ:=by simp[nxtV,h]
theorem GN {s:AB9} {pos:Nat} (b:Nat) (d:Dn) (K:Sg->Mu->Prop) (σ:Sg) (a:Mu) (h:¬pos<s.size):nxtV (some (.it s pos)) b d K σ a=C3 (some d) (.BM [.sc (.bool false)]) (λσ'=>K σ' a) σ:=by simp[nxtV,h]
theorem tU {a:ZY} {Q:Exit->Sg->Mu->Prop} {σ:Sg} {f:Mu} (I:Nat->Sg->Mu->Prop) (n:Nat) (h:I n σ f)
 (b:∀n τ g,I n τ g->JD P G a (Exit.ZA (λd c=>∃e,e<n/\I e d c) Q) τ g):JD P G (.loop a) Q σ f:=⟨I,⟨n,h⟩,b⟩
attribute [go_sem] awpM_ic tW gS Xa mT lD xT seqM_ret Zc VF mX ams_nil ams_x ams_mkm ams_lkp ams_mup ams_rng ams_nxt gM_some lkpK_at lkpV_mp mupK_at mupV_mp rngK_s nxtK_at
end Go.Abs
