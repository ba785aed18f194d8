/- A calculus of abstract states of Go memory, and that it is sound. -/
import Derived.Test.YthmijagacgnmkaaGreatDoorCoreB
import Derived.Scope
import Derived.Laws.Sem
import Derived.Sort.Grow
import Derived.Lib.SlicesCompact
import Derived.Shelf.Slices.SearchI
import Derived.IntWalk
import Derived.MapKept
import Derived.Lib.OthersKept
import Derived.Shelf.GgClosure.Gives
set_option linter.unusedSimpArgs false
set_option linter.unusedVariables false
namespace Go.Abs
variable {G:Gi} {P:Program} {w:World}
def w9 (l:List Nat):Nat:=l.foldr (λs m=>m |||2^s) 0
theorem qL {l:List Nat} {s:Nat} (h:s∈l):(w9 l).testBit s=true:=by
 induction l with
 |nil=>cases h
 |cons a l ih=>
  simp only[w9,List.foldr_cons,Nat.testBit_or,AA2];simp only[AAp]at h;rcases h with rfl|h
  . simp_all
  . exact .inl (ih h)
theorem Z8 {a b:List Nat} (h:w9 a &&& w9 b=0) {s:Nat} (c:s∈a) (d:s∈b):False:=by
 have:(w9 a &&& w9 b).testBit s=true:=by rw[Nat.testBit_and,qL c,qL d];rfl
 simp_all
def bef (M:List Nat) (o:Oper):Nat:=o.after.toList.foldr (λe s=>if Region.binds .any e=true then s |||2^e.on |||M.getD e.on 0 else s) 0
theorem bef_bit {M:List Nat} {o:Oper} {i:Nat} (h:(bef M o).testBit i=true):∃e∈o.after.toList,Region.binds .any e=true/\(e.on=i∨(M.getD e.on 0).testBit i=true):=by
 unfold bef at h;generalize o.after.toList=l at h;induction l with
 |nil=>simp at h
 |cons e l ih=>grind
def VE:List Oper->List Nat->List Nat
 |[],M=>M
 |o::os,M=>VE os (M++[bef M o])
def SM (M Ws Rs:List Nat) (j:Nat):Nat->Bool
 |0=>true
 |i+1=>((Ws.getD i 0 &&& Rs.getD j 0==0&&Rs.getD i 0 &&& Ws.getD j 0==0)||(M.getD j 0).testBit i)&&SM M Ws Rs j i
theorem Yq {M b a:List Nat} {j n:Nat} (h:SM M b a j n=true):∀i,i<n->(b.getD i 0 &&& a.getD j 0=0/\a.getD i 0 &&& b.getD j 0=0)∨(M.getD j 0).testBit i=true:=by
 induction n with
 |zero=>omega
 |succ n ih=>simp only[SM,AAR,AA2,AAg]at h;grind
def V8 (M Ws Rs:List Nat):Nat->List Oper->Bool
 |_,[]=>true
 |j,o::os=>M.getD j 0==bef M o&&(o.after.toList.all λe=> !Region.binds .any e||decide (e.on<j))&&SM M Ws Rs j j&&V8 M Ws Rs (j+1) os
theorem cQ {M c b:List Nat} (os:List Oper):∀{j0:Nat},V8 M c b j0 os=true->∀i o,os[i]? =some o->M.getD (j0+i) 0=bef M o/\(∀e∈o.after.toList,Region.binds .any e=true->e.on<j0+i)/\∀x,x<j0+i->(c.getD x 0 &&& b.getD (j0+i) 0=0/\b.getD x 0 &&& c.getD (j0+i) 0=0)∨(M.getD (j0+i) 0).testBit x=true:=by
 induction os with
 |nil=>simp_all
 |cons o os ih=>
  intro j0 h i o' a;simp only[V8,AAR,AAg,AAX,AA2,ABA,AAk]at h;obtain⟨⟨⟨d,f⟩,g⟩,j⟩:=h;cases i with
  |zero=>simp only[AA7,AAQ]at a;subst a;refine⟨d,λe l k=>(f e l).resolve_left (by simp[k]),Yq g⟩
  |succ i=>
   simp only[ABH]at a
   have:=ih j i o' a;grind
def wOf (G:Gi) (Db:List BJ) (j:Nat):List Nat:=match Db[j]? with|some o=>Rt G o|none=>[]
theorem sJ {n:Nat} {all:Array Oper} (os:List Oper):∀{a:List BJ},Lc P G n all os a=true->os.length=a.length/\∀(i:Nat) o io,os[i]? =some o->a[i]? =some io->G4 P G n all o io=true:=by
 induction os with
 |nil=>intro a h;cases a<;>simp[Lc]at h ⊢
 |cons o os ih=>
  intro a h;cases a with
  |nil=>simp[Lc]at h
  |cons io a=>simp only[Lc,AAR]at h;grind
theorem sM {p p':Nat->Bool} (h:∀j,p' j=true->p j=true) {i:Nat} (a:p i=true) (b:p' i=false):∀N,i<N->(List.range N).countP p'<(List.range N).countP p:=by
 have le:∀N,(List.range N).countP p'≤(List.range N).countP p:=λN=>List.countP_mono_left (λj _=>h j);intro N;induction N with
 |zero=>omega
 |succ N ih=>intro hi;rw[List.range_succ,List.countP_append,List.countP_append];grind
theorem Wr {n:Nat} {all:Array Oper} {o:Oper} {io:BJ} (h:G4 P G n all o io=true):∀d,io.dst=some d->d.rs=G.Gy d.d:=by
 intro d hd;simp only[G4,AAR]at h;have a:=h.1.1;rw[hd]at a;cases ho:o.dst with
 |none=>rw[ho]at a;simp[Dr]at a
 |some t=>rw[ho]at a;simp only[Dr,AAR,AAg]at a;grind
mutual
def N6:AV->AV
 | .sc _=>.un
 | .own b k rows=>.own b k (vW rows)
 | .agg cs=>.agg (nZ cs)
 | .BI cs=>.BI (nZ cs)
 |a=>a
def nZ:List AV->List AV
 |[]=>[]
 |a::r=>N6 a::nZ r
def vW:List (List AV)->List (List AV)
 |[]=>[]
 |a::r=>nZ a::vW r
end
theorem oA (l:List AV):nZ l=l.map N6:=by
 induction l with
 |nil=>rfl
 |cons a r ih=>simp[nZ,ih]
theorem dD (l:List (List AV)):vW l=l.map nZ:=by
 induction l with
 |nil=>rfl
 |cons a r ih=>simp[vW,ih]
def IU:AV->AV
 | .sc v=>.sc v
 |a=>N6 a
theorem Tp {a b:AV} (h:IU b=IU a):N6 b=N6 a:=by cases a<;>cases b<;>simp only[IU,N6]at h ⊢ <;>first|rfl|exact h|cases h
theorem Mi {a b:AV} (h:IU b=IU a) (c:match a with| .own .. | .agg _| .BI _=>False|_=>True):b=a:=by cases a<;>first|exact c.elim| (cases b<;>simp only[IU,N6]at h<;>first|rfl|exact h|cases h)
theorem To {a:AV} {b:Bool} {k:Nat} {rows:List (List AV)} (h:N6 a= .own b k rows):∃c,a= .own b k c/\vW c=rows:=by cases a<;>simp only[N6]at h<;>first|simp_all|simp_all
theorem skC_sl {a:AV} {b:Bool} {k:Nat} {rows:List (List AV)} (h:N6 a= .sl b k rows):a= .sl b k rows:=by cases a<;>simp only[N6]at h<;>first|exact h|cases h
theorem qY {r a:List (List AV)} (h:vW a=vW r):a.length=r.length:=by have:=congrArg List.length h;simpa[dD]using this
theorem skR_at {r a:List (List AV)} (h:vW a=vW r) (i:Nat):(a[i]?).map nZ=(r[i]?).map nZ:=by have:=congrArg (·[i]?) h;simpa[dD]using this
theorem skL_at {r a:List AV} (h:nZ a=nZ r) (i:Nat):(a[i]?).map N6=(r[i]?).map N6:=by have:=congrArg (·[i]?) h;simpa[oA]using this
theorem sub_sk (p:List Step):∀{a d:AV},N6 d=N6 a->(sub d p).map N6=(sub a p).map N6:=by
 induction p with
 |nil=>intro a d h;simp[sub,h]
 |cons s p ih=>
  obtain⟨i,j,t⟩:=s;intro a d h;have f:∀{g e:List AV},nZ e=nZ g->(match e[j]? with|some c=>sub c p|none=>none).map N6=(match g[j]? with|some c=>sub c p|none=>none).map N6:=by
   intro g e q
   have:=skL_at q j;cases h1:g[j]? with
   |none=>rw[h1]at this;simp at this;simp[this]
   |some c=>rw[h1]at this;simp only[Option.map_some]at this;obtain⟨c',l,m⟩:=Option.map_eq_some_iff.1 this;simp only[l];exact ih m
  cases a with
  |own b k rows=>
   obtain⟨n,rfl,r⟩:=To h;simp only[sub]
   have:=skR_at r i;cases h1:rows[i]? with
   |none=>rw[h1]at this;simp at this;simp[this]
   |some row=>rw[h1]at this;simp only[Option.map_some]at this;obtain⟨o,l,m⟩:=Option.map_eq_some_iff.1 this;simp only[l];exact f m
  |agg g=>cases d<;>simp only[N6,AV.agg.injEq,reduceCtorEq]at h;simp only[sub];exact f h
  |BI g=>cases d<;>simp only[N6,AV.BI.injEq,reduceCtorEq]at h;simp only[sub];exact f h
  |_=>cases d<;>simp only[N6]at h<;>first|rfl|cases h
theorem put_sk (q:List Step):∀{a t:AV} {h u:Value},sub a q=some (.sc h)->put a q (.sc u)=some t->N6 t=N6 a:=by
 induction q with
 |nil=>intro a t h u e d;simp only[sub,Option.some.injEq]at e;simp only[put,Option.some.injEq]at d;subst e;subst d;rfl
 |cons s q ih=>
  obtain⟨i,j,n⟩:=s;have g:∀{f:List AV} {c c':AV},f[j]? =some c->N6 c'=N6 c->nZ (f.set j c')=nZ f:=by
   intro f c c' e d;rw[oA,oA,List.map_set,d];obtain⟨l,rfl⟩:=List.getElem?_eq_some_iff.1 e;apply List.ext_getElem?;intro m;rw[List.getElem?_set];split
   . grind
   . rfl
  intro a t h u e d;cases a with
  |own b k rows=>
   simp only[sub]at e;simp only[put]at d;cases hr:rows[i]? with
   |none=>simp_all
   |some row=>
    rw[hr]at e d;simp only at e d;cases hc:row[j]? with
    |none=>simp_all
    |some c=>
     rw[hc]at e d;simp only at e d;cases hp:put c q (.sc u)with
     |none=>simp_all
     |some c'=>rw[hp]at d;obtain rfl:=Option.some.inj d;simp only[N6,AV.own.injEq,true_and];rw[dD,dD,List.map_set,g hc (ih e hp)];obtain⟨hi,rfl⟩:=List.getElem?_eq_some_iff.1 hr;apply List.ext_getElem?;grind
  |agg f=>
   simp only[sub]at e;simp only[put]at d;cases hc:f[j]? with
   |none=>simp_all
   |some c=>
    rw[hc]at e d;simp only at e d;cases hp:put c q (.sc u)with
    |none=>simp_all
    |some c'=>rw[hp]at d;obtain rfl:=Option.some.inj d;simp only[N6,AV.agg.injEq];grind
  |BI f=>
   simp only[sub]at e;simp only[put]at d;cases hc:f[j]? with
   |none=>simp_all
   |some c=>
    rw[hc]at e d;simp only at e d;cases hp:put c q (.sc u)with
    |none=>simp_all
    |some c'=>rw[hp]at d;obtain rfl:=Option.some.inj d;simp only[N6,AV.BI.injEq];grind
  |_=>simp[sub]at e
theorem sub_snoc (p:List Step):∀{a:AV} {b:Bool} {k:Nat} {rows:List (List AV)} {d:List AV} {c:AV} {i j e:Nat},sub a p=some (.own b k rows)->rows[i]? =some d->d[j]? =some c->sub a (p++[(i,j,e)])=some c:=by
 induction p with
 |nil=>intro a b k rows d c i j e h f g;simp only[sub,Option.some.injEq]at h;subst h;simp[sub,f,g]
 |cons s p ih=>
  obtain⟨i0,j0,l⟩:=s;intro a b k rows d c i j e h f g;cases a with
  |own b0 k1 K2=>
   simp only[List.cons_append,sub]at h ⊢;cases hr:K2[i0]? with
   |none=>simp_all
   |some r0=>grind
  |agg cs=>
   simp only[List.cons_append,sub]at h ⊢;cases hc:cs[j0]? with
   |none=>simp_all
   |some c0=>grind
  |BI cs=>
   simp only[List.cons_append,sub]at h ⊢;cases hc:cs[j0]? with
   |none=>simp_all
   |some c0=>grind
  |_=>simp[sub]at h
def SkA (G:Gi) (σ σ':Sg):Ar->Prop
 | .t s=>(∀r∈GF G (.t s),IU (σ' r)=IU (σ r))/\Fh (G.Gy s) (σ s)=true
 | .c _=>True
theorem dH {a e:AV} {p:List Step} (h:IU e=IU a) {b:Bool} {k:Nat} {rows:List (List AV)} (g:sub a p=some (.own b k rows)):∃d,sub e p=some (.own b k d)/\vW d=vW rows:=by have:=sub_sk p (Tp h);rw[g]at this;simp only[Option.map_some,N6]at this;obtain⟨c,i,f⟩:=Option.map_eq_some_iff.1 this;obtain⟨d,rfl,j⟩:=To f;simp_all
theorem sub_slS {a d:AV} {p:List Step} (h:IU d=IU a) {b:Bool} {k:Nat} {rows:List (List AV)} (g:sub a p=some (.sl b k rows)):sub d p=some (.sl b k rows):=by have:=sub_sk p (Tp h);rw[g]at this;simp only[Option.map_some,N6]at this;obtain⟨c,e,f⟩:=Option.map_eq_some_iff.1 this;rw[skC_sl f]at e;exact e
theorem eH {σ σ':Sg} {x:Ar} (h:SkA G σ σ' x) {v:Nat×List Step×Nat×Nat×Nat} (a:EB σ x=some v):EB σ' x=some v/\IU (σ' v.1)=IU (σ v.1):=by
 cases x with
 |c=>cases a
 |t s=>
  obtain⟨l,f⟩:=h;have g:=l s (by simp[GF]);simp only[EB]at a ⊢;cases hs:σ s with
  |own b k rows=>rw[hs]at a g;obtain⟨d,o,_⟩:=To (show N6 (σ' s)= .own b k (vW rows)from by have:=Tp g;simpa[N6]using this);grind
  |al r p=>
   rw[hs]at a g f;have e:=Mi g trivial;rw[e];simp only[KA,List.contains_iff_mem]at f;have m:=l r (by simp[GF,f]);simp only at a ⊢;split at a
   . rename_i k rows n;obtain⟨d,q,_⟩:=dH m n;grind
   . cases a
  |Kn r p i j k=>rw[hs]at a g f;have e:=Mi g trivial;rw[e];simp only[WA,List.contains_iff_mem]at f;have m:=l r (by simp[GF,f]);grind
  |_=>simp_all
theorem sk_fad {σ σ':Sg} {off:Nat} {x:Ar} (h:SkA G σ σ' x) {v:AV} (a:valOf (.Uf off x) σ=some v):valOf (.Uf off x) σ'=some v:=by
 cases x with
 |c=>cases a
 |t s=>
  have b:=h.1 s (by simp[GF]);simp only[valOf]at a ⊢;cases hs:σ s with
  |fp d=>rw[hs]at a b;rw[Mi b trivial];exact a
  |vb q o f=>rw[hs]at a b;rw[Mi b trivial];exact a
  |_=>
   rw[hs]at a;simp only at a;cases ha:EB σ (.t s)with
   |none=>simp_all
   |some q=>rw[ha]at a;obtain⟨i,_⟩:=eH h ha;have hn:∀d,σ' s≠ .fp d:=λd e=>(by rw[e,hs]at b;simp[IU,N6]at b);have g:∀q o f,σ' s≠ .vb q o f:=λq o f e=>(by rw[e,hs]at b;simp[IU,N6]at b);simp_all
theorem sk_lda {σ σ':Sg} {x:Ar} (h:SkA G σ σ' x) {v:AV} (a:valOf (.XZ x) σ=some v):valOf (.XZ x) σ'=some v:=by
 simp only[valOf]at a ⊢;split at a
 . rename_i r p i j k s;obtain⟨g,g2⟩:=eH h s;rw[g];simp only at g2 ⊢;split at a
   . rename_i b C rows f;obtain⟨c,l,m⟩:=dH g2 f;rw[l];simp only;split at a
     . rename_i w u
       have:=skR_at m i;rw[u]at this;obtain⟨e,n,o⟩:=Option.map_eq_some_iff.1 this;rw[n];simp only;split at a
       . rename_i z D y t
         have:=skL_at o j;rw[t]at this;simp only[Option.map_some,N6]at this;obtain⟨c',B,q⟩:=Option.map_eq_some_iff.1 this;obtain⟨d,rfl,_⟩:=To q;simp_all
       . cases a
     . cases a
   . cases a
 . cases a
theorem sk_iad {σ σ':Sg} {k:Nat} {x i:Ar} (h:SkA G σ σ' x) (B:SkA G σ σ' i) {v:AV} (q:valOf (.Yz k x i) σ=some v):valOf (.Yz k x i) σ'=some v:=by
 simp only[valOf]at q ⊢;have hi:∀n,lG (ar σ i)=some n->lG (ar σ' i)=some n:=by
  intro n hn;cases i with
  |c=>exact hn
  |t s=>
   have f:=B.1 s (by simp[GF]);simp only[ar]at hn ⊢;cases hs:σ s with
   |sc u=>rw[hs]at hn f;rw[Mi f trivial];exact hn
   |_=>rw[hs]at hn;cases hn
 split at q
 . rename_i w rows r p n e hn;rw[hi n hn];have:∃d,hd σ' x=some (.own false w d,some (r,p))/\d.length=rows.length:=by
    cases x with
    |c a=>cases a<;>simp[hd]at e
    |t s=>
     have f:=h.1 s (by simp[GF]);have g:=h.2;simp only[hd]at e ⊢;cases hs:σ s with
     |own b0 k0 K2=>rw[hs]at e f;simp only[Option.some.injEq,Prod.mk.injEq,AV.own.injEq]at e;obtain⟨⟨rfl,rfl,rfl⟩,rfl,rfl⟩:=e;obtain⟨d,y,C⟩:=To (show N6 (σ' s)= .own false k0 (vW K2)from by have:=Tp f;simpa[N6]using this);rw[y];exact⟨d,rfl,qY C⟩
     |al r0 p0=>
      rw[hs]at e f g;rw[Mi f trivial];simp only[KA,List.contains_iff_mem]at g;have l:=h.1 r0 (by simp[GF,g]);simp only at e ⊢;split at e
      . rename_i m j;simp only[Option.some.injEq,Prod.mk.injEq]at e;obtain⟨rfl,rfl,rfl⟩:=e;obtain⟨d,z,g2⟩:=dH l j;rw[z];exact⟨d,rfl,qY g2⟩
      . cases e
     |_=>simp_all
   grind
 . rename_i b w rows o n e hn;rw[hi n hn];have:∃o',hd σ' x=some (.sl b w rows,o'):=by
    cases x with
    |c a=>cases a<;>simp[hd]at e
    |t s=>
     have f:=h.1 s (by simp[GF]);have g:=h.2;simp only[hd]at e ⊢;cases hs:σ s with
     |sl b0 k0 K2=>rw[hs]at e f;rw[Mi f trivial];simp_all
     |al r0 p0=>
      rw[hs]at e f g;rw[Mi f trivial];simp only[KA,List.contains_iff_mem]at g;have l:=h.1 r0 (by simp[GF,g]);simp only at e ⊢;split at e
      . rename_i m j;simp only[Option.some.injEq,Prod.mk.injEq]at e;obtain⟨rfl,_⟩:=e;rw[sub_slS l j];simp_all
      . cases e
     |_=>simp_all
   grind
 . cases q
def W2 (G:Gi) (o:BJ):List Nat:=match o.op,o.guard,o.dst with
 | .WC a _,none,none=>(GF G a).map λs=>2*s+1
 |_,_,_=>(Rt G o).flatMap λs=>[2*s,2*s+1]
def R2 (G:Gi) (o:BJ):List Nat:=W2 G o++(match o.op,o.guard,o.dst with
 | .WC _ v,none,none=>(GF G v).map λs=>2*s+1
 | .Uf _ x,none,some _=>(GF G x).map λs=>2*s
 | .XZ x,none,some _=>(GF G x).map λs=>2*s
 | .Yz _ x i,none,some _=>(GF G x++GF G i).map λs=>2*s
 |_,_,_=>(cW G o).map λs=>2*s+1)
theorem cK {l:List Nat} {s:Nat}:2*s+1∈(l.flatMap λs=>[2*s,2*s+1])↔s∈l:=by grind
theorem QB {kl:List Nat} {d:Nat} {σ:Sg} (s:Nat):JZ kl d σ s=if s∈kl then DX d (σ s)else σ s:=by unfold JZ;cases kl<;>simp
theorem wr_both {d:Dk} {v:AV} {σ σ' τ:Sg} (f:∀s∈d.kl,σ' s=σ s) (c:wr d v σ=some τ):∃a,wr d v σ'=some a/\(∀s∈d.d::d.kl,a s=τ s)/\∀s,s∉d.d::d.kl->a s=σ' s:=by
 unfold wr at c ⊢;split at c
 . rename_i g;obtain rfl:=Option.some.inj c;rw[if_pos g];refine⟨_,rfl,λs b=> ?_,λs b=> ?_⟩
   . by_cases e:s=d.d
     . subst e;simp[DR]
     . have:s∈d.kl:=(by simpa[e]using b);rw[BT _ _ e,BT _ _ e,QB,QB,f s this]
   . simp only[List.mem_cons,not_or]at b;rw[BT _ _ b.1,QB,if_neg b.2]
 . cases c
theorem kZ {σ σ' τ:Sg} {o:BJ} (E:O1 o=true) (Z:∀d,o.dst=some d->d.rs=G.Gy d.d) (D:∀s,Fh (G.Gy s) (σ s)=true) (C:∀s,2*s+1∈R2 G o->σ' s=σ s) (S:∀s,2*s∈R2 G o->IU (σ' s)=IU (σ s)) (l:Ko P G o (· =τ) σ):
 ∃b,Ko P G o (· =b) σ'/\(∀s,2*s+1∈W2 G o->b s=τ s)/\∀s,2*s+1∉W2 G o->b s=σ' s:=by
 have q:W2 G o=((Rt G o).flatMap λs=>[2*s,2*s+1])->(∀s,s∈cW G o->2*s+1∈R2 G o)->∃b,Ko P G o (· =b) σ'/\(∀s,2*s+1∈W2 G o->b s=τ s)/\∀s,2*s+1∉W2 G o->b s=σ' s:=by
  intro B J;obtain⟨b,I,g2⟩:=ZY E Z (⟨λs e=>C s (J s e),λs _=>D s⟩:Ag G (· ∈cW G o) σ σ') l;refine⟨b,I,λs e=> ?_,λs e=> ?_⟩
  . rw[B,cK]at e;exact g2.ag.eq s e
  . rw[B,cK]at e;exact(g2.off s e).1
 have f:∀d op,o=⟨some d,op,none⟩->takes op=[]->W2 G o=((Rt G o).flatMap λs=>[2*s,2*s+1])->(∀K σ,EA P G ⟨some d,op,none⟩ K σ=match(match valOf op σ with|some v=>wr d v σ|none=>none)with|some τ=>K τ|none=>False)->
  (∀v,valOf op σ=some v->valOf op σ'=some v)->∃b,Ko P G o (· =b) σ'/\(∀s,2*s+1∈W2 G o->b s=τ s)/\∀s,2*s+1∉W2 G o->b s=σ' s:=by
  intro d op L T V N Ba;have F:Rt G o=d.d::d.kl:=by subst L;simp[Rt,T]
  subst L;simp only[Ko]at l ⊢;rw[N]at l;cases m:valOf op σ with
  |none=>simp_all
  |some v=>
   rw[m]at l;simp only at l;cases hwv:wr d v σ with
   |none=>simp_all
   |some υ=>
    rw[hwv]at l;simp only at l;subst l;obtain⟨b,I,g2,g3⟩:=wr_both (σ':=σ') (λs e=>C s (by simp only[R2,List.mem_append];grind)) hwv;refine⟨b,?_,λs e=> ?_,λs e=> ?_⟩
    . simp_all
    . rw[V,cK,F]at e;grind
    grind
 obtain⟨dst,op,guard⟩:=o;have n:∀x:Ar,(∀s∈GF G x,2*s∈R2 G ⟨dst,op,guard⟩)->SkA G σ σ' x:=by
  intro x W;cases x with
  |c=>trivial
  |t s=>exact⟨λr w=>S r (W r w),D s⟩
 cases guard with
 |some g=>exact q (by cases op<;>rfl) (λs e=>by cases op<;>(simp only[R2,List.mem_append,List.mem_map];grind))
 |none=>
  cases dst with
  |none=>
   cases op with
   |WC a v=>
    simp only[Ko,EA]at l ⊢;have m:ar σ' v=ar σ v:=by
     cases v with
     |c=>rfl
     |t s=>exact C s (by simp[R2,GF])
    have z:∀s∈GF G a,σ' s=σ s:=λs e=>C s (by simp only[R2,W2,List.mem_append,List.mem_map];grind);have y:Ag G (· ∈GF G a) σ σ':=⟨z,λs _=>D s⟩;have O:cOK a=true:=(by simp only[O1,takes,Bool.and_eq_true,List.all_eq_true]at E;exact E.1 a (by simp));have M:VA G (· ∈GF G a) a:=by
     cases a with
     |c c=>exact O
     |t s=>exact⟨by simp[GF],λr w=>by simp[GF,w]⟩
    split at l
    . rename_i υ h;subst l;simp only[GU]at h ⊢;rw[m,y.EB M];split at h
      . rename_i u U;split at h
        . rename_i r p i j k Q;have w:r∈GF G a:=y.Na M Q;rw[z r w];split at h
          . rename_i b0 k0 rows Bp;split at h
            . rename_i X Dt;split at h
              . rename_i u0 R;split at h
                . rename_i t B9;cases h;refine⟨DR σ' r t,rfl,λs e=> ?_,λs e=> ?_⟩
                  . have H:s∈GF G a:=(by simp only[W2,List.mem_map]at e;obtain⟨x,B,J⟩:=e;have:x=s:=(by omega);exact this▸B);simp only[DR];simp_all
                  . have H:s≠r:=(by rintro rfl;apply e;simp only[W2,List.mem_map];exact⟨s,w,rfl⟩);rw[BT _ _ H]
                . cases h
              . cases h
            . cases h
          . cases h
        . cases h
      . cases h
    simp_all
   |_=>exact q rfl (λs e=>by simp only[R2,List.mem_append,List.mem_map];grind)
  |some d=>
   cases op with
   |Uf off x=>exact f d _ rfl rfl rfl (λK σ=>rfl) (λv m=>sk_fad (n x λs e=>by simp only[R2,List.mem_append,List.mem_map];grind) m)
   |XZ x=>exact f d _ rfl rfl rfl (λK σ=>rfl) (λv m=>sk_lda (n x λs e=>by simp only[R2,List.mem_append,List.mem_map];grind) m)
   |Yz k x i=>exact f d _ rfl rfl rfl (λK σ=>rfl) (λv m=>sk_iad (n x λs e=>by simp only[R2,List.mem_append,List.mem_map];grind) (n i λs e=>by simp only[R2,List.mem_append,List.mem_map];grind) m)
   |_=>exact q rfl (λs e=>by simp only[R2,List.mem_append,List.mem_map];grind)
theorem We {σ τ:Sg} {o:BJ} (q:O1 o=true) (M:∀d,o.dst=some d->d.rs=G.Gy d.d) (z:∀s,Fh (G.Gy s) (σ s)=true) (m:Ko P G o (· =τ) σ):
 (∀s,2*s+1∉W2 G o->τ s=σ s)/\(∀s,2*s∉W2 G o->IU (τ s)=IU (σ s))/\∀s,Fh (G.Gy s) (τ s)=true:=by
 have C:=aop_off q M z m;have f:W2 G o=((Rt G o).flatMap λs=>[2*s,2*s+1])->(∀s,2*s+1∉W2 G o->τ s=σ s)/\(∀s,2*s∉W2 G o->IU (τ s)=IU (σ s))/\∀s,Fh (G.Gy s) (τ s)=true:=by
  intro l;refine⟨λs y=> ?_,λs y=> ?_,C.2⟩
  . grind
  . grind
 obtain⟨dst,op,guard⟩:=o;cases guard with
 |some g=>exact f (by cases op<;>rfl)
 |none=>
  cases dst with
  |some d=>exact f (by cases op<;>rfl)
  |none=>
   cases op with
   |WC a v=>
    simp only[Ko,EA]at m;split at m
    . rename_i R b;subst m;simp only[GU]at b;split at b
      . rename_i u J;split at b
        . rename_i r p i j k I;have H:cOK a=true:=(by simp only[O1,takes,Bool.and_eq_true,List.all_eq_true]at q;exact q.1 a (by simp));have n:Ag G (· ∈GF G a) σ σ:=⟨λ_ _=>rfl,λs _=>z s⟩;have L:VA G (· ∈GF G a) a:=by
           cases a with
           |c c=>exact H
           |t s=>exact⟨by simp[GF],λr D=>by simp[GF,D]⟩
          have D:r∈GF G a:=n.Na L I;split at b
          . rename_i N O rows h;split at b
            . rename_i K F;split at b
              . rename_i Q w;split at b
                . rename_i t E;cases b;refine⟨λs y=> ?_,λs _=> ?_,C.2⟩
                  . rw[BT];rintro rfl;apply y;simp only[W2,List.mem_map];grind
                  . by_cases e:s=r
                    . subst e;rw[BD];have l:=put_sk _ (sub_snoc p h F w) E;have B:∀u,σ s≠ .sc u:=λu e=>by
                       rw[e]at h;cases p with
                       |nil=>simp[sub]at h
                       |cons=>simp[sub]at h
                      have x:∀u,t≠ .sc u:=λu e=>by subst e;cases hσ:σ s<;>rw[hσ]at l h<;>first|exact absurd hσ (B _)| (cases p<;>simp[sub]at h;done)| (simp[N6]at l;done)
                      cases hσ:σ s<;>first|exact absurd hσ (B _)| (rw[hσ]at l;cases t<;>first|exact absurd rfl (x _)|exact l)
                    . rw[BT _ _ e]
                . cases b
              . cases b
            . cases b
          . cases b
        . cases b
      . cases b
    simp_all
   |_=>exact f rfl
def Lb (G:Gi) (ops:List Oper) (Db:List BJ):Bool:=
 Db.all O1&&V8 (VE ops []) (Db.map λo=>w9 (W2 G o)) (Db.map λo=>w9 (R2 G o)) 0 ops
def Gp (G:Gi) (Db:List BJ) (j:Nat):List Nat:=match Db[j]? with|some o=>W2 G o|none=>[]
def VX (G:Gi) (Db:List BJ) (j:Nat):List Nat:=match Db[j]? with|some o=>R2 G o|none=>[]
end Go.Abs
namespace Go.Abs
variable {G:Gi} {P:Program} {w:World}
theorem SU {n:Nat} {w0:World} {S0 U0:Nat->Prop} {ops:Array Oper} {K:Sg->Prop} (Q:Exit->Act->World->Prop) {f:List BJ} {a:Act} {w:World} {σ:Sg}
 (h:Rel G n w0 S0 U0 a w σ) (hN:f.length=ops.size) (B:∀(i:Nat) (o:Oper) (io:BJ),ops.toList[i]? =some o->f[i]? =some io->∀d:Dk,io.dst=some d->d.rs=G.Gy d.d) (hd:Lb G ops.toList f=true)
 (q:Nat->Sg) (hq0:q 0=σ) (G0:∀i io,f[i]? =some io->Ko P G io (· =q (i+1)) (q i)) (hK:K (q f.length)) (J:(Nat->Bool)->Act->World->Prop) (hQ:∀(L:Nat->Bool) a w σ,(∀j,j<ops.size->L j=true)->J L a w->Rel G n w0 S0 U0 a w σ->K σ->Q .normal a w) (hJ0:J (λj=>(Array.replicate ops.size false).getD j true) a w)
 (hS:∀(L:Nat->Bool) (i:Nat) o io a w σ F,ops[i]? =some o->f[i]? =some io->i<ops.size->L i=false->(∀x,((VE ops.toList []).getD i 0).testBit x=true->L x=true)->(∀j,j<ops.size->L j=true->∀x,((VE ops.toList []).getD j 0).testBit x=true->L x=true)->
  J L a w->Rel G n w0 S0 U0 a w σ->Ko P G io (· =F) σ->(∀s,F s=q (FC (λj=>(L j||j==i)) (Gp G f) (2*s+1) ops.size) s)->wpOp P ops Q i (λa' w'=>(∃σ',Rel G n w0 S0 U0 a' w' σ'/\σ'=F)/\J (λj=>(L j||j==i)) a' w') a w):
 wpAny P .any ops Q ops.size (Array.replicate ops.size false) a w:=by
 simp only[Lb,AAR,AAX]at hd;obtain⟨Ft,KN⟩:=hd;generalize hM:VE ops.toList []=M at KN hS;have Un:=cQ _ KN;simp only[ABX]at Un;have O:∀i,i<ops.size->∃o io,ops[i]? =some o/\ops.toList[i]? =some o/\f[i]? =some io:=by intro i hi;refine⟨ops[i],f[i]'(by omega),?_,?_,?_⟩<;>simp[hi,hN]
 -- the states of the text's order
 have hwf:∀i,i≤ops.size->∀s,Fh (G.Gy s) (q i s)=true:=by
  intro i;induction i with
  |zero=>intro _ s;rw[hq0];obtain⟨S,δ,Fr,_,_,_,rfl,B9,_⟩:=h;exact B9.rt s
  |succ i ih=>intro hi;obtain⟨o,io,t,u,k⟩:=O i (by omega);exact(We (Ft io (AAe k)) (B i o io u k) (ih (by omega)) (G0 i io k)).2.2
 have hofff:∀j s,j<ops.size->2*s+1∉Gp G f j->q (j+1) s=q j s:=by intro j s l r;obtain⟨o,io,t,u,k⟩:=O j l;exact(We (Ft io (AAe k)) (B j o io u k) (hwf j (by omega)) (G0 j io k)).1 s (by simpa[Gp,k]using r)
 have z:∀j s,j<ops.size->2*s∉Gp G f j->IU (q (j+1) s)=IU (q j s):=by intro j s l r;obtain⟨o,io,t,u,k⟩:=O j l;exact(We (Ft io (AAe k)) (B j o io u k) (hwf j (by omega)) (G0 j io k)).2.1 s (by simpa[Gp,k]using r)
 -- the states with their skeletons beside them
 let Q2:Nat->Sg:=λj x=>if x%2=1 then q j (x/2)else IU (q j (x/2))
 have ZV:∀j s,Q2 j (2*s+1)=q j s:=λj s=>by
  show(if(2*s+1)%2=1 then q j ((2*s+1)/2)else IU (q j ((2*s+1)/2)))=q j s
  rw[AAa (by omega),show(2*s+1)/2=s from by omega]
 have bG:∀j s,Q2 j (2*s)=IU (q j s):=λj s=>by
  show(if(2*s)%2=1 then q j ((2*s)/2)else IU (q j ((2*s)/2)))=IU (q j s)
  simp_all
 have Si:∀j x,j<ops.size->x∉Gp G f j->Q2 (j+1) x=Q2 j x:=by
  intro j x l H;obtain⟨s,rfl|rfl⟩:∃s,x=2*s∨x=2*s+1:=⟨x/2,by omega⟩
  . rw[bG,bG];exact z j s l H
  . rw[ZV,ZV];exact hofff j s l H
 have hWs:∀j,j<ops.size->(f.map λo=>w9 (W2 G o)).getD j 0=w9 (Gp G f j):=by intro j l;obtain⟨o,io,t,u,k⟩:=O j l;simp[List.getD_eq_getElem?_getD,Gp,k]
 have hRs:∀j,j<ops.size->(f.map λo=>w9 (R2 G o)).getD j 0=w9 (VX G f j):=by intro j l;obtain⟨o,io,t,u,k⟩:=O j l;simp[List.getD_eq_getElem?_getD,VX,k]
 have hWR:∀j s,s∈Gp G f j->s∈VX G f j:=by
  intro j s r;cases k:f[j]? with
  |none=>simp[Gp,k]at r
  |some io=>simp only[Gp,VX,k]at r ⊢;simp only[R2,AAh];grind
 have U:∀j s,2*s∈Gp G f j->2*s+1∈Gp G f j:=by
  intro j s r;cases k:f[j]? with
  |none=>simp[Gp,k]at r
  |some io=>simp only[Gp,k]at r ⊢;unfold W2 at r ⊢;grind
 -- pairs that meet are ordered
 have y:∀i j s,i<j->j<ops.size->(s∈Gp G f i/\s∈VX G f j)∨(s∈VX G f i/\s∈Gp G f j)->(M.getD j 0).testBit i=true:=by
  intro i j s JA l r;obtain⟨o,io,t,u,k⟩:=O j l;rcases(Un j o u).2.2 i JA with⟨g1,g2⟩|g
  . rw[hWs i (by omega),hRs j l]at g1;rw[hRs i (by omega),hWs j l]at g2;rcases r with r|r
    . exact(Z8 g1 r.1 r.2).elim
    . exact(Z8 g2 r.1 r.2).elim
  . exact g
 -- any order
 have main:∀(fuel:Nat) (b:Array Bool) (a:Act) (w:World),b.size=ops.size->(List.range ops.size).countP (λi=> !b.getD i true)≤fuel->
  (∀j,j<ops.size->b.getD j true=true->∀i,(M.getD j 0).testBit i=true->b.getD i true=true)->
  (∃σ,Rel G n w0 S0 U0 a w σ/\∀s,σ s=q (FC (λj=>b.getD j true) (Gp G f) (2*s+1) ops.size) s)->J (λj=>b.getD j true) a w->wpAny P .any ops Q fuel b a w:=by
  have done:∀(b:Array Bool) (a:Act) (w:World),(∀j,j<ops.size->b.getD j true=true)->J (λj=>b.getD j true) a w->(∃σ,Rel G n w0 S0 U0 a w σ/\∀s,σ s=q (FC (λj=>b.getD j true) (Gp G f) (2*s+1) ops.size) s)->Q .normal a w:=by
   rintro b a w W hJ ⟨σ,t,u⟩;have:σ=q ops.size:=by
    funext s;rw[u s]
    have:=uO W Si (2*s+1) _ (AAv _);rw[ZV,ZV]at this;exact this
   subst this;exact hQ _ a w _ W hJ t (by rw[← hN];exact hK)
  intro fuel;induction fuel with
  |zero=>
   intro b a w PJ hcnt MU B9 hJ;have W:∀j,j<ops.size->b.getD j true=true:=by
    intro j l;have X:(List.range ops.size).countP (λi=> !b.getD i true)=0:=(by omega);rw[List.countP_eq_zero]at X
    have:=X j (by simp[l]);simpa using this
   refine⟨?_,done b a w W hJ B9⟩;simp only[Region.ready,List.filter_eq_nil_iff,List.mem_range];intro j l;simp[W j l]
  |succ fuel ih=>
   intro b a w PJ hcnt MU B9 hJ;refine⟨λhnil=> ?_,λi hi=> ?_⟩
   . refine done b a w ?_ hJ B9;intro j;induction j using Nat.strongRecOn with
     |_ j ihj=>
      intro l;cases v:b.getD j true with
      |true=>rfl
      |false=>
       exfalso;obtain⟨o,io,t,u,k⟩:=O j l;have:j∈Region.ready .any ops b:=by
        simp only[Region.ready,List.mem_filter,List.mem_range];refine⟨l,?_⟩;simp only[v,Bool.not_false,AA8,t,AAw,Option.getD_some,Array.all_eq_true'];intro e he;cases hb:Region.binds .any e with
        |false=>rfl
        |true=>have Dq:=(Un j o u).2.1 e (by simpa using he) hb;have hl':=ihj e.on Dq (by omega);have r:e.on<b.size:=(by omega);simp only[AAo,Array.getElem?_eq_getElem r,Option.getD_some]at hl' ⊢;simp[hl']
       rw[hnil]at this;cases this
   . simp only[Region.ready,List.mem_filter,List.mem_range,AAR,ABA]at hi;obtain⟨C,N,Ry⟩:=hi;obtain⟨o,io,t,u,k⟩:=O i C;simp only[t,AAw,Option.getD_some,Array.all_eq_true',AA2,ABA]at Ry;obtain⟨hsp1,hsp2,_⟩:=Un i o u;obtain⟨σ,IB,hσ⟩:=B9
     -- all that is ahead of i is listed
     have KT:∀x,(M.getD i 0).testBit x=true->b.getD x true=true:=by
      intro x H;rw[hsp1]at H;obtain⟨e,he,hb,hor⟩:=bef_bit H;have Dq:=hsp2 e he hb;have hle:b.getD e.on true=true:=(by have:=(Ry e (by simpa using he)).resolve_left (by simp[hb]);have r:e.on<b.size:=(by omega);simp only[AAo,Array.getElem?_eq_getElem r,Option.getD_some]at this ⊢;exact this);rcases hor with rfl|hor
      . exact hle
      . exact MU e.on (by omega) hle x hor
     have I:∀j,(b.setIfInBounds i true).getD j true=(b.getD j true||j==i):=by
      intro j;simp only[AAo,ABU];by_cases e:i=j
      . subst e;simp;split<;>simp
      . have e':¬j=i:=λx=>e x.symm;simp[e,e']
     have Yx:∀j s,j<i->s∈Gp G f j->s∈VX G f i->b.getD j true=true:=λj s l r Gx=>KT j (y j i s l C (.inl ⟨r,Gx⟩));have NJ:∀j s,i<j->j<ops.size->s∈Gp G f j->s∈VX G f i->b.getD j true=true->b.getD i true=true:=λj s l D r Gx v=>MU j D v i (y i j s l D (.inr ⟨Gx,r⟩));have hA:∀x,x∈VX G f i->Q2 (FC (λj=>b.getD j true) (Gp G f) x ops.size) x=Q2 i x:=λx H=>
      lastW_at (L:=λj=>b.getD j true) (R:=VX G f) N C Si Yx NJ H
     have hf:∀s,2*s+1∈R2 G io->σ s=q i s:=λs r=>by
      rw[hσ s]
      have:=hA (2*s+1) (by simpa[VX,k]using r);rw[ZV,ZV]at this;exact this
     -- writers of one slot are ordered
     have hord:∀j m s,j<m->m<ops.size->2*s+1∈Gp G f j->2*s+1∈Gp G f m->b.getD m true=true->b.getD j true=true:=
      λj m s hjm hm t u v=>MU m hm v j (y j m (2*s+1) hjm hm (.inl ⟨t,hWR m _ u⟩))
     have W:∀s m,m≤ops.size->(∀j,j<m->2*s∈Gp G f j->b.getD j true=true)->IU (q (FC (λj=>b.getD j true) (Gp G f) (2*s) m) s)=IU (q m s):=by
      intro s m;induction m with
      |zero=>intro _ _;rfl
      |succ m ihm=>
       intro hm v;simp only[FC];by_cases h:2*s∈Gp G f m
       . rw[AAa ⟨v m (by omega) h,h⟩]
       . rw[AAZ (λx=>h x.2),ihm (by omega) (λj l=>v j (by omega)),z m s (by omega) h]
     have Z:∀s m,m≤ops.size->IU (q (FC (λj=>b.getD j true) (Gp G f) (2*s+1) m) s)=IU (q (FC (λj=>b.getD j true) (Gp G f) (2*s) m) s):=by
      intro s m;induction m with
      |zero=>intro _;rfl
      |succ m ihm=>
       intro hm;simp only[FC];by_cases E:b.getD m true=true
       . by_cases X:2*s∈Gp G f m
         . rw[AAa ⟨E,U m s X⟩,AAa ⟨E,X⟩]
         . rw[AAZ (c:=_/\2*s∈_) (λx=>X x.2)];by_cases t:2*s+1∈Gp G f m
           . rw[AAa ⟨E,t⟩,z m s (by omega) X];exact(W s m (by omega) λj l hw=>hord j m s l (by omega) (U j s hw) t E).symm
           . rw[AAZ (λx=>t x.2)];exact ihm (by omega)
       . rw[AAZ (λx=>E x.1),AAZ (λx=>E x.1)];exact ihm (by omega)
     have hk:∀s,2*s∈R2 G io->IU (σ s)=IU (q i s):=λs r=>by
      rw[hσ s,Z s _ (AAv _)]
      have:=hA (2*s) (by simpa[VX,k]using r);rw[bG,bG]at this;exact this
     obtain⟨F,hτ,hmv1,hmv2⟩:=kZ (Ft io (AAe k)) (B i o io u k) (hwf i (by omega)) hf hk (G0 i io k);have T:(λj=>(b.setIfInBounds i true).getD j true)=λj=>(b.getD j true||j==i):=funext I;have V:∀s,F s=q (FC (λj=>(b.getD j true||j==i)) (Gp G f) (2*s+1) ops.size) s:=by
      intro s;by_cases r:2*s+1∈Gp G f i
      . rw[lastW_in (L:=λj=>b.getD j true) C (λj=>rfl) N (λj s l D t u k=>NJ j s l D t (hWR i s u) k) r];exact hmv1 s (by simpa[Gp,k]using r)
      . rw[uP (L:=λj=>b.getD j true) (i:=i) (λj=>rfl) r,← hσ s];exact hmv2 s (by simpa[Gp,k]using r)
     refine wpOp_mono ?_ (hS (λj=>b.getD j true) i o io a w σ F t k C N KT MU hJ IB hτ V)
     . rintro a' w' ⟨⟨σ2,Zt,rfl⟩,hJ'⟩;refine ih _ a' w' (by simp[PJ]) ?_ ?_ ⟨σ2,Zt,?_⟩ (by rw[T];exact hJ')
       . have:=sM (p:=λi=> !b.getD i true) (p':=λj=> !(b.setIfInBounds i true).getD j true) (λj l=>by simp only[I]at l;simp at l ⊢;exact l.1) (i:=i) (by simp[N]) (by simp[I]) ops.size C;omega
       . intro j D v x H;rw[I]at v ⊢;simp only[AA2,AAg]at v ⊢;rcases v with v|rfl
         . exact .inl (MU j D v x H)
         . exact .inl (KT x H)
       . intro s;rw[T];exact V s
 refine main ops.size _ a w (by simp) (by exact ABK (List.countP_le_length) (by simp)) ?_ ⟨σ,h,λs=> ?_⟩ hJ0
 . intro j l v;simp[AAo,l]at v
 . have:∀m,m≤ops.size->FC (λj=>(Array.replicate ops.size false).getD j true) (Gp G f) (2*s+1) m=0:=by
    intro m;induction m with
    |zero=>intro _;rfl
    |succ m ih=>intro hm;simp only[FC];rw[AAZ,ih (by omega)];rintro⟨t,_⟩;have PD:m<ops.size:=(by omega);simp[AAo,PD]at t
   rw[this _ (AAv _),hq0]
theorem Uo {L:Nat->Bool} {W:Nat->List Nat} {x b:Nat}:∀m,(∀j,j<m->L j=true->j<b)->FC L W x m≤b
 |0,_=>Nat.zero_le _
 |m+1,h=>by
  simp only[FC];split
  . grind
  . exact Uo m λj a=>h j (by omega)
theorem Te {n:Nat} {k:World} {i j:Nat->Prop} {a:Act} {τ:Sg} {S:Nat->Prop} {δ:Nat->DV} {Fr:Nat->Nat->Prop} {o:Oper} {d:Dk} {D:DV} (hn:a.tmps.size=n) (q:a.defers=[]) (F:Rd δ a) (g:St G w S δ Fr) (r:Nx k i j w S (BA Fr)) (l:∀b,S b->b<w.heap.size)
 (hd:I7 G a o (some d)) (E:Ok w S D (λ_=>False)) (u:DU δ D) (z:wr d D.er (λs=>(δ s).er)=some τ):Rel G n k i j (a.put o.dst D.Aw) w τ:=by
 obtain⟨c,g2,B,C⟩:=hd;obtain⟨f,t,y,v,m,p⟩:=g.wr (D:=D) (Ff:=λ_=>False) g2 B (λ_ _=>rfl) (λ_ _ _=>rfl) (λ_ h=>h) (λs x e=>(g.ok s).Et x e) E (λ_ _ _ h=>h) u z;refine⟨S,f,t,?_,?_,?_,v,y,r.trans (Nx.less λx e=>(p x e).elim id False.elim),l⟩
 . rw[c];simpa[Act.put]using hn
 . rw[c];simpa[Act.put]using q
 . intro s;rw[c,Il a d.d D.Aw C s,m s];split
   . rfl
   . exact F s
def Zl:Yb->Bool
 | .cp _| .Uf .. | .ld .. | .XZ _| .Yz .. | .mkf .. =>true
 |_=>false
def Wq (P:Program) (G:Gi) (n:Nat) (f:wN) (ops:Array Oper) (M:List Nat) (i:Nat) (o:Oper) (io:BJ):Bool:=
 Dr G n o.dst io.dst&&o.guard.isNone&&io.guard.isNone&&
 (if i=f.i0 then(match io.op,io.dst with| .fl,some d=>d.d==f.d0|_,_=>false)&&(match o.op with
  | .fieldAddr t (.tmp s) fi=>s==f.r&&(match P.underlying t with
   |some (.struct fs)=>match fs[fi]? with
    |some fd=>fd.offset==f.off&&(match Gg P fd.type with|some m=>m != 0|none=>false)
    |none=>false
   |_=>false)
  |_=>false)
  else if i=f.i1 then(match io.op,io.dst with| .fl,some d=>d.d==f.d1|_,_=>false)&&(match o.op with
   | .load t (.tmp s)=>s==f.d0&&Gg P t==some 1&&JP P t==some false
   |_=>false)&&(M.getD i 0).testBit f.i0
  else(match io.dst with|some d=>d.d != f.r&&d.d != f.d0&&d.d != f.d1|none=>true)&&
   (if i=f.i2 then(match io.op,o.op,io.dst with
    | .gD r off kb k j,.indexAddr t (.tmp s) x,some _=>r==f.r&&off==f.off&&kb==f.kb&&s==f.d1&&(match P.underlying t with|some (.slice e)=>Gg P e==some k|_=>false)&&CB x j
    |_,_,_=>false)&&(M.getD i 0).testBit f.i1&&(M.getD i 0).testBit f.i0
   else G4 P G n ops o io&&(if i<f.i2 then Zl io.op||(match io.op with| .call _ _ 4=>true|_=>false)else(M.getD i 0).testBit f.i2)))
def lX (P:Program) (G:Gi) (n:Nat) (f:wN) (ops:Array Oper) (Db:List BJ):Bool:=
 decide (Db.length=ops.size)&&decide (f.d0≠f.r)&&decide (f.d1≠f.r)&&decide (f.d0≠f.d1)&&decide (f.i0≠f.i1)&&decide (f.i0<f.i2)&&decide (f.i1<f.i2)&&decide (f.i2<ops.size)&&Lb G ops.toList Db&&
 (List.range ops.size).all λi=>match ops[i]?,Db[i]? with
  |some o,some io=>Wq P G n f ops (VE ops.toList []) i o io
  |_,_=>false
theorem Py {ops:Array Oper} {Q:Exit->Act->World->Prop} {i:Nat} {o:Oper} {a:Act} {u:Value} {K:Act->World->Prop} (hi:ops[i]? =some o) (c:o.guard=none) (b:(execOp a.eval o).run P w= .ok (.value u) w) (h:K (a.put o.dst u) w):wpOp P ops Q i K a w:=by unfold wpOp;rw[hi];simp only[Region.wanted,c,AAq];refine .inl ?_;unfold Oper.wp;rw[b];exact h
theorem jQ {ops:Array Oper} {Q:Exit->Act->World->Prop} {i:Nat} {o:Oper} {a:Act} {u:Value} {K J:Act->World->Prop} (hi:ops[i]? =some o) (e:o.guard=none) (c:(execOp a.eval o).run P w= .ok (.value u) w) (d:J (a.put o.dst u) w) (h:wpOp P ops Q i K a w):wpOp P ops Q i (λb w'=>K b w'/\J b w') a w:=by unfold wpOp at h ⊢;rw[hi]at h ⊢;simp only[Region.wanted,e,AAq]at h ⊢;refine h.imp (λh=> ?_) id;unfold Oper.wp at h ⊢;rw[c]at h ⊢;exact⟨h,d⟩
theorem zZ {n:Nat} {J:World} {z B:Nat->Prop} {a:Act} {σ:Sg} (h:Rel G n J z B a w σ) {o:Oper} {io:BJ} (b:JT P o.op io.op=true) (s:Zl io.op=true) {v:AV} (d:valOf io.op σ=some v):∃u,(execOp a.eval o).run P w= .ok (.value u) w:=by
 obtain⟨S,δ,Fr,hn,L,l,rfl,i,M,K⟩:=h;have E:Gives P w S δ a o v->∃u,(execOp a.eval o).run P w= .ok (.value u) w:=λ⟨u,h,_⟩=>⟨u,h⟩;apply E;obtain⟨dst,I,g⟩:=io;simp only at b s d;cases I with
 |cp y=>cases ho:o.op<;>rw[ho]at b<;>first| (simp[JT]at b;done)|exact Sb i l (.inl ho) b d|exact Sb i l (.inr ho) b d
 |Uf off y=>
  cases ho:o.op<;>rw[ho]at b<;>first| (simp[JT]at b;done)|skip
  rename_i t x Q;simp only[JT,AAR]at b;obtain⟨c,p⟩:=b;split at c
  . rename_i R r;split at c
    . rename_i O q;simp only[AAR,AAg]at c;obtain⟨D,g2⟩:=c;split at g2
      . rename_i m H;simp only[bne_iff_ne]at g2;exact Zo i l ho r q D H g2 p d
      . cases g2
    . cases c
  . cases c
 |ld gg m y=>
  cases ho:o.op<;>rw[ho]at b<;>first| (simp[JT]at b;done)|skip
  simp only[JT,AAR,AA2,AAg]at b;exact Sc i l ho b.1.1.1 b.1.1.2 b.1.2 b.2 d
 |XZ y=>
  cases ho:o.op<;>rw[ho]at b<;>first| (simp[JT]at b;done)|skip
  simp only[JT,AAR,AAg]at b;exact Sc i l ho b.1.1 b.1.2 (.inr rfl) b.2 (lda_ld d)
 |Yz k y j=>
  cases ho:o.op<;>rw[ho]at b<;>first| (simp[JT]at b;done)|skip
  simp only[JT,AAR]at b;obtain⟨⟨c,p⟩,F⟩:=b;split at c
  . rename_i e r;exact Zp i l ho r (UK c) p F d
  . cases c
 |mkf f ys=>
  cases ho:o.op<;>rw[ho]at b<;>first| (simp[JT]at b;done)|skip
  rename_i C first N
  cases C with
  |func f'=>simp only[JT,AAR,AAg]at b;obtain⟨⟨rfl,c⟩,p⟩:=b;exact Zq i l ho (by simp_all) p d
  |_=>simp[JT]at b
 |_=>cases s
theorem fK {n:Nat} {j:World} {c d:Nat->Prop} (t:Yj j c d) {ops:Array Oper} {K:Sg->Prop} (Q:Exit->Act->World->Prop) (v:∀a w σ,Rel G n j c d a w σ->K σ->Q .normal a w) {b:List BJ} {a:Act} {w:World} {σ:Sg}
 (h:Rel G n j c d a w σ) (x:Lc P G n ops ops.toList b=true) (hd:Lb G ops.toList b=true) (y:Nb P G b K σ):wpAny P .any ops Q ops.size (Array.replicate ops.size false) a w:=by
 obtain⟨m,l⟩:=sJ _ x;obtain⟨q,g,r,u⟩:=Q6 b y;refine SU Q h (by simp_all) (λi o io e f=>Wr (l i o io e f)) hd q g r u (λ_ _ _=>True) (λ_ a w σ _ _ h k=>v a w σ h k) trivial ?_;intro L i o io a w σ z e f _ _ _ _ _ s p _;exact wpOp_mono (λB w' h=>⟨h,trivial⟩) (IZ t s (l i o io (by simp_all) f) p Q e)
end Go.Abs
namespace Go.Abs
variable {G:Gi} {P:Program} {w:World}
def FJ (f:wN) (b:Nat) (h:Value) (L:Nat->Bool) (a:Act) (w:World):Prop:=
 L f.i2=false->a.tmps.getD f.r undef= .pointer (some ⟨b,0,none⟩)/\w.cell? ⟨b,f.off,none⟩=some h/\(L f.i0=true->a.tmps.getD f.d0 undef= .pointer (some ⟨b,f.off,none⟩))/\(L f.i1=true->a.tmps.getD f.d1 undef=h)
theorem gG {kb off:Nat} {x:AV} (h:cG kb off x=true):∃a,x= .own true kb [a]/\off<a.length:=by
 unfold cG at h;split at h
 . rename_i k a;simp only[AAR,AAg,AAk]at h;exact⟨a,by rw[h.1],h.2⟩
 . cases h
theorem zC {S:Nat->Prop} {δ:Nat->DV} {Fr:Nat->Nat->Prop} (h:St G w S δ Fr) {r kb:Nat} {f:List AV} (a:(δ r).er= .own true kb [f]):∃b e,δ r= .own (.pointer (some ⟨b,0,none⟩)) true kb [e]/\e.map DV.er=f/\
 (∀(j:Nat) d,e[j]? =some d->w.cell? ⟨b,j,none⟩=some d.Aw/\∃F,Ok w S d F):=by
 have g:=h.ok r;cases hδ:δ r with
 |lf x v=>rw[hδ]at a g;simp at a;subst a;cases g with|lf _ _ _ hl _=>simp[Hg]at hl
 |agg=>rw[hδ]at a;simp at a
 |BI=>rw[hδ]at a;simp at a
 |own hh bx k0 Al=>
  rw[hδ]at a g;simp only[Ee,AV.own.injEq]at a;obtain⟨rfl,rfl,k⟩:=a;obtain⟨e,rfl,l⟩:=ABa.1 k;cases g with
  |own _ _ _ b c arr E Fs _ hb hk Dv LO hv hrr hd Ba KG hF=>
   refine⟨b,e,by simp[JW],l,λj d i=>⟨?_,Fs 0 j,hrr 0 j e d rfl i⟩⟩
   have:=hv 0 j e d rfl i;simp only[Nat.zero_mul,ABX]at this;simp[World.cell?,hb,this]
theorem sV {n:Nat} {w0:World} {S0 U0:Nat->Prop} (hG:Yj w0 S0 U0) {ops:Array Oper} {K:Sg->Prop} (Q:Exit->Act->World->Prop) (hQ:∀a w σ,Rel G n w0 S0 U0 a w σ->K σ->Q .normal a w) {Z:List BJ} {a:Act} {w:World} {σ:Sg} {f:wN}
 (h:Rel G n w0 S0 U0 a w σ) (hc:lX P G n f ops Z=true) (q:Nat->Sg) (hq0:q 0=σ) (G0:∀i io,Z[i]? =some io->Ko P G io (· =q (i+1)) (q i)) (hK:K (q Z.length)) (hbx:∀m,m≤f.i2->cG f.kb f.off (q m f.r)=true):
 wpAny P .any ops Q ops.size (Array.replicate ops.size false) a w:=by
 simp only[lX,AAR,AAk,AAX]at hc;obtain⟨⟨⟨⟨⟨⟨⟨⟨⟨hN,n1⟩,n2⟩,n3⟩,n4⟩,n5⟩,n6⟩,n7⟩,fQ⟩,II⟩:=hc;have FA:∀i o io,ops[i]? =some o->Z[i]? =some io->Wq P G n f ops (VE ops.toList []) i o io=true:=by
  intro i o io J h2;have hi:i<ops.size:=(AA5.1 J).1
  have:=II i (by simpa using hi);rw[J,h2]at this;exact this
 -- the beginning
 obtain⟨M,hL,hJ0⟩:∃M hL,FJ f M hL (λj=>(Array.replicate ops.size false).getD j true) a w:=by
  obtain⟨S,δ,Fr,hn,ED,ha,rfl,B9,Ef,Cy⟩:=h;obtain⟨X,hr,Dq⟩:=gG (hbx 0 (Nat.zero_le _));rw[hq0]at hr;obtain⟨b,Io,J,h2,h3⟩:=zC B9 hr;have hl:f.off<Io.length:=by rw[← h2]at Dq;simpa using Dq
  refine⟨b,(Io[f.off]).Aw,λ_=>⟨?_,(h3 f.off _ (AAV hl)).1,?_,?_⟩⟩
  . rw[ha f.r,J];simp
  . intro y;simp[AAo,show f.i0<ops.size by omega]at y
  . intro y;simp[AAo,show f.i1<ops.size by omega]at y
 refine SU Q h hN ?_ fQ q hq0 G0 hK (FJ f M hL) (λ_ a w σ _ _ h k=>hQ a w σ h k) hJ0 ?_
 . intro i o io J h2 d hd
   have:=FA i o io (by simpa using J) h2;simp only[Wq,AAR]at this;have h3:=this.1.1.1;rw[hd]at h3;cases ho:o.dst with
   |none=>rw[ho]at h3;simp[Dr]at h3
   |some t=>rw[ho]at h3;simp only[Dr,AAR,AAg]at h3;exact h3.1.2
 . intro L i o io a w σ I J h2 hiN hLi KT MU hJ IB l hτs;have B:=FA i o io J h2;simp only[Wq,AAR,ABI]at B;obtain⟨⟨⟨Kt,mT⟩,NH⟩,B⟩:=B;obtain⟨dst,qH,g⟩:=io;simp only at NH;subst NH;simp only at Kt B;by_cases e0:i=f.i0
   . -- the address
     subst e0;rw[AAa rfl]at B;simp only[AAR]at B;obtain⟨H,C⟩:=B;split at H
     . rename_i d;simp only[AAg]at H;split at C
       . rename_i t s fi ho;simp only[AAR,AAg]at C;obtain⟨rfl,C⟩:=C;split at C
         . rename_i fs hu;split at C
           . rename_i fd hff;simp only[AAR,AAg]at C;obtain⟨g1,g2⟩:=C;split at g2
             . rename_i m hm;simp only[bne_iff_ne]at g2;obtain⟨S,δ,Fr,hn,ED,ha,rfl,B9,Ef,Cy⟩:=IB;have hd:=ER (a:=a) Kt hn;have U:∀u s,(a.put o.dst u).tmps.getD s undef=if s=d.d then u else a.tmps.getD s undef:=λu s=>by rw[hd.1,Il a d.d u hd.2.2.2 s]
               have MV:wr d (DV.lf .dead (.pointer (some ⟨M,f.off,none⟩))).er (λs=>(δ s).er)=some I:=by
                simp only[Ko,EA,GU,valOf]at l;split at l
                . rename_i υ p;rw[EU,p,l]
                . exact l.elim
               by_cases R:L f.i2=true
               . exact absurd (MU f.i2 n7 R f.i0 (by
                  obtain⟨W,z,q1,q2⟩:∃W z,ops[f.i2]? =some W/\Z[f.i2]? =some z:=⟨ops[f.i2],Z[f.i2]'(by omega),by simp[n7],by simp[hN,n7]⟩
                  have:=FA f.i2 W z q1 q2;simp only[Wq,AAR]at this;rw[AAZ (by omega),AAZ (by omega)]at this;simp only[AAq,AAR]at this;exact this.2.2.2)) (by rw[hLi];decide)
               . have N:L f.i2=false:=(by simpa using R);obtain⟨j1,j2,j3,j4⟩:=hJ N;refine Py (u:=.pointer (some ⟨M,f.off,none⟩)) J mT ?_ ⟨⟨I,Te (D:=.lf .dead (.pointer (some ⟨M,f.off,none⟩))) hn ED ha B9 Ef Cy hd (.lf _ _ _ trivial (λ_ h=>h)) (DU.dead _) MV,rfl⟩,λy=> ?_⟩
                 . have he:a.eval (.tmp f.r)= .pointer (some ⟨M,0,none⟩):=(by simpa[Act.eval]using j1);simp only[execOp,ho,he,Sem.run_bind,Mg hu hff hm g2,Result.andThen_ok,Sem.run_pure,g1,ABX]
                 . simp only[KP];refine⟨by rw[U,AAZ (by rw[H];exact Ne.symm n1)];exact j1,j2,λ_=>by rw[U,AAa H.symm],λhx1=> ?_⟩;rw[U,AAZ (by rw[H];exact Ne.symm n3)];exact j4 (by simpa[Ne.symm n4]using hx1)
             . cases g2
           . cases C
         . cases C
       . cases C
     . cases H
   rw[AAZ e0]at B;by_cases e1:i=f.i1
   . -- the load
     subst e1;rw[AAa rfl]at B;simp only[AAR]at B;obtain⟨⟨H,C⟩,k3⟩:=B;split at H
     . rename_i d;simp only[AAg]at H;split at C
       . rename_i t s ho;simp only[AAR,AAg]at C;obtain⟨⟨rfl,C⟩,k4⟩:=C;obtain⟨S,δ,Fr,hn,ED,ha,rfl,B9,Ef,Cy⟩:=IB;have hd:=ER (a:=a) Kt hn;have U:∀u s,(a.put o.dst u).tmps.getD s undef=if s=d.d then u else a.tmps.getD s undef:=λu s=>by rw[hd.1,Il a d.d u hd.2.2.2 s]
         have MV:wr d (DV.lf .dead hL).er (λs=>(δ s).er)=some I:=by
          simp only[Ko,EA,GU,valOf]at l;split at l
          . rename_i υ p;rw[EU,p,l]
          . exact l.elim
         by_cases R:L f.i2=true
         . exact absurd (MU f.i2 n7 R f.i1 (by
            obtain⟨W,z,q1,q2⟩:∃W z,ops[f.i2]? =some W/\Z[f.i2]? =some z:=⟨ops[f.i2],Z[f.i2]'(by omega),by simp[n7],by simp[hN,n7]⟩
            have:=FA f.i2 W z q1 q2;simp only[Wq,AAR]at this;rw[AAZ (by omega),AAZ (by omega)]at this;simp only[AAq,AAR]at this;exact this.2.2.1.2)) (by rw[hLi];decide)
         . have N:L f.i2=false:=(by simpa using R);obtain⟨j1,j2,j3,j4⟩:=hJ N;have j3':=j3 (KT f.i0 k3);refine Py (u:=hL) J mT ?_ ⟨⟨I,Te (D:=.lf .dead hL) hn ED ha B9 Ef Cy hd (.lf _ _ _ trivial (λ_ h=>h)) (DU.dead _) MV,rfl⟩,λy=> ?_⟩
           . have he:a.eval (.tmp f.d0)= .pointer (some ⟨M,f.off,none⟩):=by simpa[Act.eval]using j3'
             have:=K3 (P:=P) (w:=w) (b:=M) (off:=f.off) (vs:=[hL]) C k4 (.inr rfl) rfl (λj v F=>by
              cases j with
              |zero=>simp only[AA7,AAQ]at F;subst F;exact j2
              |succ j=>simp at F)
             simp only[execOp,ho,he,Instr.loadAt,Instr.sureAddr,Sem.run_bind,Sem.run_pure,Result.andThen_ok,this];rfl
           . simp only[KP];refine⟨by rw[U,AAZ (by rw[H];exact Ne.symm n2)];exact j1,j2,λhx0=> ?_,λ_=>by rw[U,AAa H.symm]⟩;rw[U,AAZ (by rw[H];exact n3)];exact j3'
       . cases C
     . cases H
   rw[AAZ e1]at B;simp only[AAR]at B;obtain⟨ME,B⟩:=B;by_cases e2:i=f.i2
   . -- the index
     subst e2;rw[AAa rfl]at B;simp only[AAR]at B;obtain⟨⟨H,C⟩,k3⟩:=B;split at H
     . rename_i r off kb k j t s x d ho;simp only[AAR,AAg]at H;obtain⟨⟨⟨⟨⟨rfl,rfl⟩,rfl⟩,rfl⟩,k4⟩,k5⟩:=H;split at k4
       . rename_i e hu;have hk:=UK k4;obtain⟨S,δ,Fr,hn,ED,ha,rfl,B9,Ef,Cy⟩:=IB;have hd:=ER (a:=a) Kt hn;obtain⟨j1,j2,j3,j4⟩:=hJ hLi;have j4':=j4 (KT f.i1 C);obtain⟨hj,hej⟩:=Aj k5 ha;simp only[Ko,EA,GU]at l;cases F:valOf (.gD f.r f.off f.kb k j) (λs=>(δ s).er)with
         |none=>rw[F]at l;exact l.elim
         |some v=>
          rw[F]at l;simp only at l;have hwv:wr d v (λs=>(δ s).er)=some I:=by
           split at l
           . rename_i υ p;rw[p,l]
           . exact l.elim
          simp only[valOf]at F;split at F
          . rename_i kb' X n0 hr hn0;split at F
            . rename_i k' rows Bf;split at F
              . rename_i Fu;obtain⟨rfl,rfl,h0,Dq⟩:=Fu;obtain rfl:=AAU F;obtain⟨b,Io,g1,g2,g3⟩:=zC B9 hr;have hb:b=M:=(by have:=ha f.r;rw[j1,g1]at this;simpa using this.symm);subst hb;rw[← g2,AAb,AAt]at Bf;obtain⟨D,hD,FM⟩:=Bf;obtain⟨g4,FD,g5⟩:=g3 f.off D hD;rw[j2,AAQ]at g4;obtain⟨kk,hn0⟩:=Nc hn0;obtain⟨ei,_⟩:=B9.Ey hj hn0;have Bp:Aq (δ f.r) [(0,f.off,f.kb)]=some D:=(by rw[g1];simp[Aq,hD]);have he1:a.eval (.tmp f.d1)=hL:=(by simpa[Act.eval]using j4');cases hDD:D with
                |lf x1 v1=>rw[hDD]at FM g5;simp at FM;subst FM;cases g5 with|lf _ _ _ hl _=>simp[Hg]at hl
                |agg=>rw[hDD]at FM;simp at FM
                |BI=>rw[hDD]at FM;simp at FM
                |own hh bx k0 Al=>
                 rw[hDD]at FM g5 g4 Bp;simp only[Ee,AV.own.injEq]at FM;obtain⟨rfl,rfl,KN⟩:=FM;simp only[Kh]at g4;have V:Al.length=rows.length:=(by rw[← KN];simp);cases g5 with
                 |nil=>simp at V;rw[← V]at Dq;simp at Dq;omega
                 |own _ _ _ bb c arr E Fs _ mR Yg Dv LO mY Yd hdd' Ba KG hF=>
                  have hLf:Lf w S δ (.Kn f.r [(0,f.off,f.kb)] n0.toNat 0 k0) (.pointer (some ⟨bb,n0.toNat*k0+0,none⟩)):=Lf.Kn Bp (by simp);obtain⟨D2,q1,q2,q3,q4⟩:=hLf;refine Py (u:=D2.Aw) J mT ?_ ⟨⟨I,Te (D:=D2) hn ED ha B9 Ef Cy hd q3 q4 (by rw[q1];exact hwv),rfl⟩,λy=> ?_⟩
                  . rw[q2];simp only[execOp,ho,he1,g4,hej,ei,JW,Sem.run_bind,AAY,AAd,run_indexAt_slice hu hk h0 (show n0<(Al.length:Nat)by rw[V];exact Dq),Result.andThen_ok,Sem.run_pure];simp
                  . simp at y
              . cases F
            . cases F
          . cases F
       . cases k4
     . cases H
   rw[AAZ e2,AAR]at B;obtain⟨Hv,O⟩:=B;have hJn:∀(u:Value) w',(L f.i2=false->w'.cell? ⟨M,f.off,none⟩=w.cell? ⟨M,f.off,none⟩)->FJ f M hL (λj=>(L j||j==i)) (a.put o.dst u) w':=by
    intro u w' hw' y;have Rz:L f.i2=false:=(by simp only[Bool.or_eq_false_iff]at y;exact y.1);obtain⟨j1,j2,j3,j4⟩:=hJ Rz;have U:∀s,s=f.r∨s=f.d0∨s=f.d1->(a.put o.dst u).tmps.getD s undef=a.tmps.getD s undef:=by
     intro s hs;obtain⟨S,δ,Fr,hn,_⟩:=IB;cases dst with
     |none=>have h0:o.dst=none:=ER (a:=a) Kt hn;rw[h0];rfl
     |some d=>
      have hd:=ER (a:=a) Kt hn;rw[hd.1,Il a d.d u hd.2.2.2 s,AAZ];simp only[AAR,bne_iff_ne]at ME;rintro rfl;rcases hs with hs|hs|hs
      . exact ME.1.1 hs
      . exact ME.1.2 hs
      . exact ME.2 hs
    refine⟨by rw[U _ (.inl rfl)];exact j1,by rw[hw' Rz];exact j2,λh0=> ?_,λh0=> ?_⟩
    . rw[U _ (.inr (.inl rfl))];exact j3 (by simpa[Ne.symm e0]using h0)
    . rw[U _ (.inr (.inr rfl))];exact j4 (by simpa[Ne.symm e1]using h0)
   by_cases Dq:i<f.i2
   . rw[AAa Dq]at O;simp only[AA2]at O;rcases O with O|O
     . -- a value
       have hop':JT P o.op qH=true:=by
        simp only[G4,AAR]at Hv
        have:=Hv.2;cases qH<;>first|exact this|cases O
       have F:∃v,valOf qH σ=some v:=by
        simp only[Ko,EA]at l;cases qH<;>first| (cases O;done)|skip
        all_goals
         cases dst with
         |none=>simp[GU]at l
         |some d=>
          simp only[GU]at l;split at l
          . rename_i υ p;split at p
            . exact⟨_,by assumption⟩
            . cases p
          . exact l.elim
       obtain⟨v,F⟩:=F;obtain⟨u,hu⟩:=zZ (io:=⟨dst,qH,none⟩) IB hop' O F;exact jQ J mT hu (hJn u w λ_=>rfl) (IZ hG IB Hv l Q J)
     . -- the call
       split at O
       . rename_i fn args;have hcall:Jl P o.op fn args 4=true:=(by simp only[G4,AAR]at Hv;exact Hv.2);by_cases R:L f.i2=true
         . refine wpOp_mono ?_ (IZ hG IB Hv l Q J);intro a' w' hr;exact⟨hr,λy=>by simp[R]at y⟩
         have N:L f.i2=false:=(by simpa using R);have hLf:∀j,j<ops.size->(L j||j==i)=true->j<f.i2:=by
          intro j hj y;simp only[AA2,AAg]at y;rcases y with y|rfl
          . rcases Nat.lt_trichotomy j f.i2 with h|h|h
            . exact h
            . subst h;exact absurd y R
            . exfalso;refine R (MU j hj y f.i2 ?_);obtain⟨W,z,q1,q2⟩:∃W z,ops[j]? =some W/\Z[j]? =some z:=⟨ops[j],Z[j]'(by omega),by simp[hj],by simp[hN,hj]⟩
              have:=FA j W z q1 q2;simp only[Wq,AAR]at this;rw[AAZ (by omega),AAZ (by omega),AAZ (by omega)]at this;simp only[AAR]at this
              have:=this.2.2.2;rw[AAZ (by omega)]at this;exact this
          . exact Dq
         obtain⟨X,T,_⟩:∃X,I f.r= .own true f.kb [X]/\f.off<X.length:=(by rw[hτs f.r];exact gG (hbx _ (Uo _ hLf)));obtain⟨S,δ,Fr,hn,_⟩:=id IB;have hd:I7 G a o dst:=ER (a:=a) Kt hn;unfold wpOp;rw[J];simp only[Region.wanted,mT,AAq];refine .inl (Oper.wp_mono ?_ (eY (io:=⟨dst,.call fn args 4,none⟩) hG IB rfl hcall hd (K:=(· =I)) l (rr:=f.r) (kb:=f.kb) ?_ Q))
         . rintro a' w' ⟨hr,Is,u,rfl⟩;refine⟨hr,hJn u w' λy=> ?_⟩;obtain⟨j1,_⟩:=hJ y;simp only[World.cell?,Is M j1]
         . intro aZ9 τ1 Jf;simp only[Ko,EA]at l;rw[Jf]at l;obtain⟨res,_,FN⟩:=l;split at FN
           . rename_i v F;cases dst with
             |none=>simp only[Ct]at FN;rw[FN];exact⟨_,T⟩
             |some d=>
              simp only[Ct]at FN;split at FN
              . rename_i υ p;subst FN;unfold wr at p;split at p
                . obtain rfl:=AAU p;simp only[AAR,bne_iff_ne]at ME;rw[BT _ _ (Ne.symm ME.1.1),QB]at T;split at T
                  . cases y:τ1 f.r with
                    |own b0 k0 K2=>rw[y]at T;simp only[DX]at T;cases T;exact⟨_,rfl⟩
                    |_=>rw[y]at T;simp only[DX]at T;first| (split at T<;>cases T;done)|cases T
                  . exact⟨_,T⟩
                . cases p
              . exact FN.elim
           . exact FN.elim
       . cases O
   . -- behind the index
     rw[AAZ Dq]at O;have R:L f.i2=true:=KT f.i2 O;refine wpOp_mono ?_ (IZ hG IB Hv l Q J);intro a' w' hr;exact⟨hr,λy=>by simp[R]at y⟩
theorem eM {f:wN} (a:List BJ):∀{σ:Sg} {K:Sg->Prop},Ql P G f a K σ->∃q:Nat->Sg,q 0=σ/\(∀i io,a[i]? =some io->Ko P G io (· =q (i+1)) (q i))/\(∀i,i<a.length->cG f.kb f.off (q i f.r)=true)/\K (q a.length):=by
 induction a with
 |nil=>intro σ K h;exact⟨λ_=>σ,rfl,λi io hi=>by simp at hi,λi hi=>by simp at hi,h⟩
 |cons o os ih=>
  intro σ K h;obtain⟨d,h⟩:=h;obtain⟨τ,b,c⟩:=O0.1 h;obtain⟨q,e,g,j,k⟩:=ih c;refine⟨λi=>match i with|0=>σ|i+1=>q i,rfl,λi io hi=> ?_,λi hi=> ?_,by simpa using k⟩
  . cases i with
    |zero=>simp only[AA7,AAQ]at hi;subst hi;simp only[e];exact b
    |succ i=>exact g i io (by simpa using hi)
  . cases i with
    |zero=>exact d
    |succ i=>exact j i (by simpa using hi)
theorem floRun {f:wN} {a b:List BJ} {K:Sg->Prop} {σ:Sg} (h:Ql P G f a (Nb P G b K) σ):∃q:Nat->Sg,q 0=σ/\(∀i io,(a++b)[i]? =some io->Ko P G io (· =q (i+1)) (q i))/\(∀i,i<a.length->cG f.kb f.off (q i f.r)=true)/\K (q (a++b).length):=by
 obtain⟨q,j,m,n,o⟩:=eM a h;obtain⟨p,g,k,l⟩:=Q6 b o;refine⟨λi=>if i<a.length then q i else p (i-a.length),?_,λi io hi=> ?_,λi hi=> ?_,?_⟩
 . simp only;split
   . exact j
   . rename_i s;have:a.length=0:=(by omega);rw[this,Nat.sub_zero,g,this];exact j
 . by_cases c:i<a.length
   . rw[AAr c]at hi
     have:=m i io hi;simp only[c,AAq];by_cases d:i+1<a.length
     . simp only[d,AAq];exact this
     . have e:i+1=a.length:=(by omega);simp only[d,AAd];rw[e,Nat.sub_self,g,← e];exact this
   . rw[AAy (by omega)]at hi
     have:=k _ io hi;simp only[c,AAd,show¬i+1<a.length by omega];rw[show i+1-a.length=i-a.length+1 by omega];exact this
 . simp only[hi,AAq];exact n i hi
 . simp only[AAz,show¬a.length+b.length<a.length by omega,AAd,Nat.add_sub_cancel_left];exact l
end Go.Abs
namespace Go.Abs
variable {G:Gi} {P:Program} {w:World}
theorem aU {ops:Array Oper} {Q:Exit->Act->World->Prop} {i:Nat} {o:Oper} {a:Act} {K:Act->World->Prop} {J:Array Value->Prop} (hi:ops[i]? =some o) (c:∀(b:Act) v,b.tmps=a.tmps->J (b.put o.dst v).tmps) (h:wpOp P ops Q i K a w):
 wpOp P ops Q i (λk w'=>K k w'/\J k.tmps) a w:=by
 unfold wpOp at h ⊢;rw[hi]at h ⊢;simp only at h ⊢;by_cases l:Region.wanted o (yielded ops a.tmps)=true
 . simp only[l,AAq]at h ⊢;refine h.imp (λh=> ?_) id;unfold Oper.wp at*;generalize (execOp a.eval o).run P w=r at*;cases r with
   |ok x w'=>
    cases x with
    |value v=>exact⟨h,c _ _ rfl⟩
    |skip=>exact⟨h,c _ _ rfl⟩
    |defer d=>exact⟨h,c _ _ rfl⟩
    |enter f args=>
     simp only[Oper.upon]at h ⊢;refine Calls.mono h λe j g=> ?_;cases e with
     |returned v=>exact⟨g,c _ _ rfl⟩
     |panicked chain=>exact g
     |outgrown=>exact g
    |row row args=>simp only[Oper.upon]at h ⊢;exact Rows.mono h λv j g=>⟨g,c _ _ rfl⟩
    |_=>simp only[Oper.upon]at h
   |halt x w'=>
    cases x with
    |panic v=>exact h
    |_=>simp only[Oper.upon]at h
 . simp only[l]at h ⊢;exact⟨h,c _ _ rfl⟩
def rnX (d r:Nat):Operand->Operand
 | .tmp s=>if s=d then .tmp r else .tmp s
 |x=>x
def nX (d r:Nat):Op->Op
 | .indexAddr t x y=>.indexAddr t (rnX d r x) y
 | .nilCheck x=>.nilCheck (rnX d r x)
 | .extract x k=>.extract (rnX d r x) k
 | .call ⟨.value f,xs,ts⟩=>.call ⟨.value f,xs.map (rnX d r),ts⟩
 |o=>o
theorem Tf {a:Act} {d r:Nat} (h:a.tmps.getD d undef=a.tmps.getD r undef) (x:Operand):a.eval (rnX d r x)=a.eval x:=by
 cases x with
 |tmp s=>
  simp only[rnX];split
  . rename_i e;subst e;simp only[Act.eval];exact h.symm
  . rfl
 |_=>rfl
theorem vL {a:Act} {d r:Nat} (h:a.tmps.getD d undef=a.tmps.getD r undef) (o:Oper):execOp a.eval {o with op:=nX d r o.op}=execOp a.eval o:=by
 have e:a.eval ∘ rnX d r=a.eval:=funext λx=>Tf h x;obtain⟨dst,op,ty,i,b,g⟩:=o;cases op with
 |indexAddr t x y=>simp only[execOp,nX,Tf h]
 |nilCheck x=>simp only[execOp,nX,Tf h]
 |extract x k=>simp only[execOp,nX,Tf h]
 |call c=>
  obtain⟨cl,l,j⟩:=c;cases cl with
  |value f=>simp only[execOp,nX,resolve,Array.map_map,e]
  |_=>rfl
 |_=>rfl
def Uh (Db:List BJ) (i1:Nat):ABr Nat:=match Db[i1]? with
 |some ⟨_,.flk _ k,_⟩=>some k
 |_=>none
def arO (o:ABr Nat) (v:Value):Prop:=match o with
 |some k=>∃vs:Array Value,v= .tuple vs/\k<vs.size
 |none=>True
def o5 (P:Program) (G:Gi) (n:Nat) (fs:List (Nat×Nat×Nat×Nat)) (ops:Array Oper) (Db:List BJ) (M:List Nat) (i:Nat) (o:Oper) (io:BJ):Bool:=
 Dr G n o.dst io.dst&&
 (match fs.find? (·.2.1==i)with
  |some (r,_,_,d1)=>o.guard.isNone&&io.guard.isNone&&(match io.op,io.dst with| .fl,some d=>d.d==d1| .flk (.t x) _,some d=>d.d==d1&&x==r|_,_=>false)&&(match o.op with| .move (.tmp s)=>s==r|_=>false)&&
   fs.all λf=>f.1 != d1&&(if f.2.1==i then f.1==r&&f.2.2.2==d1 else f.2.2.2 != d1)
  |none=>(match io.dst with|some d=>fs.all λf=>(f.1 != d.d||(M.getD f.2.1 0).testBit i)&&f.2.2.2 != d.d|none=>true)&&
   (match io.op with
   | .fl=>o.guard.isNone&&io.guard.isNone&&io.dst.isSome&&(match o.op with
    | .extract (.tmp t) k=>fs.any λf=>f.2.2.2==t&&(M.getD i 0).testBit f.2.1&&(match Uh Db f.2.1 with|some m=>decide (k≤m)|none=>false)
    |_=>false)
   |_=>match fs.find? (·.2.2.1==i)with
    |some (r,i1,_,d1)=>o.guard.isNone&&(M.getD i 0).testBit i1&&G4 P G n (ops.setIfInBounds i {o with op:=nX d1 r o.op}) {o with op:=nX d1 r o.op} io
    |none=>G4 P G n ops o io))
def lW (P:Program) (G:Gi) (n:Nat) (fs:List (Nat×Nat×Nat×Nat)) (ops:Array Oper) (Db:List BJ):Bool:=
 decide (Db.length=ops.size)&&(fs.all λf=>decide (f.2.1<ops.size))&&Lb G ops.toList Db&&
 (List.range ops.size).all λi=>match ops[i]?,Db[i]? with
  |some o,some io=>o5 P G n fs ops Db (VE ops.toList []) i o io
  |_,_=>false
theorem tup_ar {δ:Nat->DV} {Fr:Nat->Nat->Prop} {S:Nat->Prop} (h:St G w S δ Fr) {r k:Nat} {d:List AV} (b:(δ r).er= .BI d) (e:k<d.length):∃vs:Array Value,(δ r).Aw= .tuple vs/\k<vs.size:=by
 have c:=(h.ok r).Kw;cases hδ:δ r with
 |lf a v=>rw[hδ]at c b;cases c with|lf _ _ c=>simp only[EU]at b;subst b;simp[C0]at c
 |own=>rw[hδ]at b;simp at b
 |agg=>rw[hδ]at b;simp at b
 |BI ds=>rw[hδ]at b;simp only[JL,AV.BI.injEq]at b;subst b;exact⟨_,LJ _,by simpa using e⟩
theorem sU {n:Nat} {w0:World} {S0 U0:Nat->Prop} (hG:Yj w0 S0 U0) {ops:Array Oper} {K:Sg->Prop} (Q:Exit->Act->World->Prop) (hQ:∀a w σ,Rel G n w0 S0 U0 a w σ->K σ->Q .normal a w) {E:List BJ} {a:Act} {w:World} {σ:Sg} {W:List (Nat×Nat×Nat×Nat)}
 (h:Rel G n w0 S0 U0 a w σ) (hc:lW P G n W ops E=true) (CU:Nb P G E K σ):
 wpAny P .any ops Q ops.size (Array.replicate ops.size false) a w:=by
 simp only[lW,AAR,AAk]at hc;obtain⟨⟨⟨hN,n2⟩,fQ⟩,II⟩:=hc;rw[AAX]at n2 II;obtain⟨q,hq0,G0,hK⟩:=Q6 E CU;have FA:∀i o io,ops[i]? =some o->E[i]? =some io->o5 P G n W ops E (VE ops.toList []) i o io=true:=by
  intro i o io z O;have hi:i<ops.size:=(AA5.1 z).1
  have:=II i (by simpa using hi);rw[z,O]at this;exact this
 refine SU Q h hN ?_ fQ q hq0 G0 hK (λL a _=>∀f∈W,L f.2.1=true->a.tmps.getD f.2.2.2 undef=a.tmps.getD f.1 undef/\arO (Uh E f.2.1) (a.tmps.getD f.2.2.2 undef)) (λ_ a w σ _ _ h k=>hQ a w σ h k) ?_ ?_
 . intro i o io z O d hd
   have:=FA i o io (by simpa using z) O;simp only[o5,AAR]at this;have I:=this.1;rw[hd]at I;cases X:o.dst with
   |none=>rw[X]at I;simp[Dr]at I
   |some t=>rw[X]at I;simp only[Dr,AAR,AAg]at I;exact I.1.2
 . intro f y l
   have:=n2 f y;simp only[AAk]at this;simp[AAo,this]at l
 . intro L i o io a w σ M z O hiN hLi KT MU hJ IB j hτs;have c:=FA i o io z O;simp only[o5,AAR]at c;obtain⟨H,c⟩:=c;split at c
   . rename_i r _ _ d1 B;simp only[AAR,ABI,AAX,bne_iff_ne]at c;obtain⟨⟨⟨⟨mT,NH⟩,p⟩,k2⟩,k3⟩:=c;obtain⟨dst,qH,g⟩:=io;simp only at NH H p;subst NH;split at k2
     . rename_i s X;simp only[AAg]at k2;subst k2;obtain⟨S,δ,Fr,hn,ED,ha,rfl,B9,Ef,Cy⟩:=IB;have key:∃d,dst=some d/\d.d=d1/\wr d .dead (λs=>(δ s).er)=some M/\arO (Uh E i) (a.tmps.getD s undef):=by
        split at p
        . rename_i d;refine⟨d,rfl,by simpa using p,?_,by simp[Uh,O,arO]⟩;simp only[Ko,EA,GU,valOf]at j;split at j
          . rename_i υ C;rw[C,j]
          . exact j.elim
        . rename_i x k d;simp only[AAR,AAg]at p;obtain⟨p,rfl⟩:=p;simp only[Ko,EA,GU,valOf]at j;cases l:(δ x).er with
          |BI cs=>
           simp only[l]at j;by_cases U:k<cs.length
           . simp only[U,AAq]at j;refine⟨d,rfl,p,?_,?_⟩
             . split at j
               . rename_i υ C;rw[C,j]
               . exact j.elim
             . simp only[Uh,O,arO];rw[ha x];exact tup_ar B9 l U
           . simp[U]at j
          |_=>simp[l]at j
        . cases p
       obtain⟨d,rfl,p,MV,har⟩:=key;have hd:=ER (a:=a) H hn;have HQ:∀u s,(a.put o.dst u).tmps.getD s undef=if s=d.d then u else a.tmps.getD s undef:=λu s=>by rw[hd.1,Il a d.d u hd.2.2.2 s]
       rw[← EU .dead (a.tmps.getD s undef)]at MV;refine Py (u:=a.tmps.getD s undef) z mT ?_ ⟨⟨M,Te (D:=.lf .dead (a.tmps.getD s undef)) hn ED ha B9 Ef Cy hd (.lf _ _ _ trivial (λ_ h=>h)) (DU.dead _) MV,rfl⟩,λf y l=> ?_⟩
       . simp[execOp,X,Act.eval]
       . obtain⟨j1,Z⟩:=k3 f y;rw[HQ,HQ,p,AAZ j1];split at Z
         . rename_i e;simp only[AAR,AAg]at Z e;rw[AAa Z.2,Z.1,e];exact⟨rfl,har⟩
         . rename_i e;simp only[bne_iff_ne]at Z;rw[AAZ Z];refine hJ f y ?_;simp only[AA2]at l;exact l.resolve_right e
     . cases k2
   . rename_i fY;simp only[AAR]at c;obtain⟨p,c⟩:=c;have R:∀(b:Act) v,b.tmps=a.tmps->∀f∈W,(L f.2.1||f.2.1==i)=true->(b.put o.dst v).tmps.getD f.2.2.2 undef=(b.put o.dst v).tmps.getD f.1 undef/\arO (Uh E f.2.1) ((b.put o.dst v).tmps.getD f.2.2.2 undef):=by
      intro b v F f y l;have e1:¬(f.2.1==i)=true:=List.find?_eq_none.1 fY f y;have K7:L f.2.1=true:=(by simpa[e1]using l);have T:=hJ f y K7;cases wW:o.dst with
      |none=>simp only[Act.put,F];exact T
      |some t=>
       cases qA:io.dst with
       |none=>rw[wW,qA]at H;simp[Dr]at H
       |some d=>rw[wW,qA]at H;rw[qA]at p;simp only[Dr,AAR,AAg]at H;simp only[AAX,AAR,AA2,bne_iff_ne]at p;have ht:t=d.d:=H.1.1.1;obtain⟨u1,u2⟩:=p f y;have u1:f.1≠d.d:=u1.elim id λmR=>(by have I:=MU f.2.1 (AAc (n2 f y)) K7 i mR;rw[hLi]at I;cases I);simp only[Act.put,F,AAo,ABU];rw[AAZ (by rw[ht];exact Ne.symm u2),AAZ (by rw[ht];exact Ne.symm u1)];simpa[AAo]using T
     split at c
     . rename_i N;simp only[AAR,ABI,Option.isSome_iff_exists]at c;obtain⟨⟨⟨mT,NH⟩,d,qA⟩,c⟩:=c;obtain⟨dst,qH,g⟩:=io;simp only at NH H p qA N;subst NH qA N;split at c
       . rename_i t k X;rw[List.any_eq_true]at c;obtain⟨f,y,c⟩:=c;simp only[AAR,AAg]at c;obtain⟨⟨ht,F⟩,U⟩:=c;have T:=hJ f y (KT _ F);split at U
         . rename_i m hm;rw[hm]at T;obtain⟨vs,hv,hmv⟩:=T.2;have hkv:k<vs.size:=Nat.lt_of_le_of_lt (AAc U) hmv;obtain⟨S,δ,Fr,hn,ED,ha,rfl,B9,Ef,Cy⟩:=IB;have hd:=ER (a:=a) H hn;have MV:wr d (DV.lf .dead vs[k]).er (λs=>(δ s).er)=some M:=by
            simp only[Ko,EA,GU,valOf]at j;split at j
            . rename_i υ C;rw[EU,C,j]
            . exact j.elim
           refine Py (u:=vs[k]) z mT ?_ ⟨⟨M,Te (D:=.lf .dead vs[k]) hn ED ha B9 Ef Cy hd (.lf _ _ _ trivial (λ_ h=>h)) (DU.dead _) MV,rfl⟩,λf y l=>R a _ rfl f y l⟩;simp only[execOp,X,Act.eval,← ht,hv,Instr.extract,Array.getElem?_eq_getElem hkv];rfl
         . cases U
       . cases c
     split at c
     . rename_i r i1 _ d1 B;simp only[AAR,ABI]at c;obtain⟨⟨mT,F⟩,c⟩:=c;have T:=(hJ _ (ABm B) (KT _ F)).1;have key:=IZ hG IB c j Q (i:=i) (by simp[hiN]);refine aU z (J:=λV=>∀f∈W,(L f.2.1||f.2.1==i)=true->V.getD f.2.2.2 undef=V.getD f.1 undef/\arO (Uh E f.2.1) (V.getD f.2.2.2 undef)) (λb v F=>R b v F) ?_;unfold wpOp at key ⊢;rw[z];simp only[Array.getElem?_setIfInBounds_self_of_lt hiN,Region.wanted,mT,AAq]at key ⊢;unfold Oper.wp Oper.asks at*;have l:=vL T o;simp only[mT]at l;rw[l]at key;exact key
     . exact aU z (J:=λV=>∀f∈W,(L f.2.1||f.2.1==i)=true->V.getD f.2.2.2 undef=V.getD f.1 undef/\arO (Uh E f.2.1) (V.getD f.2.2.2 undef)) (λb v F=>R b v F) (IZ hG IB c j Q z)
end Go.Abs
namespace Go.Abs
variable {G:Gi} {P:Program} {w:World}
theorem Sp {L:Nat->Bool} {W:Nat->List Nat} {x j:Nat} (a:L j=true) (b:x∈W j):∀m,j<m->j<FC L W x m
 |0,h=>absurd h (Nat.not_lt_zero _)
 |m+1,h=>by
  simp only[FC];split
  . omega
  . rename_i c;by_cases e:j=m
    . simp_all
    . exact Sp a b m (by omega)
theorem put_same (p:List Step):∀{t x:AV},sub t p=some x->put t p x=some t:=by
 induction p with
 |nil=>intro t x h;simp only[sub,AAQ]at h;subst h;rfl
 |cons s p ih=>
  obtain⟨i,j,k⟩:=s;intro t x h;cases t with
  |own b k' rows=>
   simp only[sub]at h;split at h
   . rename_i l hi;split at h
     . rename_i c d;obtain⟨g,f⟩:=AAS.1 hi;obtain⟨e,a⟩:=AAS.1 d;simp only[put,hi,d,ih h];rw[← a,List.set_getElem_self,← f,List.set_getElem_self]
     . cases h
   . cases h
  |agg cs=>
   simp only[sub]at h;split at h
   . rename_i c d;obtain⟨e,a⟩:=AAS.1 d;simp only[put,d,ih h];rw[← a,List.set_getElem_self]
   . cases h
  |BI cs=>
   simp only[sub]at h;split at h
   . rename_i c d;obtain⟨e,a⟩:=AAS.1 d;simp only[put,d,ih h];rw[← a,List.set_getElem_self]
   . cases h
  |_=>simp[sub]at h
theorem sub_k {i j:Nat} (p:List Step) (k d:Nat):∀{t:AV},sub t (p++[(i,j,k)])=sub t (p++[(i,j,d)]):=by
 induction p with
 |nil=>intro t;cases t<;>simp[sub]
 |cons s p ih=>obtain⟨a,b,c⟩:=s;intro t;cases t<;>simp[sub,ih]
theorem st_frame {S:Nat->Prop} {δ:Nat->DV} {Fr:Nat->Nat->Prop} (h:St G w S δ Fr) {a:Act} (y:Rd δ a) {o:Oper} {t:TypeId} {x u:Operand} {n s:Nat} {z:Ar} (ho:o.op= .store t x u) (hn:Gg P t=some n) (hc:CB x (.t s)=true) (T:CB u z=true) {σ':Sg}
 (c:GU G (.st n (.t s) z) none (λs=>(δ s).er)=some σ'):∃w' b off,(execOp a.eval o).run P w= .ok .skip w'/\(∀x,x≠b->w'.heap[x]? =w.heap[x]?)/\a.tmps.getD s undef= .pointer (some ⟨b,off,none⟩):=by
 obtain⟨hy,U⟩:=Aj hc y;obtain⟨hz,f⟩:=Aj T y;simp only[GU]at c;split at c
 . rename_i v τ ht;obtain⟨δ1,F1,D,Ff,d,Q,M,H⟩:=h.tk hz ht;subst Q;subst M;split at c
   . rename_i r p i j k W;obtain⟨vh,bx,Al,b,Fx,E,Z,hp,CZ,_⟩:=d.st.EB W;split at c
     . rename_i dP k' rows tW;obtain⟨D',e,AAI⟩:=Dj (d.st.ok r).Kw tW;rw[E]at e;obtain rfl:=AAU e;simp only[Ee,AV.own.injEq]at AAI;obtain⟨rfl,rfl,rfl⟩:=AAI;split at c
       . rename_i row F;rw[AAb,AAt]at F;obtain⟨Io,B,rfl⟩:=F;split at c
         . rename_i N;obtain⟨g,q,hjn⟩:=N;split at c
           . rename_i t' C;have K:=LU D d.ok.Kw;have hl:(cellsD D).length=n:=(by rw[← g,← K];simp);have I:=La d.ok q;rw[← K]at C q;obtain⟨w',td,F',L,PG,J,Qq,Ku,X,_⟩:=aL (P:=P) (cellsD D) (d.st.ok r) E Z B (by simp_all) (NB d.ok) (λx hx R=>d.MC r x R hx) q C 0 (i*k+j) rfl;have l:(δ s).Aw= .pointer (some ⟨b,i*k+j,none⟩):=(by rw[← d.Aw s];exact hp);refine⟨w',b,i*k+j,?_,X,by rw[y s];exact l⟩;have V:¬((Cx δ z).cells.size≠n):=(by rw[← H,I];simp[hl]);have O:(Cx δ z).cells.toList=(cellsD D).map DV.Aw:=(by rw[← H,I]);have m:Cx δ (.t s)= .pointer (some ⟨b,i*k+j,none⟩):=l;simp only[execOp,ho,U,f,m,Instr.storeAt,Instr.sureAddr,storeVar,Sem.run_bind,Sem.run_pure,Result.andThen_ok,run_sizeOf hn,Sem.run_ite,V,AAd,O,L]
           . cases c
         . cases c
       . cases c
     . cases c
   . cases c
 . cases c
theorem eN {f:wK} (os:List BJ):∀{m:Nat} {σ:Sg} {K:Sg->Prop},OC P G f m os K σ->∃q:Nat->Sg,q 0=σ/\(∀i io,os[i]? =some io->Ko P G io (· =q (i+1)) (q i))/\(∀i,i≤os.length->u6 f (m+i) (q i)=true)/\K (q os.length):=by
 induction os with
 |nil=>intro m σ K h;exact⟨λ_=>σ,rfl,λi io hi=>by simp at hi,λi hi=>by simp only[ABM,Nat.le_zero]at hi;subst hi;exact h.1,h.2⟩
 |cons o os ih=>
  intro m σ K h;obtain⟨c,h⟩:=h;obtain⟨τ,b,a⟩:=O0.1 h;obtain⟨q,d,e,g,j⟩:=ih a;refine⟨λi=>match i with|0=>σ|i+1=>q i,rfl,λi io hi=> ?_,λi hi=> ?_,by omega⟩
  all_goals grind
def fB (P:Program) (G:Gi) (n:Nat) (f:wK) (ops:Array Oper) (M:List Nat) (i:Nat) (o:Oper) (io:BJ):Bool:=
 if i=f.i12 then o.guard.isNone&&o.dst.isNone&&io.guard.isNone&&io.dst.isNone&&(match io.op with| .std (.t s)=>s==f.ap|_=>false)&&
  (match o.op with| .store t (.tmp x) (.tmp u)=>x==f.ap&&u==f.s&&Gg P t==some 1|_=>false)&&(M.getD i 0).testBit f.i7&&(M.getD i 0).testBit f.i11
 else G4 P G n ops o io&&((M.getD f.i12 0).testBit i||(o.guard.isNone&&io.guard.isNone&&(match io.dst with|some d=>d.d != f.s&&d.d != f.ap|none=>true)&&
  (if i=f.i9 then o.dst.isNone&&io.dst.isNone&&(match io.op,o.op with| .st n (.t s) z,.store t x u=>s==f.e&&Gg P t==some n&&CB x (.t s)&&CB u z|_,_=>false)&&(M.getD i 0).testBit f.i8
   else Zl io.op)))
def lT (P:Program) (G:Gi) (n:Nat) (f:wK) (ops:Array Oper) (Db:List BJ):Bool:=
 decide (Db.length=ops.size)&&decide (f.i12<ops.size)&&Lb G ops.toList Db&&(Gp G Db f.i7).contains (2*f.s+1)&&(Gp G Db f.i8).contains (2*f.e+1)&&(Gp G Db f.i11).contains (2*f.ap+1)&&
 ((G.Gy f.e).all λr=> !(G.Gy f.ap).contains r)&&decide (f.i7<ops.size)&&decide (f.i8<ops.size)&&decide (f.i11<ops.size)&&
 (List.range ops.size).all λi=>match ops[i]?,Db[i]? with
  |some o,some io=>fB P G n f ops (VE ops.toList []) i o io
  |_,_=>false
def AJ (f:wK) (L:Nat->Bool) (a:Act) (w:World):Prop:=L f.i12=true->∃b o arr E,a.tmps.getD f.ap undef= .pointer (some ⟨b,o,none⟩)/\w.heap[b]? =some (.cells arr E (0,0))/\arr[o]? =some (a.tmps.getD f.s undef)
theorem dA {b o:Nat} {v:Value} {arr:Array Value} {E:TypeId} {fz:Nat×Nat} (a:w.heap[b]? =some (.cells arr E fz)) (c:arr[o]? =some v):w.setCell ⟨b,o,none⟩ v=w:=by
 have e:arr.setIfInBounds o v=arr:=by
  apply Array.ext_getElem?;intro i;rw[ABU];split
  . grind
  . rfl
 obtain⟨heap,_⟩:=w;simp only[World.setCell,World.mk.injEq,and_true]at a ⊢;grind
theorem xY {σ:Sg} {s:Nat} (h:RM (σ s)=true):∃r p i j k,σ s= .Kn r p i j k/\EB σ (.t s)=some (r,p,i,j,k):=by
 cases hs:σ s with
 |Kn r p i j k=>exact⟨r,p,i,j,k,rfl,by simp[EB,hs]⟩
 |_=>rw[hs]at h;simp[RM]at h
theorem wG {ops:Array Oper} {Q:Exit->Act->World->Prop} {i:Nat} {o:Oper} {a:Act} {w':World} {K:Act->World->Prop} (hi:ops[i]? =some o) (c:o.guard=none) (b:(execOp a.eval o).run P w= .ok .skip w') (h:K (a.put o.dst undef) w'):wpOp P ops Q i K a w:=by unfold wpOp;rw[hi];simp only[Region.wanted,c,AAq];refine .inl ?_;unfold Oper.wp;rw[b];exact h
theorem oI {ops:Array Oper} {Q:Exit->Act->World->Prop} {i:Nat} {o:Oper} {a:Act} {w':World} {K:Act->World->Prop} (hi:ops[i]? =some o) (e:o.guard=none) (d:(execOp a.eval o).run P w= .ok .skip w') (h:wpOp P ops Q i K a w):wpOp P ops Q i (λb c=>K b c/\b=a.put o.dst undef/\c=w') a w:=by unfold wpOp at h ⊢;rw[hi]at h ⊢;simp only[Region.wanted,e,AAq]at h ⊢;refine h.imp (λh=> ?_) id;unfold Oper.wp at h ⊢;rw[d]at h ⊢;exact⟨h,rfl,rfl⟩
theorem rN {n:Nat} {w0:World} {S0 U0:Nat->Prop} (hG:Yj w0 S0 U0) {ops:Array Oper} {K:Sg->Prop} (Q:Exit->Act->World->Prop) (hQ:∀a w σ,Rel G n w0 S0 U0 a w σ->K σ->Q .normal a w) {B:List BJ} {a:Act} {w:World} {σ:Sg} {f:wK}
 (h:Rel G n w0 S0 U0 a w σ) (hc:lT P G n f ops B=true) (CU:OC P G f 0 B (Ko P G ⟨none,.st 1 (.t f.ap) (.t f.s),none⟩ K) σ):
 wpAny P .any ops Q ops.size (Array.replicate ops.size false) a w:=by
 simp only[lT,AAR,AAk,AAn]at hc;obtain⟨⟨⟨⟨⟨⟨⟨⟨⟨⟨hN,n12⟩,fQ⟩,w7⟩,w8⟩,w11⟩,hdj⟩,n7⟩,n8⟩,n11⟩,II⟩:=hc;rw[AAX]at hdj II;obtain⟨q,hq0,G0,CZ,hK⟩:=eN B CU;simp only[ABX]at CZ;have Jg:∀i o io,ops[i]? =some o->B[i]? =some io->fB P G n f ops (VE ops.toList []) i o io=true:=by
  intro i o io D I;have hi:i<ops.size:=(AA5.1 D).1
  have:=II i (by simpa using hi);rw[D,I]at this;exact this
 obtain⟨o12,N,p1,p2⟩:∃o io,ops[f.i12]? =some o/\B[f.i12]? =some io:=⟨ops[f.i12],B[f.i12]'(by omega),by simp[n12],by simp[hN,n12]⟩;have h12:=Jg _ _ _ p1 p2;simp only[fB,AAa,AAR,ABI]at h12;obtain⟨⟨⟨⟨⟨⟨⟨g1,g2⟩,g3⟩,g4⟩,g5⟩,g6⟩,b7⟩,b11⟩:=h12;obtain⟨ty,fL,PJ⟩:∃ty,o12.op= .store ty (.tmp f.ap) (.tmp f.s)/\Gg P ty=some 1:=by
  split at g6
  . rename_i ty x u ho;simp only[AAR,AAg]at g6;obtain⟨⟨rfl,rfl⟩,T⟩:=g6;exact⟨ty,ho,T⟩
  . cases g6
 have ei12:N=⟨none,.std (.t f.ap),none⟩:=by
  obtain⟨d,op,g⟩:=N;simp only at g3 g4 g5;subst g3;subst g4;split at g5
  . simp only[AAg]at g5;rw[g5]
  . cases g5
 -- where the slots stand
 have own:∀{L:Nat->Bool} {σ:Sg},L f.i7=true->σ f.s=q (FC L (Gp G B) (2*f.s+1) ops.size) f.s->PL (σ f.s)=true:=by intro L σ hL J;have D:=Sp hL w7 ops.size n7;have I:=XW L (Gp G B) (2*f.s+1) ops.size;have T:=CZ _ (by omega:FC L (Gp G B) (2*f.s+1) ops.size≤B.length);simp only[u6,AAR,AA2,AAk]at T;rw[J];exact T.1.1.resolve_left (by omega)
 have adr8:∀{L:Nat->Bool} {σ:Sg},L f.i8=true->σ f.e=q (FC L (Gp G B) (2*f.e+1) ops.size) f.e->RM (σ f.e)=true:=by intro L σ hL J;have D:=Sp hL w8 ops.size n8;have I:=XW L (Gp G B) (2*f.e+1) ops.size;have T:=CZ _ (by omega:FC L (Gp G B) (2*f.e+1) ops.size≤B.length);simp only[u6,AAR,AA2,AAk]at T;rw[J];exact T.1.2.resolve_left (by omega)
 have adr11:∀{L:Nat->Bool} {σ:Sg},L f.i11=true->σ f.ap=q (FC L (Gp G B) (2*f.ap+1) ops.size) f.ap->RM (σ f.ap)=true:=by intro L σ hL J;have D:=Sp hL w11 ops.size n11;have I:=XW L (Gp G B) (2*f.ap+1) ops.size;have T:=CZ _ (by omega:FC L (Gp G B) (2*f.ap+1) ops.size≤B.length);simp only[u6,AAR,AA2,AAk]at T;rw[J];exact T.2.resolve_left (by omega)
 -- the slice's store, executed
 have run12:∀{a:Act} {w:World} {b o:Nat} {arr:Array Value} {E:TypeId} {C:ABr Addr} {m c:Nat} {u:Value},a.tmps.getD f.ap undef= .pointer (some ⟨b,o,none⟩)->w.heap[b]? =some (.cells arr E (0,0))->arr[o]? =some u->a.tmps.getD f.s undef= .slice C m c->
  (execOp a.eval o12).run P w= .ok .skip (w.setCell ⟨b,o,none⟩ (.slice C m c)):=by
  intro a w b o arr E C m c u D I T h4;have Ew:=Pn (P:=P) (w:=w) (off:=o) (v:=.slice C m c) I T rfl;have e1:a.eval (.tmp f.ap)= .pointer (some ⟨b,o,none⟩):=D;have e2:a.eval (.tmp f.s)= .slice C m c:=h4;simp only[execOp,fL,e1,e2,Instr.storeAt,Instr.sureAddr,storeVar,Sem.run_bind,Sem.run_pure,Result.andThen_ok,run_sizeOf PJ,Sem.run_ite,Value.cells,storeCells];simp[Ew,Addr.add,storeCells]
 -- a slice's own slot holds a slice
 have Z:∀{S:Nat->Prop} {δ:Nat->DV} {Fr:Nat->Nat->Prop} {w:World},St G w S δ Fr->PL (δ f.s).er=true->∃C m c,(δ f.s).Aw= .slice C m c:=by
  intro S δ Fr w y ho;have hk:=y.ok f.s;cases hd:δ f.s with
  |own v bx k rows=>
   rw[hd]at ho hk;cases bx with
   |true=>simp[PL]at ho
   |false=>obtain⟨a,c,e⟩:=aE hk;exact⟨a,_,c,by simpa using e⟩
  |lf x v=>
   rw[hd]at ho hk;cases hk with
   |lf _ _ _ F=>simp only[EU]at ho;cases x<;>first|exact F.elim|simp[PL]at ho
  |agg=>rw[hd]at ho;simp[PL]at ho
  |BI=>rw[hd]at ho;simp[PL]at ho
 refine SU Q h hN ?_ fQ (K:=λσ=>u6 f B.length σ=true/\Ko P G ⟨none,.st 1 (.t f.ap) (.t f.s),none⟩ K σ) q hq0 G0 ⟨CZ _ (AAv _),hK⟩ (AJ f) ?_ ?_ ?_
 . intro i o io D I d hd
   have:=Jg i o io (by simpa using D) I;by_cases e:i=f.i12
   . subst e;have:io=N:=(by rw[p2]at I;exact(AAU I).symm);subst this;rw[ei12]at hd;cases hd
   . simp only[fB,AAZ e,AAR]at this;exact Wr this.1 d hd
 . -- the end: the slice comes into its cell, where it is already
   intro L a w σ hL hJ IB U;obtain⟨hoks,U⟩:=U;obtain⟨b,o,arr,E,j1,j2,j3⟩:=hJ (hL _ n12);have y:=Wl hG (K:=K) IB (ops:=ops) (o:=o12) (io:=⟨none,.st 1 (.t f.ap) (.t f.s),none⟩) (P:=P) (by simp[G4,g1,g2,Dr,Kq,fL,JT,PJ,CB]) U Q;obtain⟨C,m,c,J⟩:∃C m c,a.tmps.getD f.s undef= .slice C m c:=(by obtain⟨S,δ,Fr,hn,ED,ha,rfl,y,Ef,Cy⟩:=IB;simp only[u6,AAR,AA2,AAk]at hoks;obtain⟨C,m,c,e⟩:=Z y (hoks.1.1.resolve_left (by omega));exact⟨C,m,c,(ha _).trans e⟩);rw[J]at j3;have hr:=run12 j1 j2 j3 J;rw[dA j2 j3]at hr;unfold Oper.wp at y;rw[hr,Oper.upon_skip,g2]at y;obtain⟨σ',D,I⟩:=y;exact hQ a w σ' D I
 . intro l;simp[AAo,n12]at l
 . intro L i o io a w σ τ' D I hiN hLi KT MU hJ IB R hτs;have O:=Jg i o io D I;have L12:∀j,((VE ops.toList []).getD f.i12 0).testBit j=true->L f.i12=true->L j=true:=λj hb F=>MU f.i12 n12 F j hb;by_cases e:i=f.i12
   . -- the slice's own store
     subst e;have:io=N:=(by rw[p2]at I;exact(AAU I).symm);subst this;have:o=o12:=(by rw[p1]at D;exact(AAU D).symm);subst this;obtain⟨S,δ,Fr,hn,ED,ha,rfl,y,Ef,Cy⟩:=IB;rw[ei12]at R;simp only[Ko,EA,GU]at R;split at R
     . rename_i υ H;split at H
       . rename_i r p i j k VH;split at H
         . rename_i NG;simp only[AAQ]at H;subst H;subst R;have Dz:=own (L:=λj=>(L j||j==f.i12)) (σ:=λs=>(δ s).er) (by simp[KT _ b7]) (hτs f.s);obtain⟨C,m,c,hsv⟩:=Z y Dz;have hsv':a.tmps.getD f.s undef= .slice C m c:=(ha _).trans hsv;obtain⟨vh,bx,Al,b,Fx,Bp,hb,hp,hokx,hFx⟩:=y.EB VH;have hp':a.tmps.getD f.ap undef= .pointer (some ⟨b,i*k+j,none⟩):=(ha _).trans hp;obtain⟨x,l,hxe⟩:=Dj (y.ok r).Kw NG;have hx0:=l;rw[IW,Bp,AAP]at l;simp only[Aq]at l;split at l
           . rename_i Io Dt;split at l
             . rename_i cc Bf;simp only[AAQ]at l;subst l;obtain⟨Qo,arr,E,p5,QR⟩:=PW hokx hb;have hold:=QR i j Io cc Dt Bf;have hr:=run12 hp' p5 hold hsv';obtain⟨t,F',HQ,PG,hsubF,V,hFr⟩:=(y.ok r).store p Bp Dt Bf hb (new:=.lf .dead (.slice C m c)) (Fn:=λ_=>False) (.lf _ _ _ trivial (λ_ h=>h)) (λ_ h=>h.elim);simp only[KP]at PG;have VK:∀x,x≠b->(w.setCell ⟨b,i*k+j,none⟩ (.slice C m c)).heap[x]? =w.heap[x]? :=λx l=>DC _ _ _ _ _ l;have hbS:¬S b:=(y.ok r).Et b hFr;have dT:∃v0,cc= .lf .dead v0:=by
                cases cc with
                |lf a0 v0=>simp only[EU]at hxe;subst hxe;exact⟨v0,rfl⟩
                |own=>simp at hxe
                |agg=>simp at hxe
                |BI=>simp at hxe
               obtain⟨v0,rfl⟩:=dT;have hter:t.er=(δ r).er:=(by obtain⟨t2,q1,q2⟩:=HA (d:=δ r) (p:=p++[(i,j,k)]) (a:=(δ r).er) (.lf .dead (.slice C m c)) (y.ok r).Kw (by rw[EU];exact put_same _ ((sub_k p k 0).trans NG));rw[HQ]at q1;obtain rfl:=AAU q1;exact q2);have mQ:∀x,F' x->Fr r x:=λx l=>(hsubF x l).elim id False.elim;have RI:∀q v bx k rows,Aq (δ r) q=some (.own v bx k rows)->∃M,Aq t q=some (.own v bx k M):=λq v' dP k' M hq=>(by have hold2:Aq (δ r) (p++[(i,j,k)])=some (.lf .dead v0):=(by rw[IW,Bp];simp[Aq,Dt,Bf]);exact Q0 _ HQ hold2 (by simp) (by simp) (by simp) q v' dP k' M hq);have hpoke:=y.poke (w':=w.setCell ⟨b,i*k+j,none⟩ (.slice C m c)) r t F' (λx l=>VK x (by rintro rfl;exact hbS l)) (λs J x l=>VK x (by rintro rfl;exact J (y.MC s r _ l hFr))) PG
                (λs J x l hy=>J (y.MC s r x hy (mQ x l))) (by rw[hter];exact y.rt r) (Mc _ HQ (y.al r) (.lf _ _ trivial)) RI V
               refine wG D g1 hr ⟨⟨_,⟨S,DR δ r t,DR Fr r F',?_,?_,?_,?_,hpoke,Ef.trans ?_,λx l=>by simpa using Cy x l⟩,rfl⟩,λ_=>⟨b,i*k+j,arr.setIfInBounds (i*k+j) (.slice C m c),E,?_,Qz _ _ _ _ _ _ _ p5,?_⟩⟩
               . rw[g2];exact hn
               . rw[g2];exact ED
               . intro s';rw[g2];simp only[Act.put];by_cases e:s'=r
                 . subst e;rw[BD,V];exact ha s'
                 . rw[BT _ _ e];exact ha s'
               . funext s';by_cases e:s'=r
                 . subst e;simp only[BD,hter]
                 . simp only[BT _ _ e]
               . refine⟨rfl,rfl,rfl,by simp,λx _ hU=>VK x (by rintro rfl;exact hU ⟨r,hFr⟩),λ_ h=>h,λ_ h=>.inl h,λF x l=>by simpa using F x l,λx l=>.inl ?_⟩;obtain⟨s,l⟩:=l;by_cases e:s=r
                 . subst e;rw[BD]at l;exact⟨s,mQ x l⟩
                 . rw[BT _ _ e]at l;exact⟨s,l⟩
               . rw[g2];exact hp'
               . rw[g2];simp only[Act.put,hsv']
                 have:=(AA5.1 hold).1;simp[this]
             . cases l
           . cases l
         . cases H
       . cases H
     . exact R.elim
   . simp only[fB,AAZ e,AAR,AA2,ABI]at O;obtain⟨hco,O⟩:=O;have hK:=IZ hG IB hco R Q D;have hLe:(L f.i12||f.i12==i)=L f.i12:=(by rw[show(f.i12==i)=false from by simpa using Ne.symm e,Bool.or_false]);rcases O with hb|⟨⟨⟨mT,NH⟩,hd⟩,O⟩
     . -- ahead of it
       refine wpOp_mono (λa' w' h=>⟨h,λF=> ?_⟩) hK;replace F:=hLe.symm.trans F;rw[L12 i hb F]at hLi;cases hLi
     . split at O
       . -- the element's store
         rename_i e9;subst e9;simp only[AAR,ABI]at O;obtain⟨⟨⟨k1,k2⟩,k3⟩,k4⟩:=O;obtain⟨dst,qH,g⟩:=io;simp only at NH k2 k3;subst NH;subst k2;split at k3
         . rename_i nn s' z ty' x' u' mU;simp only[AAR,AAg]at k3;obtain⟨⟨⟨rfl,m2⟩,m3⟩,m4⟩:=k3;obtain⟨w',b9,off,hr,kA,hp9⟩:∃w' b off,(execOp a.eval o).run P w= .ok .skip w'/\(∀x,x≠b->w'.heap[x]? =w.heap[x]?)/\a.tmps.getD f.e undef= .pointer (some ⟨b,off,none⟩):=by
            obtain⟨S,δ,Fr,hn,ED,ha,rfl,y,Ef,Cy⟩:=IB;simp only[Ko,EA]at R;split at R
            . rename_i υ H;exact st_frame y ha mU m2 m3 m4 H
            . exact R.elim
           refine wpOp_mono ?_ (oI D mT hr hK);rintro a' w1 ⟨⟨σ',Zt,rfl⟩,rfl,rfl⟩;rw[k1]at Zt ⊢;simp only[Act.put]at Zt ⊢;refine⟨⟨_,Zt,rfl⟩,λF=> ?_⟩;replace F:=hLe.symm.trans F;obtain⟨b,oo,arr,E,j1,j2,j3⟩:=hJ F;refine⟨b,oo,arr,E,j1,?_,j3⟩;rw[kA b ?_];exact j2;rintro rfl;obtain⟨S',δ',Fr',tW,hdef',ha',rfl,KU,hnx',Uj⟩:=Zt;obtain⟨r1,p1',i1,j1',k1',q1,q2⟩:=xY (σ:=λs=>(δ' s).er) (adr8 (L:=λj=>(L j||j==f.i9)) (σ:=λs=>(δ' s).er) (by simp[KT _ k4]) (hτs f.e));obtain⟨r2,p2',i2,j2',k2',q3,q4⟩:=xY (σ:=λs=>(δ' s).er) (adr11 (L:=λj=>(L j||j==f.i9)) (σ:=λs=>(δ' s).er) (by simp[L12 _ b11 F]) (hτs f.ap));obtain⟨v1,bx1,rw1,c1,F1,s1,s2,s3,s4,s5⟩:=KU.EB q2;obtain⟨v2,bx2,rw2,c2,F2,t1,t2,t3,t4,t5⟩:=KU.EB q4;have z1:b=c1:=(by have:=(ha' f.e).symm.trans hp9;rw[s3]at this;simp only[Value.pointer.injEq,AAQ,Addr.mk.injEq]at this;exact this.1.symm);have z2:b=c2:=(by have:=(ha' f.ap).symm.trans j1;rw[t3]at this;simp only[Value.pointer.injEq,AAQ,Addr.mk.injEq]at this;exact this.1.symm);have hr12:=KU.MC r1 r2 b (s5 b (by rw[z1];exact(PW s4 s2).1)) (t5 b (by rw[z2];exact(PW t4 t2).1));subst hr12;have u1:=KU.rt f.e;have u2:=KU.rt f.ap;rw[q1]at u1;rw[q3]at u2;simp only[WA,AAn]at u1 u2
           have:=hdj _ u1;simp[u2]at this
         . cases k3
       . -- a plain one
         rename_i e9;have X:=hco;simp only[G4,AAR]at X;have hcop2:JT P o.op io.op=true:=by have:=X.2;cases Hv:io.op<;>rw[Hv]at this O<;>first|exact this|simp[Zl]at O
         obtain⟨v,hv⟩:∃v,valOf io.op σ=some v:=by
          obtain⟨dst,qH,g⟩:=io;simp only at NH O;subst NH;cases dst with
          |none=>cases qH<;>simp[Zl]at O<;>simp[Ko,EA,GU]at R
          |some d=>
           simp only[Ko]at R;cases hv:valOf qH σ with
           |some v=>exact⟨v,rfl⟩
           |none=>cases qH<;>simp[Zl]at O<;>simp[EA,GU,hv]at R
         obtain⟨u,hr⟩:=zZ IB hcop2 O hv;have W:Dr G n o.dst io.dst=true:=X.1.1;refine jQ D mT hr (λF=> ?_) hK;replace F:=hLe.symm.trans F;obtain⟨b,oo,arr,E,j1,j2,j3⟩:=hJ F;have HQ:∀s,(match io.dst with|some d=>d.d≠s|none=>True)->(a.put o.dst u).tmps.getD s undef=a.tmps.getD s undef:=by
          intro s J;cases wW:o.dst with
          |none=>rfl
          |some t=>
           cases qA:io.dst with
           |none=>rw[wW,qA]at W;simp[Dr]at W
           |some d=>rw[wW,qA]at W;rw[qA]at J;simp only[Dr,AAR,AAg]at W;have ht:t=d.d:=W.1.1.1;simp only[Act.put,AAo,ABU];rw[AAZ (by rw[ht];exact J)]
         refine⟨b,oo,arr,E,?_,j2,?_⟩
         . rw[HQ];exact j1;cases qA:io.dst with
           |none=>trivial
           |some d=>rw[qA]at hd;simp only[AAR,bne_iff_ne]at hd;exact hd.2
         . rw[HQ];exact j3;cases qA:io.dst with
           |none=>trivial
           |some d=>rw[qA]at hd;simp only[AAR,bne_iff_ne]at hd;exact hd.1
end Go.Abs
namespace Go.Abs
variable {w w':World} {S S':Nat->Prop} {G:Gi} {δ:Nat->DV} {Fr:Nat->Nat->Prop} {P:Program}
theorem vY {t e new:DV} (p:List Step) (d:Da t p new=some e):Aq e p=some new:=by
 induction p generalizing t e with
 |nil=>simp only[Da,AAQ]at d;subst d;rfl
 |cons s p ih=>
  obtain⟨i0,j0,f⟩:=s;cases t with
  |lf a v=>simp[Da]at d
  |own hh b k1 Jb=>
   simp only[Da]at d;cases hi:Jb[i0]? with
   |none=>simp[hi]at d
   |some row1=>
    simp only[hi]at d;cases hj:row1[j0]? with
    |none=>simp[hj]at d
    |some c=>
     simp only[hj]at d;cases hc:Da c p new with
     |none=>simp[hc]at d
     |some c'=>simp only[hc,AAQ]at d;subst d;simp only[Aq,AAT (AAS.1 hi).1,AAT (AAS.1 hj).1];exact ih hc
  |agg cs=>
   simp only[Da]at d;cases hj:cs[j0]? with
   |none=>simp[hj]at d
   |some c=>
    simp only[hj]at d;cases hc:Da c p new with
    |none=>simp[hc]at d
    |some c'=>simp only[hc,AAQ]at d;subst d;simp only[Aq,AAT (AAS.1 hj).1];exact ih hc
  |BI cs=>
   simp only[Da]at d;cases hj:cs[j0]? with
   |none=>simp[hj]at d
   |some c=>
    simp only[hj]at d;cases hc:Da c p new with
    |none=>simp[hc]at d
    |some c'=>simp only[hc,AAQ]at d;subst d;simp only[Aq,AAT (AAS.1 hj).1];exact ih hc
theorem UY {t:DV} (n d:Nat) (q:List Step) {v:Value} (h:Aq t q=some (.lf .dead v)):Aq (GL n d t) q=some (.lf .dead v):=by
 induction q generalizing t with
 |nil=>simp only[Aq,AAQ]at h;subst h;rfl
 |cons s q ih=>
  obtain⟨i,j,e⟩:=s;cases t with
  |lf a v=>simp[Aq]at h
  |own hh b k1 Jb=>rw[Li];exact h
  |agg cs=>
   simp only[Aq]at h;cases hj:cs[j]? with
   |none=>simp[hj]at h
   |some c=>simp only[hj]at h;simp only[KY,Aq,AAb,hj,AAw];exact ih h
  |BI cs=>
   simp only[Aq]at h;cases hj:cs[j]? with
   |none=>simp[hj]at h
   |some c=>simp only[hj]at h;simp only[KZ,Aq,AAb,hj,AAw];exact ih h
theorem St.tkd (h:St G w S δ Fr) {r:Nat} {p:List Step} {a:AV} {τ:Sg} (g:Abs.ZO G r p (λs=>(δ s).er)=some (a,τ)):
 ∃f l D Ff,St G w S f l/\(λs=>(f s).er)=τ/\(∀s,(f s).Aw=(δ s).Aw)/\Ok w S D Ff/\D.er=a/\Aq (δ r) p=some D/\(∀s x,l s x->¬Ff x)/\
  (∀x,BA l x∨Ff x->BA Fr x)/\Aq (f r) p=some (.lf .dead D.Aw):=by
 unfold Abs.ZO at g;split at g
 . rename_i b k rows J;split at g
   . rename_i t I;simp only[AAQ,AAf]at g;obtain⟨rfl,rfl⟩:=g;obtain⟨D,q,z⟩:=Dj (h.ok r).Kw J;obtain⟨B,H,m,C⟩:=h.iH r p q;obtain⟨K,l,j,v,n,y⟩:=C S (.lf .dead D.Aw) (by simp) (.lf _ _ _ trivial (λ_ h=>h)) (λ_ h=>h) (λt b F _=>(h.ok t).Et b F) (by simp) (DU.dead _);have L:K.er=t:=(by obtain⟨M,o,E⟩:=HA (d:=δ r) (p:=p) (a:=t) (.lf .dead D.Aw) (h.ok r).Kw (by simpa using I);rw[j]at o;obtain rfl:=AAU o;exact E);refine⟨_,_,D,B,v,by rw[Ni h,L],?_,H,z,q,?_,?_,by rw[BD];exact vY p j⟩
     . intro s;rw[Mp h];split
       . rename_i e;rw[e,y]
       . rfl
     . intro s x c u;by_cases i:s=r
       . subst i;rw[BD]at c;exact((n x).1 c).2 u
       . rw[BT _ _ i]at c;exact i (h.MC s r x c (m x u))
     . rintro x (⟨s,c⟩|c)
       . by_cases i:s=r
         . subst i;rw[BD]at c;exact⟨s,((n x).1 c).1⟩
         . rw[BT _ _ i]at c;exact⟨s,c⟩
       . exact⟨r,m x c⟩
   . cases g
 . cases g
theorem OkL_two {l:List DV} {D E:DV} {F H:Nat->Prop} (e:Ok w S D F) (g:∀d∈l,Ok w S d (λ_=>False)) (f:Ok w S E H) (a:∀x,F x->¬H x):JS w S (D::(l++[E])) (λx=>F x∨H x):=by
 have c:JS w S [E] H:=⟨H,λ_=>False,f,B4 (by simp),λ_ _ h=>h,λx=>by simp⟩;have b:JS w S (l++[E]) H:=(LY (B4 g) c (λ_ h=>h.elim)).congr λx=>by simp
 exact⟨F,H,e,b,a,λx=>Iff.rfl⟩
theorem lb_sound {n:Nat} {w0:World} {S0 U0:Nat->Prop} (hG:Yj w0 S0 U0) {a:Act} {σ:Sg} (h:Rel G n w0 S0 U0 a w σ) {o:Oper} {d:ABr Dk} {f:Nat} {x y:Ar} {Sw:List Ar} {K:Sg->Prop}
 (PA:Jl P o.op f (x::(Sw++[y])) 0=true) (fR:Dr G n o.dst d=true) (I:lbP P G d f x Sw y K σ) (Q:Exit->Act->World->Prop):
 o.wp P a w (λa' w'=>∃σ',Rel G n w0 S0 U0 a' w' σ'/\K σ') Q:=by
 obtain⟨S,δ,Fr,hn,ED,ha,rfl,B9,Ef,Cy⟩:=h;obtain⟨cc,fn,ho,MF,hf,hfb,hfn,hm3,Sf⟩:=LL PA;have hd:=ER fR hn;obtain⟨x0,xs,y0,Ft,hx0,hxs,hy0⟩:∃x0 xs y0,cc.args.toList=x0::(xs++[y0])/\CB x0 x=true/\Gm xs Sw=true/\CB y0 y=true:=by
  generalize cc.args.toList=l at Sf;cases l with
  |nil=>simp[Gm]at Sf
  |cons x0 l=>
   simp only[Gm,AAR]at Sf;obtain⟨j,C⟩:=Sf;clear PA I;obtain⟨xs,y0,e,h3,h4⟩:∃xs y0,l=xs++[y0]/\Gm xs Sw=true/\CB y0 y=true:=by
    induction Sw generalizing l with
    |nil=>
     cases l with
     |nil=>simp[Gm]at C
     |cons y0 l=>
      simp only[ABN,Gm,AAR]at C;cases l with
      |nil=>exact⟨[],y0,rfl,rfl,C.1⟩
      |cons=>simp[Gm]at C
    |cons z Sw ih=>
     cases l with
     |nil=>simp[Gm]at C
     |cons z0 l=>simp only[AA6,Gm,AAR]at C;obtain⟨xs,y0,e,h3,h4⟩:=ih l C.2;exact⟨z0::xs,y0,by simp[e],by simp[Gm,C.1,h3],h4⟩
   exact⟨x0,xs,y0,by rw[e],j,h3,h4⟩
 obtain⟨hxo,ex0⟩:=Aj hx0 ha;obtain⟨hyo,ey0⟩:=Aj hy0 ha;unfold lbP at I;split at I
 case h_2=>exact I.elim
 rename_i u F hp2;split at I
 case h_2=>exact I.elim
 rename_i v τ Ye;obtain⟨b2,k2,W,rfl,qC⟩:∃b2 k2 W,v= .own b2 k2 W/\sub (δ u).er F=some (.own b2 k2 W):=by
  unfold Abs.ZO at Ye;split at Ye
  . rename_i b2 k2 W C;split at Ye
    . simp only[AAQ,AAf]at Ye;exact⟨_,_,_,Ye.1.symm,C⟩
    . cases Ye
  . cases Ye
 obtain⟨m,V,DY,Ff,R,rfl,Jn,hokY,hYe,hsubY,Zs,Sk,NG⟩:=B9.tkd Ye;obtain⟨O,q1,q2⟩:=UM B9 (x:=y) hp2 qC;rw[hsubY]at q1;obtain rfl:=AAU q1;have hargv:∀z,Cx m z=Cx δ z:=by
  intro z;cases z with
  |t s=>exact Jn s
  |c c=>rfl
 have ha0:Rd m a:=λs=>(ha s).trans (Jn s).symm;split at I
 case h_2=>exact I.elim
 rename_i r p ms hp hmid;split at I
 case h_2=>exact I.elim
 rename_i b k rows hs;unfold lbQ at I;obtain⟨Nl,res,out,JX,O8,G8,HQ⟩:=I;split at HQ
 case h_2=>exact HQ.elim
 rename_i t hput1;split at HQ
 case h_2=>exact HQ.elim
 rename_i t2 Z;have hK:=HQ;obtain⟨Al,hD,FM⟩:=UM R (x:=x) hp hs;obtain⟨Fo,Yw,Bp,Ms⟩:=(R.ok r).replace p hD;obtain⟨Ds,p1,p3,p4⟩:=RY R ha0 Sw hxs hmid;have hFoF:∀x,Fo x->¬Ff x:=λx h=>Zs r x (Bp x h);have Ga:=JX w S (.own (Cx m x) b k Al::(Ds++[.own (Cx δ y) b2 k2 O])) (λx=>Fo x∨Ff x) (hG.now Ef) (by rw[AAi,AA3,p1,FM,List.map_singleton,hYe]) (A5.2 (OkL_two Yw p4 hokY hFoF)) Cy;have XC:(List.map DV.Aw (.own (Cx m x) b k Al::(Ds++[.own (Cx δ y) b2 k2 O])))=cc.args.toList.map a.eval:=by rw[Ft];simp[p3,ex0,ey0,hargv]
 unfold Oper.wp;rw[Ti ho MF hf hfb hfn,Oper.upon_enter,← XC];refine Ga.mono ?_;rintro e w' ⟨rD,os,S',F',rfl,RK,hoe,wV,CZ,EK,MD,pZ,Ks,XA⟩;obtain⟨Fa,Fb,hra',hosk,hdab,QQ⟩:=A5.1 CZ;obtain⟨oX,os1,M,rfl,H,hYe',hXa,hYa⟩:∃oX os1 M,os=oX::(os1++[M])/\oX.er=out/\M.er= .own b2 k2 W/\oX.Aw=Cx m x/\M.Aw=Cx δ y:=by
  cases os with
  |nil=>simp at hoe
  |cons oX l=>
   simp only[AAi,List.cons.injEq]at hoe wV;obtain⟨e1,e2⟩:=hoe;obtain⟨l1,l2,rfl,e3,e4⟩:=List.map_eq_append_iff.1 e2;obtain⟨M,rfl,e5⟩:∃M,l2=[M]/\M.er= .own b2 k2 W:=by
    cases l2 with
    |nil=>simp at e4
    |cons M l3=>simp only[AAi,List.cons.injEq,List.map_eq_nil_iff]at e4;exact⟨M,by rw[e4.2],e4.1⟩
   refine⟨oX,l1,M,rfl,e1,e5,by simpa using wV.1,?_⟩
   have:=wV.2;rw[AA3,AA3]at this
   have:=(List.append_inj' this rfl).2;simpa using this
 obtain⟨FX,FR,hoX,hoR,hdXR,Qo⟩:=hosk;obtain⟨FY,hoY,X⟩:=xS (l:=os1) (r:=[]) hoR;have Dq:∀s x,V s x->x<w.heap.size:=λs x i=>(R.ok s).lt x i;have L:∀x,Fa x∨FX x∨FY x->(Fo x∨Ff x)∨w.heap.size≤x:=λx i=>XA x ((QQ x).2 (i.imp id λh=>(Qo x).2 (h.imp id (X x))))
 -- what a slot owns meets nothing that the call has, but for the lent part
 have p8:∀s x,V s x->¬Fo x->¬(Fa x∨FX x∨FY x):=by
  intro s x i T hh;rcases L x hh with(j|j)|j
  . exact T j
  . exact Zs s x i j
  . have:=Dq s x i;omega
 have qE:∀b,S b->w'.heap[b]? =w.heap[b]? :=λb D=>EK.block b (Cy b D) (λhf=>hf.elim (λh=>Yw.Et b h D) λh=>hokY.Et b h D);have mZ:∀s b,V s b->¬Fo b->w'.heap[b]? =w.heap[b]? :=λs b D T=>EK.block b (Dq s b D) λhf=>hf.elim T (Zs s b D);have AAM:∀s b,V s b->¬Fo b->¬S' b:=by
  intro s b D T h';rcases pZ b h' with j| (j|j)|j
  . exact(R.ok s).Et b D j
  . exact T j
  . exact Zs s b D j
  . have:=Dq s b D;omega
 have Sh:∀s,s≠r->∀x,V s x->¬Fo x:=λs B x i hf=>B (R.MC s r x i (Bp x hf));obtain⟨tD,F2,qD,hokt,IA,DZ⟩:=Ms w' S' oX FX (by rw[hXa];simp) hoX (λx i I=>Classical.byContradiction λT=>p8 r x I T (.inr (.inl i))) qE (λb D T=>mZ r b D T) MD (λb D T=>AAM r b D T);have uB:tD.er=t:=by obtain⟨t',j,C⟩:=HA (d:=m r) (p:=p) (a:=t) oX (R.ok r).Kw (by rw[H];exact hput1);rw[qD]at j;obtain rfl:=AAU j;exact C
 have hdisr:∀s,s≠r->∀x,F2 x->¬V s x:=by
  intro s B x i E;rcases(IA x).1 i with⟨j,_⟩|j
  . exact B (R.MC s r x E j)
  . exact p8 s x E (Sh s B x E) (.inr (.inl j))
 have hbX:IG oX.er=true:=by rw[H];exact O8
 generalize hN:Ss out b k p=N at hK Z;have wU:∀q v' bx k' J,q.length<N->Aq (m r) q=some (.own v' bx k' J)->∃W,Aq tD q=some (.own v' bx k' W):=by
  intro q v' bx k' J hq hsq;subst hN;unfold Ss at hq;split at hq
  . rename_i b1 k1 Jb;split at hq
    . rename_i e;obtain⟨rfl,rfl⟩:=e;refine NP q p (by omega) qD (λ_ v2 bx2 k2 W C=> ?_) hsq;rw[hD]at C;cases C;cases oX with
      |own hh b2 k2 W=>simp only[Ee,AV.own.injEq]at H;obtain⟨rfl,rfl,_⟩:=H;simp only[Kh]at hXa;exact⟨W,by rw[hXa]⟩
      |lf a v=>simp only[EU]at H;subst H;cases hoX with|lf _ _ _ h=>exact h.elim
      |agg=>simp at H
      |BI=>simp at H
    . omega
  . omega
 have U:St G w' S' (DR (EL G N r m) r tD) (DR V r F2):=
  R.setn N r tD F2 qE (λs B x i=>mZ s x i (Sh s B x i)) MD (λs B x i=>AAM s x i (Sh s B x i)) hokt hdisr (Lp p qD (R.rt r) (Nd hbX)) (Mc p qD (R.al r) (T5 hbX)) wU
 have RH:(λs=>(DR (EL G N r m) r tD s).er)=DR (FU G N r λs=>(m s).er) r t:=by
  funext s;unfold DR;split
  . exact uB
  . exact R.QA N r s
 have MS:∀s,(DR (EL G N r m) r tD s).Aw=(m s).Aw:=by
  intro s;unfold DR;split
  . rename_i e;rw[e,DZ]
  . exact R.Lj N r s
 have Vy:Aq (DR (EL G N r m) r tD u) F=some (.lf .dead (Cx δ y)):=by
  rw[BT _ _ (Ne.symm Nl)];unfold EL;have NG:Aq (m u) F=some (.lf .dead (Cx δ y)):=by simpa using NG
  split
  . exact UY N r F NG
  . exact NG
 generalize hδ2:DR (EL G N r m) r tD=δ2 at U RH MS Vy;have XB:∀s x,DR V r F2 s x->¬(Fa x∨FY x):=by
  intro s x i E;have key:FX x->False:=λhX=>by
   rcases E with E|E
   . exact hdab x E ((Qo x).2 (.inl hX))
   . exact hdXR x hX (X x E)
  by_cases B:s=r
  . subst B;rw[BD]at i;rcases(IA x).1 i with⟨j,C⟩|j
    . exact p8 s x j C (E.imp id .inr)
    . exact key j
  . rw[BT _ _ B]at i;exact p8 s x i (Sh s B x i) (E.imp id .inr)
 have hO2:∀s x,DR V r F2 s x->BA Fr x∨w.heap.size≤x:=by
  intro s x i;have up:V s x->BA Fr x∨w.heap.size≤x:=λh=>.inl (Sk x (.inl ⟨s,h⟩));by_cases B:s=r
  . subst B;rw[BD]at i;rcases(IA x).1 i with⟨j,_⟩|j
    . exact up j
    . exact(L x (.inr (.inl j))).imp (λh=>Sk x (h.imp (λh=>⟨s,Bp x h⟩) id)) id
  . rw[BT _ _ B]at i;exact up i
 generalize DR V r F2=G2 at U XB hO2;obtain⟨Fd,hokd,hsubd,hrepd⟩:=(U.ok u).replace F Vy;obtain⟨tE,F3,htE,hokE,hiffE,hannE⟩:=hrepd w' S' M FY (by rw[hYa];simp) hoY (λx i I=>(XB _ x I (.inr i)).elim) (λ_ _=>rfl) (λ_ _ _=>rfl) (λ_ h=>h) (λb D _=>(U.ok u).Et b D);have hteE:tE.er=t2:=by obtain⟨t',j,C⟩:=HA (d:=δ2 u) (p:=F) (a:=t2) M (U.ok u).Kw (by rw[hYe',← Z];exact ABl (λg=>put (g u) F _) RH);rw[htE]at j;obtain rfl:=AAU j;exact C
 have hbY:IG M.er=true:=by rw[hYe'];rfl
 have hF3:∀x,F3 x->G2 u x∨FY x:=λx i=>((hiffE x).1 i).imp (λh=>h.1) id;have hst3:St G w' S' (DR (EL G F.length u δ2) u tE) (DR G2 u F3):=
  U.setn F.length u tE F3 (λ_ _=>rfl) (λ_ _ _ _=>rfl) (λ_ h=>h) (λs _ x i=>(U.ok s).Et x i) hokE
   (λs B x i E=>(hF3 x i).elim (λh=>B (U.MC s u x E h)) λh=>XB s x E (.inr h)) (Lp F htE (U.rt u) (Nd hbY)) (Mc F htE (U.al u) (T5 hbY))
   λq v' bx k' J hq hsq=>NP q F (by omega) htE (λe=>absurd e (by omega)) hsq
 have her3:(λs=>(DR (EL G F.length u δ2) u tE s).er)=DR (FU G F.length u (DR (FU G N r λs=>(m s).er) r t)) u t2:=by
  rw[← RH];funext s;unfold DR;split
  . exact hteE
  . exact U.QA F.length u s
 have hann3:∀s,(DR (EL G F.length u δ2) u tE s).Aw=(δ s).Aw:=by
  intro s;rw[← Jn s,← MS s];unfold DR;split
  . rename_i e;rw[e,hannE]
  . exact U.Lj F.length u s
 have hdisD:∀s x,DR G2 u F3 s x->¬Fa x:=by
  intro s x i E;by_cases B:s=u
  . subst B;rw[BD]at i;exact(hF3 x i).elim (λh=>XB s x h (.inl E)) λh=>hdab x E ((Qo x).2 (.inr (X x h)))
  . rw[BT _ _ B]at i;exact XB s x i (.inl E)
 have Dz:∀x,(Fo x∨Ff x)->BA Fr x:=λx h=>Sk x (h.imp (λh=>⟨r,Bp x h⟩) id);have hOwn3:∀x,BA (DR G2 u F3) x->BA Fr x∨w.heap.size≤x:=by
  rintro x ⟨s,i⟩;by_cases B:s=u
  . subst B;rw[BD]at i;exact(hF3 x i).elim (hO2 s x) λh=>(L x (.inr (.inr h))).imp (Dz x) id
  . rw[BT _ _ B]at i;exact hO2 s x i
 have G0:∀F4:Nat->Nat->Prop,(∀x,BA F4 x->BA (DR G2 u F3) x∨Fa x)->Nx w0 S0 U0 w' S' (BA F4):=by
  intro F4 hF4;refine Ef.trans ⟨EK.os,EK.tape,EK.output,EK.size,λb D T=>EK.block b D λhf=>T (Dz b hf),MD,λb D=>(pZ b D).imp id (Or.imp (Dz b) id),λ_=>Ks,λx i=> ?_⟩;rcases hF4 x i with j|j
  . exact hOwn3 x j
  . exact(L x (.inl j)).imp (Dz x) id
 rw[← her3]at hK;have Qp:Rd (DR (EL G F.length u δ2) u tE) a:=λs=>(ha s).trans (hann3 s).symm;simp only;cases d with
 |none=>
  have h0:o.dst=none:=hd;refine⟨_,⟨S',_,_,?_,?_,?_,rfl,hst3,G0 _ (λx i=>.inl i),Ks⟩,hK⟩
  . rw[h0];exact hn
  . rw[h0];exact ED
  . rw[h0];exact Qp
 |some d=>
  simp only[Ct]at hK;split at hK
  . rename_i τ' MV;obtain⟨j,C,h3,h4⟩:=hd;rw[← RK]at MV;obtain⟨δ',F5,KU,JH,Qq,XL⟩:=hst3.wr C h3 (λ_ _=>rfl) (λ_ _ _=>rfl) (λ_ h=>h) (λs x i=>(hst3.ok s).Et x i) hra' hdisD (Wt hra' (by rw[RK];exact G8)) MV;refine⟨τ',⟨S',δ',F5,?_,?_,?_,JH,KU,G0 F5 XL,Ks⟩,hK⟩
    . rw[j];simpa[Act.put]using hn
    . rw[j];simpa[Act.put]using ED
    . intro s;rw[j,Il a d.d rD.Aw h4 s,Qq s];split
      . rfl
      . exact Qp s
  . exact hK.elim
end Go.Abs
namespace Go.Abs
variable {P:Program} {G:Gi}
theorem HK {d:ABr Dk} {v:AV} {K b:Sg->Prop} {τ:Sg} (h:∀σ,K σ->b σ) (a:Ct d v K τ):Ct d v b τ:=by
 unfold Ct at*;split at a
 . split at a
   . exact h _ a
   . exact a.elim
 . exact h _ a
theorem Oz {o:BJ} {K a:Sg->Prop} {σ:Sg} (h:∀σ,K σ->a σ) (d:Ko P G o K σ):Ko P G o a σ:=by obtain⟨τ,b,c⟩:=O0.1 d;exact O0.2 ⟨τ,b,h _ c⟩
theorem P4 {K a:Sg->Prop} (h:∀σ,K σ->a σ):∀{os:List BJ} {σ:Sg},Nb P G os K σ->Nb P G os a σ
 |[],_,ht=>h _ ht
 |_::_,_,ht=>Oz (λ_ b=>P4 h b) ht
theorem Kp {K k:Sg->Prop} (h:∀σ,K σ->k σ):∀{c:List jZ} {σ:Sg},MB P G c K σ->MB P G c k σ
 |[],_,a=>h _ a
 | .o _::_,_,a=>Oz (λ_ i=>Kp h i) a
 | .cL d neg x::c,σ,a=>by
  simp only[MB]at a ⊢;split at a
  . split at a
    . exactλb B=>HK (λ_ i=>Kp h i) (a b B)
    . exact a.elim
  . exact a.elim
 | .gld d g n::c,σ,a=>by
  simp only[MB]at a ⊢;split at a
  . exact HK (λ_ i=>Kp h i) a
  . exact a.elim
 | .bxv d n s::c,σ,a=>by
  simp only[MB]at a ⊢;split at a
  . exact⟨a.1,λD C=>HK (λ_ i=>Kp h i) (a.2 D C)⟩
  . exact a.elim
 | .lb d f x Sw y::c,σ,a=>by
  have q:∀τ,MB P G c K τ->MB P G c k τ:=λ_ i=>Kp h i;simp only[MB,lbP]at a ⊢;split at a
  case h_2=>exact a.elim
  split at a
  case h_2=>exact a.elim
  split at a
  case h_2=>exact a.elim
  split at a
  case h_2=>exact a.elim
  unfold lbQ at a ⊢;obtain⟨r,j,out,w,l,z,m⟩:=a;refine⟨r,j,out,w,l,z,?_⟩;split at m
  case h_2=>exact m.elim
  split at m
  case h_2=>exact m.elim
  exact HK q m
 | .clo d f x args g::c,σ,a=>by
  have q:∀τ,MB P G c K τ->MB P G c k τ:=λ_ i=>Kp h i;have t:zH P d f x args (MB P G c K) σ->zH P d f x args (MB P G c k) σ:=by
   unfold zH;intro a;split at a
   . obtain⟨j,r,l⟩:=a;refine⟨j,r,?_⟩;split at l
     . exact HK q l
     . exact l.elim
   . exact a.elim
  have u:YR d (MB P G c K) σ->YR d (MB P G c k) σ:=by cases d<;>exact q _
  show gdP g _ _ σ;have a:gdP g _ _ σ:=a;cases g with
  |none=>exact t a
  |some g=>
   obtain⟨g,p⟩:=g;simp only[gdP]at a ⊢;cases hg:σ g with
   |sc v=>
    cases v with
    |bool b=>
     rw[hg]at a;by_cases e:b=p
     . simp only[AAa e]at a ⊢;exact t a
     . simp only[AAZ e]at a ⊢;exact u a
    |_=>rw[hg]at a;exact a.elim
   |un=>rw[hg]at a;exact u a
   |_=>rw[hg]at a;exact a.elim
theorem Wg {f:wK} {K a:Sg->Prop} (h:∀σ,K σ->a σ):∀{os:List BJ} {m:Nat} {σ:Sg},OC P G f m os K σ->OC P G f m os a σ
 |[],_,_,ht=>⟨ht.1,h _ ht.2⟩
 |_::_,_,_,ht=>⟨ht.1,Oz (λ_ b=>Wg h b) ht.2⟩
theorem Wf {f:wN} {K a:Sg->Prop} (h:∀σ,K σ->a σ):∀{os:List BJ} {σ:Sg},Ql P G f os K σ->Ql P G f os a σ
 |[],_,ht=>h _ ht
 |_::_,_,ht=>⟨ht.1,Oz (λ_ b=>Wf h b) ht.2⟩
def goA:Exit->Bool
 | .goto _=>true
 |_=>false
theorem Zd {ic:IC}:∀{Q k:Exit->Sg->Prop} {σ:Sg},(∀e σ,goA e=false->Q e σ->k e σ)->Hi P G ic Q σ->Hi P G ic k σ:=by
 induction ic with
 |skip=>exactλh d=>h _ _ rfl d
 |bad=>exactλ_ d=>d
 |nV xs=>exactλh d=>Kp (λσ=>h .normal σ rfl) d
 |ZJ ops=>exactλh d=>P4 (λσ=>h .normal σ rfl) d
 |dS fs ops=>exactλh d=>P4 (λσ=>h .normal σ rfl) d
 |flo f a b=>exactλh d=>Wf (λ_ l=>P4 (λσ=>h .normal σ rfl) l) d
 |apd f ops=>intro Q k σ h d;exact Wg (λ_ l=>Oz (λσ=>h .normal σ rfl) l) d
 |pg _ r p a RL=>
  intro Q k σ h d;refine RL (λe σ' j g=> ?_) d;cases e with
  |normal=>
   simp only[pgQ]at g ⊢;split at g
   . exact h _ _ j g
   . exact g.elim
  |_=>exact h _ _ j g
 |gz _ r p a RL=>
  intro Q k σ h d;simp only[Hi]at d ⊢;split at d
  . exact RL h d
  . exact d.elim
 |seq a b RL ihb=>
  intro Q k σ h d;refine RL (λe σ' j g=> ?_) d;cases e with
  |normal=>exact ihb h g
  |_=>exact h _ _ j g
 |cond c a b RL ihb=>
  intro Q k σ h d;rw[eV]at d ⊢;split at d
  . split at d
    . rename_i l;simp only[l,AAq];exact RL h d
    . rename_i l;simp only[l];exact ihb h d
  . exact d.elim
 |block id a RL=>
  intro Q k σ h d;refine RL (λe σ' j g=> ?_) d;cases e with
  |exit i=>
   rw[O2]at g ⊢;split
   . rename_i hi;rw[AAa hi]at g;exact h _ _ j g
   . rename_i hi;rw[AAZ hi]at g;exact h _ _ j g
  |_=>exact h _ _ j g
 |loop a RL=>
  intro Q k σ h d;obtain⟨I,m,q⟩:=d;refine⟨I,m,λn τ o=>RL (λe σ' j g=> ?_) (q n τ o)⟩;cases e with
  |normal=>exact g
  |_=>exact h _ _ j g
 |exit id=>exactλh d=>h _ _ rfl d
 |ret=>exactλh d=>h _ _ rfl d
theorem eW {ic:IC} {Q a:Exit->Sg->Prop} {σ:Sg} (h:∀e σ,Q e σ->a e σ):Hi P G ic Q σ->Hi P G ic a σ:=Zd λe σ _=>h e σ
end Go.Abs
namespace Go.Abs
variable {w w':World} {S S':Nat->Prop} {G:Gi} {δ:Nat->DV} {Fr:Nat->Nat->Prop} {P:Program}
def fE (P:Program) (G:Gi) (n:Nat) (ops:Array Oper) (o:Oper):jZ->Bool
 | .o io=>G4 P G n ops o io
 | .cL d neg x=>o.guard.isNone&&Dr G n o.dst (some d)&&l5 P o.op neg x
 | .gld d g m=>o.guard.isNone&&Dr G n o.dst (some d)&&lY P o.op g m
 | .bxv d m s=>o.guard.isNone&&Dr G n o.dst (some d)&&lU P o.op m s
 | .lb d f x Sw y=>o.guard.isNone&&Dr G n o.dst d&&Jl P o.op f (x::(Sw++[y])) 0
 | .clo d f x args g=>Kq n ops o.guard g&&Dr G n o.dst d&&lV P o.op f x args
def Zi (P:Program) (G:Gi) (n:Nat) (ops:Array Oper):List Oper->List jZ->Bool
 |[],[]=>true
 |o::os,x::xs=>fE P G n ops o x&&Zi P G n ops os xs
 |_,_=>false
theorem eX {n:Nat} {q:World} {j l:Nat->Prop} (u:Yj q j l) {ops:Array Oper} {K:Sg->Prop} (Q:Exit->Act->World->Prop) {k:Nat} {o:Oper} (B:ops[k]? =some o) {x:jZ} {z:List jZ} {a:Act} {w:World} {σ:Sg}
 (h:Rel G n q j l a w σ) (c:fE P G n ops o x=true/\True) (b:MB P G (x::z) K σ):wpOp P ops Q k (λp w'=>∃σ',Rel G n q j l p w' σ'/\MB P G z K σ') a w:=by
 have t:o.guard.isNone=true->o.wp P a w (λp w'=>∃σ',Rel G n q j l p w' σ'/\MB P G z K σ') Q->wpOp P ops Q k (λp w'=>∃σ',Rel G n q j l p w' σ'/\MB P G z K σ') a w:=by
  intro N D;unfold wpOp;rw[B];have C:o.guard=none:=by simpa using N
  simp only;rw[AAa (by simp[Region.wanted,C])];exact .inl D
 cases x with
 |o io=>exact IZ u h c.1 b Q B
 |cL d neg x=>
  simp only[fE,AAR]at c;obtain⟨⟨⟨e,g2⟩,i⟩,_⟩:=c;refine t e ?_;simp only[MB]at b;split at b
  . rename_i T U O;split at b
    . rename_i rows I;exact nJ h i g2 O I b Q
    . exact b.elim
  . exact b.elim
 |lb d f x Sw y=>simp only[fE,AAR]at c;obtain⟨⟨⟨e,g2⟩,i⟩,_⟩:=c;exact t e (lb_sound u h i g2 b Q)
 |bxv d m s=>
  simp only[fE,AAR]at c;obtain⟨⟨⟨e,g2⟩,i⟩,_⟩:=c;refine t e ?_;simp only[MB]at b;split at b
  . rename_i M R;exact sF h i g2 R b.1 b.2 Q
  . exact b.elim
 |clo d f x args g=>
  simp only[fE,AAR]at c;obtain⟨⟨⟨e,g2⟩,i⟩,_⟩:=c;simp only[MB]at b;refine O7 h g2 e Q (λb=> ?_) (λ_ _ r k=>⟨_,r,k⟩) b B;unfold zH at b;split at b
  . rename_i L H;obtain⟨S,F,b⟩:=b;split at b
    . rename_i v E;exact sL u h i g2 H F E b Q
    . exact b.elim
  . exact b.elim
 |gld d g m=>
  simp only[fE,AAR]at c;obtain⟨⟨⟨e,g2⟩,i⟩,_⟩:=c;refine t e ?_;simp only[MB]at b;split at b
  . rename_i M J;exact tJ u h i g2 J b Q
  . exact b.elim
theorem sC {n:Nat} {g:World} {e f:Nat->Prop} (s:Yj g e f) {ops:Array Oper} {K:Sg->Prop} (Q:Exit->Act->World->Prop) (t:∀a w σ,Rel G n g e f a w σ->K σ->Q .normal a w) (d:List jZ):
 ∀(k:Nat) {a:Act} {w:World} {σ:Sg},Rel G n g e f a w σ->Zi P G n ops (ops.toList.drop k) d=true->MB P G d K σ->wpOps P ops Q (List.range' k (ops.size-k)) a w:=by
 induction d with
 |nil=>
  intro k a w σ h b m;have p:ops.toList.drop k=[]:=by cases hd:ops.toList.drop k with|nil=>rfl|cons o os=>rw[hd]at b;simp[Zi]at b
  have q:ops.size≤k:=by simpa using p
  rw[show ops.size-k=0 from by omega];exact t a w σ h m
 |cons x d ih=>
  intro k a w σ h b m;cases hd:ops.toList.drop k with
  |nil=>rw[hd]at b;simp[Zi]at b
  |cons o os=>rw[hd]at b;simp only[Zi,AAR]at b;have p:k<ops.size:=(by have:(ops.toList.drop k).length=os.length+1:=(by rw[hd];rfl);simp at this;omega);have u:ops[k]? =some o:=(by have:(ops.toList.drop k)[0]? =some o:=(by rw[hd];rfl);simpa using this);have l:ops.toList.drop (k+1)=os:=(by have:(ops.toList.drop k).drop 1=os:=(by rw[hd];rfl);rw[List.drop_drop]at this;exact this);rw[show ops.size-k=(ops.size-(k+1))+1 from by omega,List.range'_succ,wpOps_cons];have c:∀i w',(∃σ',Rel G n g e f i w' σ'/\MB P G d K σ')->wpOps P ops Q (List.range' (k+1) (ops.size-(k+1))) i w':=(by rintro i w' ⟨σ',r,j⟩;exact ih (k+1) r (by rw[l];exact b.2) j);exact wpOp_mono c (eX s Q u h ⟨b.1,trivial⟩ m)
def Gl (P:Program) (G:Gi) (n:Nat):Code->IC->Bool
 | .skip,.skip=>true
 |_,.bad=>true
 |c,.gz _ _ _ a=>Gl P G n c a
 |c,.pg _ _ _ a=>Gl P G n c a
 | .region _ ops false,.nV xs=>Zi P G n ops ops.toList xs
 | .region _ ops d,.ZJ Db=>Lc P G n ops ops.toList Db&&(!d||Lb G ops.toList Db)
 | .region _ ops true,.flo f aZ9 bs=>lX P G n f ops (aZ9++bs)&&aZ9.length==f.i2+1
 | .region _ ops true,.dS fs Db=>lW P G n fs ops Db
 | .region _ ops true,.apd f Db=>lT P G n f ops Db
 | .seq a b,.seq a' b'=>Gl P G n a a'&&Gl P G n b b'
 | .cond c a b,.cond c' a' b'=>CB c c'&&Gl P G n a a'&&Gl P G n b b'
 | .block id a,.block id' a'=>id==id'&&Gl P G n a a'
 | .loop a,.loop a'=>Gl P G n a a'
 | .exit id,.exit id'=>id==id'
 | .ret,.ret=>true
 | .label _,.skip=>true
 | .scope a,.seq .skip c=>Gl P G n a c
 |_,_=>false
def QM (m:Nat) (a0 a:Act):Prop:=∀i,i<m->a.tmps.getD i undef=a0.tmps.getD i undef
theorem QM.refl (m:Nat) (a:Act):QM m a a:=λ_ _=>rfl
def Ue (m:Nat) (o:Oper):Bool:=match o.dst with
 |some d=>decide (m≤d)
 |none=>true
def GJ (m:Nat):Code->Bool
 | .region _ ops _=>ops.toList.all (Ue m)
 | .seq a b=>GJ m a&&GJ m b
 | .cond _ a b=>GJ m a&&GJ m b
 | .block _ a=>GJ m a
 | .loop a=>GJ m a
 | .scope a=>GJ m a
 |_=>true
theorem O4 (c:Code):GJ 0 c=true:=by
 induction c with
 |region id ops d=>simp only[GJ,AAX];intro o _;unfold Ue;split<;>simp
 |seq a b RL ihb=>simp[GJ,RL,ihb]
 |cond c a b RL ihb=>simp[GJ,RL,ihb]
 |block id a RL=>simp[GJ,RL]
 |loop a RL=>simp[GJ,RL]
 |scope a RL=>simp[GJ,RL]
 |_=>simp[GJ]
def Kept (m:Nat) (a0:Act) (Q:Exit->Act->World->Prop) (e:Exit) (a:Act) (w:World):Prop:=Q e a w/\(e= .outgrown∨QM m a0 a)
theorem QM.put {m:Nat} {a0 a:Act} (h:QM m a0 a) {o:Oper} (b:Ue m o=true) (v:Value):QM m a0 (a.put o.dst v):=by
 intro i hi;unfold Ue at b;split at b
 . rename_i d hd;simp only[AAk]at b;rw[hd];simp only[Act.put,AAo,ABU];rw[AAZ (by omega)]
   have:=h i hi;simpa[AAo]using this
 . rename_i hd;rw[hd];exact h i hi
theorem YZ {ops:Array Oper} {Q:Exit->Act->World->Prop} {m:Nat} {a0:Act} (n:ops.toList.all (Ue m)=true) (l:List Nat):
 ∀(a:Act) (w:World),QM m a0 a->wpOps P ops Q l a w->wpOps P ops (Kept m a0 Q) l a w:=by
 induction l with
 |nil=>intro a w b h;exact⟨h,.inr b⟩
 |cons i rest ih=>
  intro a w b h;simp only[wpOps]at h ⊢;cases ho:ops[i]? with
  |none=>simp only[ho]at h ⊢;exact ih a w b h
  |some o=>
   simp only[ho]at h ⊢;have g:Ue m o=true:=(by rw[AAX]at n;exact n o (by rw[Array.mem_toList_iff];exact Array.mem_of_getElem? ho));have c:LetsOut Q->LetsOut (Kept m a0 Q):=λ⟨a,w,q⟩=>⟨a,w,q,.inl rfl⟩;by_cases p:Region.wanted o (yielded ops a.tmps)=true
   . simp only[p,AAq]at h ⊢;refine h.imp (λh=> ?_) (λh=>⟨h.1,c h.2⟩);unfold Oper.wp at*;generalize (execOp a.eval o).run P w=r at*;cases r with
     |ok x w'=>
      cases x with
      |value v=>exact ih _ _ (b.put g v) h
      |skip=>exact ih _ _ (b.put g undef) h
      |defer d=>exact ih _ _ (QM.put (a:={a with defers:=d::a.defers}) (λi hi=>b i hi) g undef) h
      |enter f args=>
       simp only[Oper.upon]at h ⊢;refine Calls.mono h λe k j=> ?_;cases e with
       |returned v=>exact ih _ _ (b.put g v) j
       |panicked chain=>exact⟨j,.inr b⟩
       |outgrown=>exact c j
      |row row args=>simp only[Oper.upon]at h ⊢;exact Rows.mono h λv k j=>ih _ _ (b.put g v) j
      |_=>simp only[Oper.upon]at h
     |halt x w'=>
      cases x with
      |panic v=>simp only[Oper.upon]at h ⊢;exact⟨h,.inr b⟩
      |_=>simp only[Oper.upon]at h
   . simp only[p]at h ⊢;exact ih _ _ (b.put g undef) h
theorem Pz {d:Nat} {ops:Array Oper} {Q:Exit->Act->World->Prop} {m:Nat} {a0 a:Act} {w:World} (b:ops.toList.all (Ue m)=true) (c:QM m a0 a)
 (h:wpOps P ops Q (List.range ops.size) a w):(Code.region d ops false).wp P (Kept m a0 Q) a w:=wp_region (YZ b _ a w c h)
theorem Hu {e:Nat} {ops:Array Oper} {Q:Exit->Act->World->Prop} {m:Nat} {a0 a:Act} {w:World} (b:ops.toList.all (Ue m)=true) (c:QM m a0 a) (d:P.follows .mixedOrders=true)
 (h:wpAny P .any ops Q ops.size (Array.replicate ops.size false) a {w with drawn:=w.drawn+1}):(Code.region e ops true).wp P (Kept m a0 Q) a w:=
 wp_region_draw λt=>by simp only[Region.schedule,d,Bool.true_or,AAq];exact YZ b _ a _ c (wpAny_sound ops.size t _ a _ h)
def Wc (G:Gi) (n:Nat) (w0:World) (S0 U0:Nat->Prop) (Q:Exit->Sg->Prop) (e:Exit) (a:Act) (w:World):Prop:=∃σ,Rel G n w0 S0 U0 a w σ/\Q e σ
def Tied (G:Gi) (n:Nat) (w0:World) (S0 U0:Nat->Prop) (m:Nat) (a0:Act) (Q:Exit->Sg->Prop):Exit->Act->World->Prop:=Kept m a0 (Wc G n w0 S0 U0 Q)
theorem Rel.drew {n:Nat} {f:World} {d e:Nat->Prop} {a:Act} {σ:Sg} (h:Rel G n f d e a w σ):Rel G n f d e a {w with drawn:=w.drawn+1} σ:=by obtain⟨S,δ,Fr,hn,i,k,j,c,b,g⟩:=h;exact⟨S,δ,Fr,hn,i,k,j,c.world (λ_ _=>rfl) (λ_ _ _=>rfl) (λ_ h=>h) (λs x l=>(c.ok s).Et x l),⟨b.os,b.tape,b.output,b.size,b.block,b.sub,b.sup,b.lt,b.own⟩,g⟩
theorem Rel.gz {n:Nat} {l:World} {i j:Nat->Prop} {a:Act} {σ τ:Sg} {r:Nat} {p:List Step} {v:AV} (h:Rel G n l i j a w σ) (F:QP G r p σ=some (v,τ)):Rel G n l i j a w τ:=by
 obtain⟨S,δ,Fr,hn,q,D,rfl,f,u,o⟩:=h;obtain⟨e,y,z,v,bx,k,rows,C,B,m,_,_,_,I,g,_⟩:=f.QP F;have c:∀x,z x->x<w.heap.size:=λx d=>by obtain⟨t,H⟩:=g x (.inr d);exact(f.ok t).lt x H
 exact⟨_,e,y,hn,q,λs=>(D s).trans (m s).symm,B,C,u.trans (Nx.JM (λx d=>g x d) c),λb E=>E.elim (o b) (c b)⟩
theorem cz_tree {v:Value} {bx:Bool} {k:Nat} {rows:List (List DV)} {F:Nat->Prop} (h:Ok w S (.own v bx k rows) F):∃f r,f.map (·.map DV.er)=(rows.map (·.map DV.er)).map (·.map JM)/\(∀x,r x->F x)/\Ok w (λx=>S x∨(F x/\¬r x)) (.own v bx k f) r:=by
 cases h with
 |nil _ _ hF=>exact⟨[],F,rfl,λ_ h=>h,.nil k F hF⟩
 |own _ _ _ b c arr E Fs _ hb hk Dv LO hv hr hd Ba KG hF=>
  obtain⟨s,n,l⟩:=LB rows (λi a (R:List DV)=>R.length=a.length/\∀(j:Nat) d,a[j]? =some d->∃D,R[j]? =some D/\(D.er=JM d.er/\D.Aw=d.Aw/\Ok w (λx=>S x∨Fs i j x) D (λ_=>False))) (by intro i a hi;exact LB a (λj d D=>D.er=JM d.er/\D.Aw=d.Aw/\Ok w (λx=>S x∨Fs i j x) D (λ_=>False)) (by intro j d B;obtain⟨D,m,g,q,_⟩:=RG (δ:=λ_=>default) (hr i j a d hi B);exact⟨D,m,g,q⟩));have e:s.map (·.map DV.er)=(rows.map (·.map DV.er)).map (·.map JM):=by refine map_mk n l _ _ (by simp) λi a R p y=> ?_;simp only[AAb,y,AAw,AAQ];exact(map_mk p.1 p.2 _ _ (by simp) λj d D hd y=>by simp[y,hd.1]).symm
  refine⟨s,λx=>x=b,e,λx z=>(hF x).2 (.inl z),?_⟩;rw[← n];refine .own bx k s b c arr E (λ_ _ _=>False) _ hb ?_ (by rw[n];exact Dv) ?_ ?_ ?_ (λ_ _ _ _ _ h=>h.elim) (λ_ _ _ h=>h.elim) (λ_ _ h=>h) (λx=>by simp)
  . intro R o;obtain⟨i,hi⟩:=AAu o;obtain⟨a,m,g⟩:=mem_mk n l i R hi;rw[g.1];exact hk a (AAe m)
  . rintro(h|⟨_,h⟩)
    . exact LO h
    . exact h rfl
  . intro i j R D o u;obtain⟨a,m,g⟩:=mem_mk n l i R o;obtain⟨d,q,t⟩:=mem_mk g.1 g.2 j D u;rw[t.2.1];exact hv i j a d m q
  . intro i j R D o u;obtain⟨a,m,g⟩:=mem_mk n l i R o;obtain⟨d,q,t⟩:=mem_mk g.1 g.2 j D u;exact t.2.2.mono (λ_ _=>rfl) (λ_ h=>h.elim) (λx z=>z.imp id λh=>⟨(hF x).2 (.inr ⟨i,j,h⟩),λe=>KG i j (e▸h)⟩) (λ_ h=>h.elim)
theorem Rel.cz {n:Nat} {P:World} {F H:Nat->Prop} {a:Act} {σ τ:Sg} {r:Nat} {p:List Step} (h:Rel G n P F H a w σ) (j:czS G r p σ=some τ):Rel G n P F H a w τ:=by
 obtain⟨S,δ,Fr,hn,T,O,rfl,f,U,R⟩:=h;unfold czS at j;split at j
 . rename_i b k rows hs;split at j
   . rename_i t W;obtain rfl:=AAU j;obtain⟨nD,N,i⟩:=Dj (f.ok r).Kw hs;obtain⟨E,J,l,Ms⟩:=(f.ok r).replace p N;cases nD with
     |own v b2 k2 Al=>
      simp only[Ee,AV.own.injEq]at i;obtain⟨rfl,rfl,KN⟩:=i;obtain⟨g,z,e1,K,e3⟩:=cz_tree J;obtain⟨tD,y,o,m,X,Q⟩:=Ms w (λx=>S x∨(E x/\¬z x)) (.own v b2 k2 g) z (by simp) e3 (λx c _=>K x c) (λ_ _=>rfl) (λ_ _ _=>rfl) (λ_ h=>.inl h)
       (λx c Z=>λh=>h.elim (λh=>(f.ok r).Et x c h) λh=>Z h.1)
      have uB:tD.er=t:=(by obtain⟨t',L,h2⟩:=HA (d:=δ r) (p:=p) (a:=t) (.own v b2 k2 g) (f.ok r).Kw (by simp only[Ee,e1,KN,← V5];exact W);rw[o]at L;obtain rfl:=AAU L;exact h2);have I:∀x,y x->Fr r x:=λx c=>((X x).1 c).elim (λh=>h.1) λh=>l x (K x h);have V:St G w (λx=>S x∨(E x/\¬z x)) (DR (EL G (p.length+1) r δ) r tD) (DR Fr r y):=
       f.setn (p.length+1) r tD y (λ_ _=>rfl) (λ_ _ _ _=>rfl) (λ_ h=>.inl h) (λs B x c h=>h.elim (λh=>(f.ok s).Et x c h) λh=>B (f.MC s r x c (l x h.1)))
        m (λs B x c hy=>B (f.MC s r x hy (I x c))) (Lp p o (f.rt r) (by simp)) (Mc p o (f.al r) (.own _ _ _ _))
        λq v' bx k' It hq C=>NP q p (by omega) o (λ_ v3 bx3 k3 D M=>by rw[N]at M;cases M;exact⟨_,rfl⟩) C
      refine⟨_,_,_,hn,T,λs=> ?_,?_,V,U.trans (Nx.JM (λx c=> ?_) λx c=> ?_),?_⟩
      . rw[Mp f];split
        . rename_i e;rw[e,Q];exact O r
        . exact O s
      . rw[Ni f,uB]
      . rcases c with⟨s,c⟩|c
        . by_cases e:s=r
          . subst e;rw[BD]at c;exact⟨_,I x c⟩
          . rw[BT _ _ e]at c;exact⟨s,c⟩
        . exact⟨r,l x c.1⟩
      . exact(f.ok r).lt x (l x c.1)
      . exactλx c=>c.elim (R x) λh=>(f.ok r).lt x (l x h.1)
     |lf a u=>simp only[EU]at i;subst i;cases J with|lf _ _ _ h=>exact h.elim
     |agg=>simp at i
     |BI=>simp at i
   . cases j
 . cases j
theorem Rel.gzS {n:Nat} {f:World} {d e:Nat->Prop} {a:Act} {σ τ:Sg} {c:Bool} {r:Nat} {p:List Step} (h:Rel G n f d e a w σ) (b:gzS G c r p σ=some τ):Rel G n f d e a w τ:=by
 unfold Abs.gzS at b;split at b
 . exact h.cz b
 split at b
 . obtain rfl:=AAU b;exact h
 . split at b
   . rename_i v i g;obtain rfl:=AAU b;exact h.gz g
   . cases b
def isGz:IC->Bool
 | .gz .. =>true
 | .pg .. =>true
 |_=>false
theorem Ig {n:Nat} {i:World} {f g:Nat->Prop} {m:Nat} {a0:Act} {c:Code} (h:∀ic,isGz ic=false->∀(Q:Exit->Sg->Prop) (a:Act) (w:World) (σ:Sg),Gl P G n c ic=true->GJ m c=true->QM m a0 a->Rel G n i f g a w σ->Hi P G ic Q σ->c.wp P (Tied G n i f g m a0 Q) a w):
 ∀(ic:IC) (Q:Exit->Sg->Prop) (a:Act) (w:World) (σ:Sg),Gl P G n c ic=true->GJ m c=true->QM m a0 a->Rel G n i f g a w σ->Hi P G ic Q σ->c.wp P (Tied G n i f g m a0 Q) a w:=by
 intro ic;induction ic with
 |gz _ r p x Y0=>
  intro Q a w σ o k j s b;have l:Gl P G n c x=true:=by cases c<;>simpa[Gl]using o
  simp only[Hi]at b;split at b
  . rename_i τ q;exact Y0 Q a w τ l k j (s.gzS q) b
  . exact b.elim
 |pg _ r p x Y0=>
  intro Q a w σ o k j s b;have l:Gl P G n c x=true:=by cases c<;>simpa[Gl]using o
  refine wp_mono (Y0 _ a w σ l k j s b) ?_;rintro e y w' ⟨⟨τ,t,d⟩,u⟩;refine⟨?_,u⟩;cases e with
  |normal=>
   simp only[pgQ]at d;split at d
   . rename_i v q;exact⟨v,t.gzS q,d⟩
   . exact d.elim
  |_=>exact⟨τ,t,d⟩
 |_=>exact h _ rfl
theorem Ze {n:Nat} {C:World} {v z:Nat->Prop} (F:Yj C v z) (L:P.follows .mixedOrders=true) {m:Nat} {a0:Act} (c:Code):∀(ic:IC) (Q:Exit->Sg->Prop) (a:Act) (w:World) (σ:Sg),Gl P G n c ic=true->GJ m c=true->QM m a0 a->Rel G n C v z a w σ->Hi P G ic Q σ->c.wp P (Tied G n C v z m a0 Q) a w:=by
 induction c with
 |skip=>
  refine Ig ?_;intro ic o Q a w σ g p r h j;cases ic with
  |skip=>exact wp_skip ⟨⟨σ,h,j⟩,.inr r⟩
  |bad=>exact j.elim
  |gz=>cases o
  |pg=>cases o
  |_=>simp[Gl]at g
 |region id ops d=>
  refine Ig ?_;intro ic o Q a w σ g p r h j;cases ic with
  |ZJ Db=>
   simp only[Gl,AAR,AA2,ABA]at g;obtain⟨g,JW⟩:=g;cases d with
   |false=>
    refine Pz p r ?_
    have:=lD F (P:=P) (G:=G) (ops:=ops) (K:=Q .normal) (Wc G n C v z Q) (λa w σ h u=>⟨σ,h,u⟩) Db 0 h (by simpa using g) j;rw[List.range_eq_range'];simpa using this
   |true=>refine Hu p r L ?_;replace JW:=JW.resolve_left (by simp);exact fK F (P:=P) (G:=G) (K:=Q .normal) (Wc G n C v z Q) (λa w σ h u=>⟨σ,h,u⟩) h.drew g JW j
  |flo f aZ9 bs=>
   cases d with
   |false=>simp[Gl]at g
   |true=>simp only[Gl,AAR,AAg]at g;refine Hu p r L ?_;obtain⟨q,q0,q1,q2,q3⟩:=floRun j;exact sV F (P:=P) (G:=G) (K:=Q .normal) (Wc G n C v z Q) (λa w σ h u=>⟨σ,h,u⟩) h.drew g.1 q q0 q1 q3 (λm L=>q2 m (by omega))
  |dS fs Db=>
   cases d with
   |false=>simp[Gl]at g
   |true=>simp only[Gl]at g;refine Hu p r L ?_;exact sU F (P:=P) (G:=G) (K:=Q .normal) (Wc G n C v z Q) (λa w σ h u=>⟨σ,h,u⟩) h.drew g j
  |apd f Db=>
   cases d with
   |false=>simp[Gl]at g
   |true=>simp only[Gl]at g;refine Hu p r L ?_;exact rN F (P:=P) (G:=G) (K:=Q .normal) (Wc G n C v z Q) (λa w σ h u=>⟨σ,h,u⟩) h.drew g j
  |nV xs=>
   cases d with
   |true=>simp[Gl]at g
   |false=>
    simp only[Gl]at g;refine Pz p r ?_
    have:=sC F (P:=P) (G:=G) (ops:=ops) (K:=Q .normal) (Wc G n C v z Q) (λa w σ h u=>⟨σ,h,u⟩) xs 0 h (by simpa using g) j;rw[List.range_eq_range'];simpa using this
  |bad=>exact j.elim
  |gz=>cases o
  |pg=>cases o
  |_=>simp[Gl]at g
 |seq x y Y0 ihy=>
  refine Ig ?_;intro ic o Q a w σ g p r h j;cases ic with
  |seq x' y'=>
   simp only[Gl,AAR]at g;simp only[GJ,AAR]at p;refine wp_seq (wp_mono (Y0 x' _ a w σ g.1 p.1 r h j) ?_);rintro e J w' ⟨⟨σ',B,t⟩,D⟩;cases e with
   |normal=>exact ihy y' Q J w' σ' g.2 p.2 (D.resolve_left (by simp)) B t
   |_=>exact⟨⟨σ',B,t⟩,D⟩
  |bad=>exact j.elim
  |gz=>cases o
  |pg=>cases o
  |_=>simp[Gl]at g
 |cond c x y Y0 ihy=>
  refine Ig ?_;intro ic o Q a w σ g p r h j;cases ic with
  |cond c' x' y'=>
   simp only[Gl,AAR]at g;obtain⟨⟨X,E⟩,Z⟩:=g;simp only[GJ,AAR]at p;rw[eV]at j;split at j
   . rename_i b hb;have U:a.eval c= .bool b:=(by obtain⟨S,δ,Fr,hn,ED,ha,rfl,V,_⟩:=h;obtain⟨hy,T⟩:=Aj X ha;rw[T];exact(V.Ey hy hb).1);split at j
     . rename_i R;subst R;exact wp_cond_true U (Y0 x' Q a w σ E p.1 r h j)
     . rename_i O;obtain rfl:b=false:=(by simpa using O);exact wp_cond_false U (ihy y' Q a w σ Z p.2 r h j)
   . exact j.elim
  |bad=>exact j.elim
  |gz=>cases o
  |pg=>cases o
  |_=>simp[Gl]at g
 |block id x Y0=>
  refine Ig ?_;intro ic o Q a w σ g p r h j;cases ic with
  |block id' x'=>
   simp only[Gl,AAR,AAg]at g;obtain⟨rfl,E⟩:=g;simp only[GJ]at p;refine wp_block (wp_mono (Y0 x' _ a w σ E p r h j) ?_);rintro e J w' ⟨⟨σ',B,t⟩,D⟩;cases e with
   |exit i=>
    simp only[Exit.inBlock];rw[O2]at t;have H:=D.resolve_left (by simp);split
    . rename_i hi;rw[AAa hi]at t;exact⟨⟨σ',B,t⟩,.inr H⟩
    . rename_i hi;rw[AAZ hi]at t;exact⟨⟨σ',B,t⟩,.inr H⟩
   |_=>exact⟨⟨σ',B,t⟩,D⟩
  |bad=>exact j.elim
  |gz=>cases o
  |pg=>cases o
  |_=>simp[Gl]at g
 |loop x Y0=>
  refine Ig ?_;intro ic o Q a w σ g p r h j;cases ic with
  |loop x'=>
   simp only[Gl]at g;obtain⟨I,⟨n0,W⟩,mW⟩:=j;simp only[GJ]at p;refine wp_loop_ghost (λk a w=>(∃σ,Rel G n C v z a w σ/\I k σ)/\QM m a0 a) n0 ⟨⟨σ,h,W⟩,r⟩ ?_;rintro k J w' ⟨⟨τ,B,hI⟩,D⟩;refine wp_mono (Y0 x' _ J w' τ g p D B (mW k τ hI)) ?_;rintro e a2 w2 ⟨⟨M,E,t⟩,H⟩;cases e with
   |normal=>obtain⟨k',u,N⟩:=t;exact⟨k',u,⟨M,E,N⟩,H.resolve_left (by simp)⟩
   |_=>exact⟨⟨M,E,t⟩,H⟩
  |bad=>exact j.elim
  |gz=>cases o
  |pg=>cases o
  |_=>simp[Gl]at g
 |exit id=>
  refine Ig ?_;intro ic o Q a w σ g p r h j;cases ic with
  |exit id'=>simp only[Gl,AAg]at g;subst g;exact wp_exit ⟨⟨σ,h,j⟩,.inr r⟩
  |bad=>exact j.elim
  |gz=>cases o
  |pg=>cases o
  |_=>simp[Gl]at g
 |ret=>
  refine Ig ?_;intro ic o Q a w σ g p r h j;cases ic with
  |ret=>exact wp_ret ⟨⟨σ,h,j⟩,.inr r⟩
  |bad=>exact j.elim
  |gz=>cases o
  |pg=>cases o
  |_=>simp[Gl]at g
 |rangeFunc=>refine Ig ?_;intro ic o Q a w σ g p r h j;cases ic with|bad=>exact j.elim|gz=>cases o|pg=>cases o|_=>simp[Gl]at g
 |scope x Y0=>
  refine Ig ?_;intro ic o Q a w σ g p r h j;cases ic with
  |bad=>exact j.elim
  |gz=>cases o
  |pg=>cases o
  |seq s ic=>
   cases s with
   |skip=>
    refine wp_scope_straight (wp_mono (Y0 ic (λe σ=>goA e=false/\Q e σ) a w σ (by simpa[Gl]using g) (by simpa[GJ]using p) r h (Zd (λe σ T t=>⟨T,t⟩) j)) ?_);rintro e J w' ⟨⟨σ',B,t⟩,D⟩;cases e with
    |goto l=>cases t.1
    |_=>exact⟨⟨σ',B,t.2⟩,D⟩
   |_=>simp[Gl]at g
  |_=>simp[Gl]at g
 |label=>refine Ig ?_;intro ic o Q a w σ g p r h j;cases ic with|skip=>exact wp_label ⟨⟨σ,h,j⟩,.inr r⟩|bad=>exact j.elim|gz=>cases o|pg=>cases o|_=>simp[Gl]at g
 |goto=>refine Ig ?_;intro ic o Q a w σ g p r h j;cases ic with|bad=>exact j.elim|gz=>cases o|pg=>cases o|_=>simp[Gl]at g
 |refuse=>refine Ig ?_;intro ic o Q a w σ g p r h j;cases ic with|bad=>exact j.elim|gz=>cases o|pg=>cases o|_=>simp[Gl]at g
end Go.Abs
namespace Go.Abs
variable {w w':World} {S S':Nat->Prop} {G:Gi} {δ:Nat->DV} {Fr:Nat->Nat->Prop} {P:Program}
def fD (P:Program):ResultVar->RV->Bool
 | .tmp t,.tmp t'=>t==t'
 | .cell a t,.cell a' agg n=>a==a'&&Gg P t==some n&&JP P t==some agg&&(agg||n==1)
 |_,_=>false
def O3 (P:Program):List ResultVar->List RV->Bool
 |[],[]=>true
 |r::rs,v::vs=>fD P r v&&O3 P rs vs
 |_,_=>false
def Rk (tmps:Array Value):ResultVar->Sem Value
 | .tmp t=>pure (tmps.getD t undef)
 | .cell a t=>do loadVar t (← asAddr (tmps.getD a undef))
theorem M5 {a b:Type} (f:a->Sem b) (x:a) (l:List a) {v:b} {vs:List b} (c:(f x).run P w= .ok v w) (d:(l.mapM f).run P w= .ok vs w):((x::l).mapM f).run P w= .ok (v::vs) w:=by rw[List.mapM_cons];simp[c,d]
theorem JC {tmps:Array Value} (B:List ResultVar):∀{rs:List RV} {δ:Nat->DV} {Fr:Nat->Nat->Prop} {vs:List AV} {τ:Sg},St G w S δ Fr->(∀s,tmps.getD s undef=(δ s).Aw)->O3 P B rs=true->
 Fp G rs (λs=>(δ s).er)=some (vs,τ)->∃(F:List DV) (FD:Nat->Prop),F.map DV.er=vs/\(B.mapM (Rk tmps)).run P w= .ok (F.map DV.Aw) w/\JS w S F FD/\(∀x,FD x->BA Fr x)/\
  ∃(C:Nat->DV) (W:Nat->Nat->Prop),St G w S C W/\(λs=>(C s).er)=τ/\(∀s,(C s).Aw=(δ s).Aw)/\(∀s x,W s x->¬FD x)/\(∀x,BA W x->BA Fr x):=by
 induction B with
 |nil=>
  intro rs δ Fr vs τ h K Q l;cases rs with
  |nil=>simp only[Fp,AAQ,AAf]at l;obtain⟨rfl,rfl⟩:=l;exact⟨[],λ_=>False,rfl,by simp,λ_ h=>h,λ_ h=>h.elim,δ,Fr,h,rfl,λ_=>rfl,λ_ _ _ h=>h,λ_ h=>h⟩
  |cons=>simp[O3]at Q
 |cons rv B ih=>
  intro rs δ Fr vs τ h K Q l;cases rs with
  |nil=>simp[O3]at Q
  |cons r rs=>
   simp only[O3,AAR]at Q;obtain⟨M,Mq⟩:=Q;cases r with
   |tmp t=>
    cases rv with
    |cell=>simp[fD]at M
    |tmp t'=>
     simp only[fD,AAg]at M;subst M;simp only[Fp]at l;split at l
     . rename_i v τ1 Ye;split at l
       . rename_i vs' τ' o;simp only[AAQ,AAf]at l;obtain⟨rfl,rfl⟩:=l;obtain⟨C,W,D,Ff,y,JH,FM,T0⟩:=h.tk (x:=.t t') trivial Ye;subst JH;obtain⟨F,FD,Z,g2,g3,O,q,N,k1,k2,k3,U,k5⟩:=ih y.st (λs=>(K s).trans (y.Aw s).symm) Mq o;refine⟨D::F,λx=>Ff x∨FD x,by simp[FM,Z],?_,⟨Ff,FD,y.ok,g3,?_,λx=>Iff.rfl⟩,?_,q,N,k1,k2,λs=>(k3 s).trans (y.Aw s),?_,λx f=>y.own x (.inl (k5 x f))⟩
         . refine M5 _ _ _ ?_ g2;simp[Rk,K,T0,Cx]
         . intro x f m;obtain⟨s,g⟩:=O x m;exact y.MC s x g f
         . rintro x (f|f)
           . exact y.own x (.inr f)
           . exact y.own x (.inl (O x f))
         . rintro s x f (m|m)
           . obtain⟨s',Gx⟩:=k5 x ⟨s,f⟩;exact y.MC s' x Gx m
           . exact U s x f m
       . cases l
     . cases l
   |cell a agg n=>
    cases rv with
    |tmp=>simp[fD]at M
    |cell a' t=>
     simp only[fD,AAR,AAg,AA2]at M;obtain⟨⟨⟨rfl,hn⟩,hg⟩,hg1⟩:=M;simp only[Fp]at l;split at l
     . rename_i k row g;split at l
       . rename_i v p;split at l
         . rename_i vs' τ' o;simp only[AAQ,AAf]at l;obtain⟨rfl,rfl⟩:=l;obtain⟨Al,hd,u⟩:=h.Xc g;have CZ:=h.ok a';rw[hd]at CZ
           match Al,u with
           |[Io],u=>
            simp only[AAi,AA1,List.cons.injEq,and_true]at u;generalize T:(δ a').Aw=va at*;cases CZ with
            |own _ _ _ b c arr E Fs _ hb hk Dv LO hvv hr ME Ba KG hF=>
             have hkr:Io.length=k:=hk Io (by simp);simp only[AAq]at Dv;have J:JS w S Io (λx=>∃j,Fs 0 j x):=(by refine Jh.2 ⟨λj=>Fs 0 j,λj d I=>hr 0 j Io d rfl I,λi i' x f m=>(ME 0 i 0 i' x f m).2,λj x f=> ?_,λx=>Iff.rfl⟩;obtain⟨row',d,h1,h2⟩:=Ba 0 j x f;simp only[AA7,AAQ]at h1;exact⟨d,h1▸h2⟩);have R:Io.length=n:=by
              have:row.length=n:=by
               unfold Ia at p;split at p
               . assumption
               . cases p
              rw[← this,← u];simp
             have B9:=h.set (w':=w) (S':=S) a' (.lf .dead (JW true b 1 c)) (λ_=>False) (λ_ _=>rfl) (λ_ _ _ _=>rfl) (λ_ h=>h) (λs _ x f=>(h.ok s).Et x f) (.lf _ _ _ trivial (λ_ h=>h)) (λ_ _ _ h=>h.elim) (by simp) (.lf _ _ trivial);have JH:(λs=>(DR (HN G a' δ) a' (.lf .dead (JW true b 1 c)) s).er)=DR (JY G a' λs=>(δ s).er) a' .dead:=by
              funext s;simp only[DR];split
              . simp
              . exact h.gL a' s
             rw[← JH]at o;have DZ:∀s,tmps.getD s undef=(DR (HN G a' δ) a' (.lf .dead (JW true b 1 c)) s).Aw:=by
              intro s;simp only[DR];split
              . rename_i e;subst e;rw[K,T];simp
              . rw[K,h.UG a' s]
             obtain⟨F,FD,Z,g2,g3,O,q,N,q1,q2,q3,q4,q5⟩:=ih B9 DZ Mq o;have V:∀s,(q s).Aw=(δ s).Aw:=λs=>(by rw[q3 s,← DZ s,K]);have z:∀x,BA N x->BA Fr x/\¬∃j,Fs 0 j x:=by
              intro x f;obtain⟨s,g⟩:=q5 x f;simp only[DR]at g;split at g
              . exact g.elim
              . rename_i Nl;exact⟨⟨s,g⟩,λ⟨j,I⟩=>Nl (h.MC s a' x g ((hF x).2 (.inr ⟨0,j,I⟩)))⟩
             have L:(loadVar t ⟨b,0,none⟩).run P w= .ok (if agg=true then .agg (Io.map DV.Aw).toArray else(Io.map DV.Aw).headD undef) w:=by
              refine K3 hn hg hg1 (by simp[R]) ?_;intro j v I;simp only[AAb]at I;cases hjd:Io[j]? with
              |none=>simp[hjd]at I
              |some d=>
               simp only[hjd,AAw,AAQ]at I;subst I
               have:=hvv 0 j Io d rfl hjd;simp only[World.cell?,hb];simpa using this
             have X:(Rk tmps (.cell a' t)).run P w= .ok (if agg=true then .agg (Io.map DV.Aw).toArray else(Io.map DV.Aw).headD undef) w:=by simp only[Rk,K,T,JW,AAq];simpa[asAddr]using L
             have VL:∀x,(∃j,Fs 0 j x)->BA Fr x:=λx ⟨j,f⟩=>⟨a',(hF x).2 (.inr ⟨0,j,f⟩)⟩;have C3:∀x,(∃j,Fs 0 j x)->¬FD x:=by
              intro x ⟨j,f⟩ m;obtain⟨s,g⟩:=O x m;simp only[DR]at g;split at g
              . exact g
              . rename_i Nl;exact Nl (h.MC s a' x g ((hF x).2 (.inr ⟨0,j,f⟩)))
             have H:∀x,FD x->BA Fr x:=by
              intro x f;obtain⟨s,g⟩:=O x f;simp only[DR]at g;split at g
              . exact g.elim
              . exact⟨s,g⟩
             unfold Ia at p;split at p
             . cases agg with
               |true=>
                simp only[AAq,AAQ]at p X;subst p;refine⟨.agg Io::F,λx=>(∃j,Fs 0 j x)∨FD x,by simp[u,Z],?_,⟨_,FD,Bt.2 J,g3,C3,λx=>Iff.rfl⟩,?_,q,N,q1,q2,V,?_,λx f=>(z x f).1⟩
                . have:=M5 _ _ _ X g2;simpa using this
                . rintro x (f|f)
                  . exact VL x f
                  . exact H x f
                . rintro s x f (m|m)
                  . exact(z x ⟨s,f⟩).2 m
                  . exact q4 s x f m
               |false=>
                simp only[AAY,AAd]at p X;split at p
                . rename_i c0 hn1;simp only[AAQ]at p;subst p
                  match Io,u with
                  |[D0],u=>
                   simp only[AAi,AA1,List.cons.injEq,and_true]at u;obtain⟨F1,F2q,k1,k2,k3,U⟩:=J;refine⟨D0::F,λx=>F1 x∨FD x,by simp[u,Z],?_,⟨_,FD,k1,g3,λx f=>C3 x ((U x).2 (.inl f)),λx=>Iff.rfl⟩,?_,q,N,q1,q2,V,?_,λx f=>(z x f).1⟩
                   . have:=M5 _ _ _ X g2;simpa using this
                   . rintro x (f|f)
                     . exact VL x ((U x).2 (.inl f))
                     . exact H x f
                   . rintro s x f (m|m)
                     . exact(z x ⟨s,f⟩).2 ((U x).2 (.inl m))
                     . exact q4 s x f m
                . cases p
             . cases p
         . cases l
       . cases l
     . cases l
def bH:AV->Bool
 | .sc _| .sl .. | .dead| .fp _| .own .. | .mG .. =>true
 |_=>false
def Ir:AV->Bool
 | .agg cs=>cs.all bH
 | .BI cs=>cs.all bH
 |a=>bH a
theorem Wk {L:List Nat} {a:AV} (h:bH a=true):Fh L a=true:=by cases a<;>simp_all [bH,Fh]
theorem Za {L:List Nat} {a:AV} (h:Ir a=true):Fh L a=true:=by
 cases a with
 |agg cs=>simp only[Ir,AAX]at h;rw[Fh,V9,AAX];exactλx b=>Wk (h x b)
 |BI cs=>simp only[Ir,AAX]at h;rw[Fh,V9,AAX];exactλx b=>Wk (h x b)
 |_=>exact Wk h
theorem bJ {d:DV} (b:ZU d) (h:bH d.er=true):DU δ d:=by
 cases b with
 |lf a v b=>refine .lf _ _ ?_;simp only[EU]at h;cases a<;>simp_all [bH,Mn]
 |own=>exact .own _ _ _ _
 |agg=>simp[bH]at h
 |BI=>simp[bH]at h
theorem eQ {d:DV} (b:ZU d) (h:Ir d.er=true):DU δ d:=by
 cases b with
 |lf a v b=>exact bJ (.lf a v b) (by simp only[EU]at h ⊢;cases a<;>simp_all [Ir,C0])
 |own=>exact .own _ _ _ _
 |agg cs hr=>simp only[HU,Ir,ABR,AAX,Function.comp]at h;exact .agg _ λi d hd=>bJ (hr i d hd) (h d (AAe hd))
 |BI cs hr=>simp only[JL,Ir,ABR,AAX,Function.comp]at h;exact .BI _ λi d hd=>bJ (hr i d hd) (h d (AAe hd))
structure FI where
 c:IC
 g:Gi
 r:List RV
def OY (P:Program) (fn:Func) (I:FI):Bool:=
 (match fn.body with
 |some c=>Gl P I.g fn.ntmps c I.c
 |none=>false)&&O3 P fn.results.toList I.r&&I.g.rt.all (λx=> !x.2.contains x.1)
theorem qW {G:Gi} (h:G.rt.all (λx=> !x.2.contains x.1)=true) (s:Nat):s∉G.Gy s:=by
 unfold Gi.Gy;split
 . rename_i x b;have c:=ABm b;have a:=List.find?_some b;simp only[AAX]at h
   have:=h _ c;simp only[AAg]at a;rw[← a];simpa using this
 . simp
theorem W6 (ds:List DV) (n s:Nat):((ds.map DV.Aw).toArray++Array.replicate (n-(ds.map DV.Aw).toArray.size) undef).getD s undef=(ds.getD s (.lf .un undef)).Aw:=by
 simp only[AAo,Array.getElem?_append,List.getD_eq_getElem?_getD];simp only[List.size_toArray,AA0];split
 . rename_i h;simp[h]
 . rename_i h;simp only[Array.getElem?_replicate];rw[ABf (by omega)];split<;>simp
def Oh:List DV->DV
 |[d]=>d
 |ds=>.BI ds
theorem S8 (ds:List DV):(Oh ds).er=one (ds.map DV.er):=by
 match ds with
 |[]=>simp[Oh,one]
 |[d]=>simp[Oh,one]
 |_::_::_=>simp[Oh,one]
theorem Ns {ds:List DV} {F:Nat->Prop} (h:JS w S ds F):Ok w S (Oh ds) F:=by
 match ds with
 |[]=>exact A5.2 h
 |[d]=>obtain⟨c,i,e,f,j,b⟩:=h;have:F=c:=funext λx=>propext ⟨λa=>((b x).1 a).elim id λg=>absurd g (f x),λa=>(b x).2 (.inl a)⟩;exact this▸e
 |_::_::_=>exact A5.2 h
def Xg:List Value->Value
 |[v]=>v
 |vs=>.tuple vs.toArray
theorem iV {a:Func} {tmps:Array Value} {vs:List Value} (h:(a.results.toList.mapM (Rk tmps)).run P w= .ok vs w):
 (results a tmps).run P w= .ok (Xg vs) w:=by
 have e:results a tmps=(do
  let vs ← a.results.mapM (Rk tmps)
  pure (if h:vs.size=1 then vs[0]else .tuple vs)):=by
  unfold results;congr 1
 rw[e,Array.mapM_eq_mapM_toList,map_eq_pure_bind,bind_assoc];have b:∀(m:Sem (List Value)) (k:List Value->Sem Value),m.run P w= .ok vs w->(m >>= k).run P w=(k vs).run P w:=by intro m k c;simp[c]
 rw[b _ _ h]
 match vs with
 |[]=>simp[Xg]
 |[v]=>simp[Xg]
 |_::_::_=>simp[Xg]
theorem P5 {f m:Nat} {j:Func} {I:FI} {ds:List DV} {F:Nat->Prop} {Q:Exit->Sg->Prop} {R:Ending->World->Prop} (hm:P.follows .mixedOrders=true) (E:P.funcs[f]? =some j) (T:OY P j I=true) (hn:ds.length≤j.ntmps) (L:(ds.map DV.er).all Ir=true)
 (PB:∀c,j.body=some c->GJ m c=true) (NH:GI w S) (J:Ok w S (.BI ds) F) (O:∀b,S b->b<w.heap.size) (h:Hi P I.g I.c Q (start (ds.map DV.er)))
 (tT:∀ex n S1 k p (tmps:Array Value),Q ex (λs=>(k s).er)->St I.g n S1 k p->Nx w S F n S1 (BA p)->(∀b,S1 b->b<n.heap.size)->(∀s,tmps.getD s undef=(k s).Aw)->(ex= .outgrown∨∀i,i<m->tmps.getD i undef=(ds.getD i (.lf .un undef)).Aw)->
  O3 P j.results.toList I.r=true->(ex= .normal∨ex= .ret)/\∃v,(results j tmps).run P n= .ok v n/\R (.returned v) n):Calls P f (ds.map DV.Aw).toArray w R:=by
 simp only[OY,AAR]at T;obtain⟨⟨z,Mq⟩,C⟩:=T;split at z
 . rename_i c o;obtain⟨q,u,hd,y,B⟩:xT w S ds F:=(by cases J with|BI _ q _ u hd y B=>exact⟨q,u,hd,y,B⟩);have M:∀(i:Nat) d,ds[i]? =some d->Ir d.er=true:=λi d hi=>(by simp only[AAX]at L;exact L _ (ABY (AAe hi)));refine calls_of_wp E o ?_
   let δ:Nat->DV:=λs=>ds.getD s (.lf .un undef)
   have l:∀s,(∃d,ds[s]? =some d/\δ s=d)∨(ds[s]? =none/\δ s= .lf .un undef):=by
    intro s;cases a:ds[s]? with
    |some d=>exact .inl ⟨d,rfl,by simp[δ,a]⟩
    |none=>exact .inr ⟨rfl,by simp[δ,a]⟩
   have V:St I.g w S δ q:=by
    refine⟨λs=> ?_,λs t x=>hd s t x,λs=> ?_,λs=> ?_,qW C⟩
    . rcases l s with⟨d,a,e⟩|⟨a,e⟩
      . rw[e];exact u s d a
      . rw[e];exact .lf _ _ _ rfl λx G=>by obtain⟨d,hd⟩:=y s x G;rw[a]at hd;cases hd
    . rcases l s with⟨d,a,e⟩|⟨a,e⟩
      . rw[e];exact eQ (u s d a).Kw (M s d a)
      . rw[e];exact .lf _ _ trivial
    . rcases l s with⟨d,a,e⟩|⟨a,e⟩
      . rw[e];exact Za (M s d a)
      . rw[e];simp
   have H:(λs=>(δ s).er)=start (ds.map DV.er):=by
    funext s;unfold start;rcases l s with⟨d,a,e⟩|⟨a,e⟩
    . simp[e,a]
    . simp[e,a]
   have IB:Rel I.g j.ntmps w S F {tmps:=(ds.map DV.Aw).toArray++Array.replicate (j.ntmps-(ds.map DV.Aw).toArray.size) undef,defers:=[]} w (start (ds.map DV.er)):=(by refine⟨S,δ,q,by simp;omega,rfl,λs=>W6 ds j.ntmps s,H,V,Nx.less λx ⟨s,G⟩=>(B x).2 ⟨s,G⟩,O⟩);refine wp_mono (Ze ⟨NH,λb o=>⟨λE=>J.Et b E o,O b o⟩⟩ hm (m:=m) (a0:={tmps:=(ds.map DV.Aw).toArray++Array.replicate (j.ntmps-(ds.map DV.Aw).toArray.size) undef,defers:=[]}) c I.c _ _ w _ z (PB c o) (QM.refl _ _) IB h) ?_;rintro e a' n ⟨⟨σ,⟨S1,k,p,hn1,K,Qp,rfl,Z,X,W⟩,hq⟩,Is⟩;obtain⟨D,v,U,N⟩:=tT e n S1 k p a'.tmps hq Z X W Qp (Is.imp id λhk i hi=>(hk i hi).trans (W6 ds j.ntmps i)) Mq;rcases D with rfl|rfl
   . exact⟨K,v,U,N⟩
   . exact⟨K,v,U,N⟩
 . cases z
theorem oP {rs:List RV} {a:AV} {e:Exit} {σ:Sg} (h:Ends G rs a e σ):e= .normal∨e= .ret:=by obtain⟨h,_⟩:=h;cases e<;>simp_all
theorem Tj {b:Func} {tmps:Array Value} {a:List DV} (h:(b.results.toList.mapM (Rk tmps)).run P w= .ok (a.map DV.Aw) w):(results b tmps).run P w= .ok (Oh a).Aw w:=by
 rw[iV h]
 match a with
 |[]=>simp[Oh,Xg]
 |[d]=>simp[Oh,Xg]
 |_::_::_=>simp[Oh,Xg]
theorem QJ {f:Nat} {e:Func} {I:FI} {args:List AV} {b:AV} (H:P.follows .mixedOrders=true) (G:P.funcs[f]? =some e) (E:OY P e I=true) (hn:args.length≤e.ntmps) (o:args.all Ir=true)
 (h:Hi P I.g I.c (Ends I.g I.r b) (start args)):Says P f args b:=by
 intro w S ds F s p j D;subst p;refine P5 (m:=0) H G E (by simpa using hn) o (λc _=>O4 c) s j D h ?_;rintro N K S1 L M tmps i n a k t _ q;refine⟨oP i,?_⟩;obtain⟨_,vs,τ,v,u⟩:=i;obtain⟨l,FD,y,g2,z,B,_⟩:=JC e.results.toList n t q v;have C:JS K S1 (ds.map λd=>DV.lf .dead d.Aw) (λ_=>False):=by refine B4 λd hd=> ?_;obtain⟨x,_,rfl⟩:=ABi.1 hd;exact .lf _ _ _ trivial (λ_ h=>h)
 exact⟨_,Tj g2,Oh l,ds.map λd=>DV.lf .dead d.Aw,S1,FD,rfl,by rw[S8,y,u],by simp,by simp,A5.2 ⟨FD,λ_=>False,Ns z,C,λ_ _ h=>h,λx=>by simp⟩,⟨a.os,a.tape,a.output,a.size,a.block⟩,a.sub,a.sup,k,λx J=>a.own x (B x J)⟩
def TC (σ:Sg):Nat->List AV->Prop
 |_,[]=>True
 |i,o::os=>(match o with| .dead=>True|o=>σ i=o)/\TC σ (i+1) os
def WR (G:Gi) (rs:List RV) (res:AV) (outs:List AV) (e:Exit) (σ:Sg):Prop:=
 (match e with| .normal=>True| .ret=>True|_=>False)/\∃vs τ,Fp G rs σ=some (vs,τ)/\one vs=res/\TC τ 0 outs
def fC (fn:Func) (m:Nat):Bool:=match fn.body with
 |some c=>GJ m c
 |none=>false
theorem Xh {b:Nat->DV} {e:Nat->Nat->Prop} (g:St G w S b e) (a:List AV):∀(i:Nat),TC (λs=>(b s).er) i a->
 ∃os:List DV,os.map DV.er=a/\os.map DV.Aw=(List.range' i a.length).map (λs=>(b s).Aw)/\∃c,JS w S os c/\(∀x,c x->∃s,i≤s/\e s x):=by
 induction a with
 |nil=>intro i _;exact⟨[],rfl,rfl,λ_=>False,λ_ h=>h,λ_ h=>h.elim⟩
 |cons o a ih=>
  intro i h;obtain⟨p,q⟩:=h;obtain⟨os,l,m,c,n,j⟩:=ih (i+1) q;have key:∃(D:DV) (FD:Nat->Prop),D.er=o/\D.Aw=(b i).Aw/\Ok w S D FD/\∀x,FD x->e i x:=by
   by_cases hd:o= .dead
   . subst hd;exact⟨.lf .dead (b i).Aw,λ_=>False,by simp,by simp,.lf _ _ _ trivial (λ_ h=>h),λ_ h=>h.elim⟩
   . refine⟨b i,e i,?_,rfl,g.ok i,λ_ h=>h⟩;cases o<;>first|exact p|exact absurd rfl hd
  obtain⟨D,FD,u,v,y,k⟩:=key;refine⟨D::os,by simp[u,l],by simp[v,m,List.range'_succ],λx=>FD x∨c x,⟨FD,c,y,n,?_,λx=>Iff.rfl⟩,?_⟩
  . intro x d t;obtain⟨s,r,f⟩:=j x t
    have:=g.MC i s x (k x d) f;omega
  . rintro x (d|d)
    . exact⟨i,AAv _,k x d⟩
    . obtain⟨s,r,f⟩:=j x d;exact⟨s,by omega,f⟩
theorem jD {f:Nat} {d:Func} {I:FI} {args:List AV} {k:AV} {a:List AV} (hm:P.follows .mixedOrders=true) (hf:P.funcs[f]? =some d) (hc:OY P d I=true) (v:fC d args.length=true) (hn:args.length≤d.ntmps) (G:args.all Ir=true) (n:a.length=args.length)
 (h:Hi P I.g I.c (WR I.g I.r k a) (start args)):A8 P f args k a:=by
 intro w S ds F L J z X;subst J;refine P5 (m:=ds.length) hm hf hc (by simpa using hn) G (λc Z=>by simp only[fC,Z]at v;simpa using v) L z X h ?_;rintro l w1 S1 δ1 F1 tmps y E b C q H K;have e:l= .normal∨l= .ret:=by obtain⟨h,_⟩:=y;cases l<;>simp_all
 refine⟨e,?_⟩;obtain⟨_,vs,τ,O,N,t⟩:=y;have M:=H.resolve_left (by rcases e with rfl|rfl<;>simp);obtain⟨D,FD,U,g2,V,W,δ2,F2,k1,k2,k3,k4,k5⟩:=JC d.results.toList E q K O;rw[← k2]at t;obtain⟨os,Q,R,p,T,u⟩:=Xh k1 a 0 t;have B:os.map DV.Aw=ds.map DV.Aw:=by
  rw[R];have hl:a.length=ds.length:=by simpa using n
  rw[hl];apply ABd;intro i;simp only[AAb];by_cases hi:i<ds.length
  . rw[List.getElem?_range' (by simpa using hi),AAV hi];simp only[ABX,Nat.one_mul,AAw,AAQ];rw[k3,← q,M i hi];simp[hi]
  . rw[ABf (by simp;omega),ABf (by omega)];rfl
 refine⟨_,Tj g2,Oh D,os,S1,λx=>FD x∨p x,rfl,by rw[S8,U,N],Q,B,A5.2 ⟨FD,p,Ns V,T,?_,λx=>Iff.rfl⟩,⟨b.os,b.tape,b.output,b.size,b.block⟩,b.sub,b.sup,C,?_⟩
 . intro x j hy;obtain⟨s,_,o⟩:=u x hy;exact k4 s x o j
 . rintro x (j|j)
   . exact b.own x (W x j)
   . obtain⟨s,_,o⟩:=u x j;exact b.own x (k5 x ⟨s,o⟩)
end Go.Abs
namespace Go.Abs
open Go.Sort
variable {w w':World} {S S':Nat->Prop} {P:Program}
def ints (l:List Int):List (List AV):=l.map λz=>[AV.sc (.int .i64 z)]
theorem gF (l:List Int):(ints l).length=l.length:=by simp[ints]
theorem gE (l:List Int) (i:Nat):(ints l)[i]? =(l[i]?).map λz=>[AV.sc (.int .i64 z)]:=by simp[ints]
theorem Xi {d:DV} {F:Nat->Prop} {zs:List Int} (h:Ok w S d F) (f:d.er= .own false 1 (ints zs)):
 (d.Aw= .slice none 0 0/\zs=[]/\∀x,¬F x)∨∃b c arr E,d.Aw= .slice (some ⟨b,0,none⟩) zs.length c/\w.heap[b]? =some (.cells arr E (0,0))/\c=arr.size/\zs.length≤c/\¬S b/\
  (∀(i:Nat) (z:Int),zs[i]? =some z->arr[i]? =some (.int .i64 z))/\(∀x,F x↔x=b):=by
 cases h with
 |lf a v _ ha hF=>simp only[EU]at f;subst f;exact ha.elim
 |agg=>simp at f
 |BI=>simp at f
 |nil k _ hF=>
  simp only[Ee,AA1,AV.own.injEq,true_and]at f
  left
  refine⟨by simp,?_,hF⟩
  have:=ABl List.length f.2;simpa[ints]using this.symm
 |own bx k rows b c arr E Fs _ hb hk Dv LO hv hr hd Ba KG hF=>
  simp only[Ee,AV.own.injEq]at f;obtain⟨rfl,rfl,f⟩:=f
  right
  have g:rows.length=zs.length:=by have:=ABl List.length f;simpa[ints]using this
  simp only[AAY,AAd,Nat.mul_one]at Dv;have p:∀(i:Nat) (z:Int),zs[i]? =some z->∃d v,rows[i]? =some [d]/\d= .lf (.sc (.int .i64 z)) v/\v= .int .i64 z:=by
   intro i z n;have e:(rows.map (·.map DV.er))[i]? =some [AV.sc (.int .i64 z)]:=(by rw[f,gE,n];rfl);rw[AAb]at e;cases Iy:rows[i]? with
   |none=>simp[Iy]at e
   |some o=>
    simp only[Iy,AAw,AAQ]at e;obtain⟨d,rfl,l⟩:=ABa.1 e;clear e;have e:=l;clear l;have m:=hr i 0 [d] d Iy rfl;cases m with
    |lf a v _ ha hF=>rw[EU]at e;subst e;exact⟨_,v,rfl,rfl,ha.1⟩
    |nil=>simp at e
    |own=>simp at e
    |agg=>simp at e
    |BI=>simp at e
  refine⟨b,c,arr,E,by simp[JW,g],hb,Dv.1,by omega,LO,?_,?_⟩
  . intro i z n;obtain⟨d,v,e,rfl,rfl⟩:=p i z n
    have:=hv i 0 _ _ e rfl;simpa using this
  . intro x;rw[hF x];constructor
    . rintro(h|⟨i,j,h⟩)
      . exact h
      . obtain⟨o,d,e,l⟩:=Ba i j x h;have hi:i<zs.length:=(by rw[← g];exact(AAS.1 e).1);obtain⟨s,v,q,rfl,_⟩:=p i zs[i] (AAV hi);rw[e]at q;obtain rfl:=AAU q;have r:j=0:=(by have:=(AAS.1 l).1;simp at this;exact this);subst r;simp only[AA7,AAQ]at l;subst l;have m:=hr i 0 _ _ e rfl;cases m with
        |lf _ _ _ _ XA=>exact absurd h (XA x)
    . exact .inl
theorem V7 {b c:Nat} {arr:Array Value} {E:TypeId} {zs:List Int} (n:w.heap[b]? =some (.cells arr E (0,0))) (o:c=arr.size) (r:zs.length≤c) (m:¬S b) (q:∀(i:Nat) (z:Int),zs[i]? =some z->arr[i]? =some (.int .i64 z)):
 ∃d,d.er= .own false 1 (ints zs)/\d.Aw= .slice (some ⟨b,0,none⟩) zs.length c/\Ok w S d (λx=>x=b):=by
 have g:∀(i j:Nat) a d,(zs.map λz=>[DV.lf (.sc (.int .i64 z)) (.int .i64 z)])[i]? =some a->a[j]? =some d->∃z,zs[i]? =some z/\j=0/\d= .lf (.sc (.int .i64 z)) (.int .i64 z):=by
  intro i j a d e f;rw[AAb]at e;cases hi:zs[i]? with
  |none=>simp[hi]at e
  |some z=>simp only[hi,AAw,AAQ]at e;subst e;have p:j=0:=(by have:=(AAS.1 f).1;simp at this;exact this);subst p;simp only[AA7,AAQ]at f;exact⟨z,rfl,rfl,f.symm⟩
 have l:=Ok.own (w:=w) (S:=S) false 1 (zs.map λz=>[DV.lf (.sc (.int .i64 z)) (.int .i64 z)]) b c arr E (λ_ _ _=>False) (λx=>x=b) n (by simp) (by simp[o];omega) m
  (by intro i j a d e f;obtain⟨z,k,rfl,rfl⟩:=g i j a d e f;simpa using q i z k)
  (by intro i j a d e f;obtain⟨z,k,rfl,rfl⟩:=g i j a d e f;exact .lf _ _ _ ⟨rfl,rfl⟩ (λ_ h=>h))
  (λ_ _ _ _ _ h=>h.elim) (λ_ _ _ h=>h.elim) (λ_ _ h=>h) (λx=>by simp)
 exact⟨_,by simp[ints],by simp[JW],l⟩
theorem RJ {b:Nat} {arr:Array Value} {E:TypeId} {zs:List Int} (c:w.heap[b]? =some (.cells arr E (0,0))) (e:∀(i:Nat) (z:Int),zs[i]? =some z->arr[i]? =some (.int .i64 z)):Holds (Value.int .i64) w b 0 zs.toArray:=by
 intro j d;have a:j<zs.length:=by simpa using d
 refine⟨?_,by simp[World.frozen?,c]⟩
 have:=e j zs[j] (AAV a);simp only[World.cell?,c,ABX];simp[this,a]
theorem XE {g n:Nat} {os:Array Obj} {a:Array Value} {e:TypeId} {b:Nat×Nat} (d:Array Int) (c:w.heap[g]? =some (.cells a e b)):
 (grow (putRow (Value.int .i64) (Sort.ahead w n) g 0 d) os).heap[g]? =some (.cells (putCells (Value.int .i64) 0 d a) e b):=by
 have f:g<w.heap.size:=(AA5.1 c).1;rw[heap_grow_old _ _ (by simpa using f)];simp[putRow,mapBlock,Sort.ahead,Array.getElem?_modify,c,onCells]
theorem bY {g n:Nat} {os:Array Obj} (d:Array Int) {F:Nat->Prop} (b:F g):Ext w (grow (putRow (Value.int .i64) (Sort.ahead w n) g 0 d) os) F:=by refine⟨rfl,rfl,rfl,by simp,λk c a=> ?_⟩;rw[heap_grow_old _ _ (by simpa using c)];have:g≠k:=λe=>a (e▸b);simp[putRow,mapBlock,Sort.ahead,Array.getElem?_modify,this]
theorem nR {a:Array Value} (b:List Int) (h:b.length≤a.size):∀(i:Nat) (z:Int),b[i]? =some z->(putCells (Value.int .i64) 0 b.toArray a)[i]? =some (.int .i64 z):=by intro i z c;obtain⟨hi,rfl⟩:=AAS.1 c;simp[putCells,hi,show i<a.size by omega]
theorem oB {f:Nat}
 (a:∀(k off cap:Nat) (zs:List Int) (w:World),Holds (Value.int .i64) w k off zs.toArray->k<w.heap.size->zs.length<4611686018427387904->
  Calls P f #[.slice (some ⟨k,off,none⟩) zs.length cap] w λe w'=>e= .returned (.tuple #[])/\∃n os,w'=grow (putRow (Value.int .i64) (Sort.ahead w n) k off (zs.mergeSort λx y=>decide (x≤y)).toArray) os)
 (J:∀(p:ABr Addr) (cap:Nat) (w:World),Calls P f #[.slice p 0 cap] w λe w'=>e= .returned (.tuple #[])/\w'=w)
 (zs:List Int) (L:zs.length<4611686018427387904):A8 P f [.own false 1 (ints zs)] (.BI []) [.own false 1 (ints (zs.mergeSort λx y=>decide (x≤y)))]:=by
 intro w S ds F _ j z v;obtain⟨d,rfl,G⟩:=ABa.1 j;replace j:=G;obtain⟨o,B,r,s,_,t⟩:=A5.1 z;have u:∀x,F x↔o x:=λx=>by rw[t x];exact⟨λh=>h.elim id λh=>absurd h (s x),.inl⟩
 rcases Xi r j with⟨l,rfl,C⟩|⟨b,c,arr,E,l,m,K,H,D,M,q⟩
 . simp only[AAi,AA1,l];refine(J none 0 w).mono ?_;rintro e w' ⟨rfl,rfl⟩;refine⟨.BI [],[d],S,F,by simp,by simp,by simpa using j,by simp[l],?_,⟨rfl,rfl,rfl,AAv _,λ_ _ _=>rfl⟩,λ_ h=>h,λ_ h=>.inl h,v,λ_ h=>.inl h⟩;exact A5.2 ⟨λ_=>False,F,A5.2 (λ_ h=>h),⟨o,B,r,s,λx i=>absurd i (C x),t⟩,λ_ h=>h.elim,λx=>by simp⟩
 . simp only[AAi,AA1,l];refine(a b 0 c zs w (RJ m M) (AA5.1 m).1 L).mono ?_;rintro e w' ⟨rfl,n,os,rfl⟩;have g:(zs.mergeSort λx y=>decide (x≤y)).length=zs.length:=(by simp);obtain⟨I,N,O,Q⟩:=V7 (S:=S) (c:=c) (XE (n:=n) (os:=os) (zs.mergeSort λx y=>decide (x≤y)).toArray m) (by simp[putCells,K]) (by rw[g];exact H) D (nR _ (by rw[g];omega));refine⟨.BI [],[I],S,λx=>x=b,by simp,by simp,by simp[N],by simp[O],?_,bY _ ((u b).2 ((q b).2 rfl)),λ_ h=>h,λ_ h=>.inl h,λx i=> ?_,λx i=>.inl ((u x).2 ((q x).2 i))⟩
   . exact A5.2 ⟨λ_=>False,λx=>x=b,A5.2 (λ_ h=>h),⟨_,λ_=>False,Q,λ_ h=>h,λ_ _ h=>h,λx=>by simp⟩,λ_ h=>h.elim,λx=>by simp⟩
   . have:=v x i;simp;omega
theorem Yr {f:Nat}
 (a:∀(o off cap:Nat) (zs:List Int) (w:World),Holds (Value.int .i64) w o off zs.toArray->zs.length≤9223372036854775807->zs.length≤cap->
  Calls P f #[.slice (some ⟨o,off,none⟩) zs.length cap] w λe w'=>e= .returned (.slice (some ⟨o,off,none⟩) (Lib.compact zs).length cap)/\∃q,w'=putRow (Value.int .i64) (Sort.ahead w q) o off (Lib.compact zs++List.replicate (zs.length-(Lib.compact zs).length) 0).toArray)
 (M:∀(p:ABr Addr) (cap:Nat) (w:World),Calls P f #[.slice p 0 cap] w λe w'=>e= .returned (.slice p 0 cap)/\w'=w)
 (zs:List Int) (hl:zs.length<4611686018427387904) (R:(Lib.compact zs).length≤zs.length) (l:Lib.compact ([]:List Int)=[]):A8 P f [.own false 1 (ints zs)] (.own false 1 (ints (Lib.compact zs))) [.dead]:=by
 intro w S ds F _ m G y;obtain⟨d,rfl,J⟩:=ABa.1 m;replace m:=J;obtain⟨r,X,v,N,_,O⟩:=A5.1 G;have s:∀x,F x↔r x:=λx=>by rw[O x];exact⟨λh=>h.elim id λh=>absurd h (N x),.inl⟩
 have t:∀w',JS w' S [DV.lf .dead d.Aw] (λ_=>False):=λw'=>B4 λx k=>by simp at k;subst k;exact .lf _ _ _ trivial (λ_ h=>h)
 rcases Xi v m with⟨j,rfl,Z⟩|⟨b,c,arr,E,j,B,Q,K,I,T,u⟩
 . simp only[AAi,AA1,j];refine(M none 0 w).mono ?_;rintro e w' ⟨rfl,rfl⟩;refine⟨d,[.lf .dead d.Aw],S,r,by rw[j],by rw[m,l],by simp,by simp[j],?_,⟨rfl,rfl,rfl,AAv _,λ_ _ _=>rfl⟩,λ_ h=>h,λ_ h=>.inl h,y,λx h=>.inl ((s x).2 h)⟩;exact A5.2 ⟨r,λ_=>False,v,t _,λ_ _ h=>h,λx=>by simp⟩
 . simp only[AAi,AA1,j];refine(a b 0 c zs w (RJ B T) (by omega) K).mono ?_;rintro e w' ⟨rfl,n,rfl⟩;have H:(Lib.compact zs++List.replicate (zs.length-(Lib.compact zs).length) (0:Int)).length=zs.length:=(by simp;omega);have D:=XE (n:=n) (os:= #[]) (Lib.compact zs++List.replicate (zs.length-(Lib.compact zs).length) 0).toArray B;have C:=bY (w:=w) (n:=n) (os:= #[]) (g:=b) (F:=F) (Lib.compact zs++List.replicate (zs.length-(Lib.compact zs).length) 0).toArray ((s b).2 ((u b).2 rfl));rw[grow_empty]at D C;obtain⟨L,U,V,W⟩:=V7 (S:=S) (c:=c) (zs:=Lib.compact zs) D (by simp[putCells,Q]) (by omega) I (λi z hi=>nR (Lib.compact zs++List.replicate (zs.length-(Lib.compact zs).length) 0) (by rw[H];omega) i z (by rw[AAr (AAS.1 hi).1];exact hi));refine⟨L,[.lf .dead d.Aw],S,λx=>x=b,by rw[V],U,by simp,by simp[j],?_,C,λ_ h=>h,λ_ h=>.inl h,λx k=> ?_,λx k=>.inl ((s x).2 ((u x).2 k))⟩
   . exact A5.2 ⟨_,λ_=>False,W,t _,λ_ _ h=>h,λx=>by simp⟩
   . have:=y x k;simpa using this
end Go.Abs
namespace Go.Abs
open Go.Sort
variable {w w':World} {S S':Nat->Prop} {P:Program}
theorem fz_ints {e:Bool} {zs:List Int} {v:Value} (h:Fz w S (.sl e 1 (ints zs)) v):
 (∃a c,v= .slice a 0 c/\zs=[])∨∃b off c,v= .slice (some ⟨b,off,none⟩) zs.length c/\S b/\∀(i:Nat) (z:Int),zs[i]? =some z->w.cell? ⟨b,off+i,none⟩=some (.int .i64 z):=by
 generalize j:ints zs=rows at h;cases h with
 |nil x k a c hx=>
  left
  refine⟨a,c,rfl,?_⟩
  have:=ABl List.length j;simpa[ints]using this
 |sl x k rows b off c vs hx QS hS hk hc hf=>
  right
  subst j;refine⟨b,off,c,by rw[gF],hS,?_⟩;intro i z l;have d:(ints zs)[i]? =some [AV.sc (.int .i64 z)]:=by rw[gE,l];rfl
  have f:=hc i 0 _ _ d rfl;have g:=hf i 0 _ _ d rfl;generalize m:vs i 0=u at f g;cases g with
  |sc _ hp=>simpa using f
theorem getD_of {zs:List Int} {f:Nat->ABr Value} (h:∀(i:Nat) (z:Int),zs[i]? =some z->f i=some (.int .i64 z)):∀j,j<zs.length->f j=some (.int .i64 (zs.getD j 0)):=by intro j a;rw[h j zs[j] (AAV a)];simp[a]
theorem zX (w:World) (q:Nat) (F:Nat->Prop):Ext w (w.drewN q) F:=⟨rfl,rfl,rfl,AAv _,λ_ _ _=>rfl⟩
theorem bO {f:Nat}
 (D:∀(b off n c:Nat) (zs:List Int) (x:Int) (w:World),n≤zs.length->n<4611686018427387904->(∀j,j<zs.length->w.cell? ⟨b,off+j,none⟩=some (.int .i64 (zs.getD j 0)))->(zs.take n).Pairwise (· ≤ ·)->
  Calls P f #[.slice (some ⟨b,off,none⟩) n c,.int .i64 x] w λe w'=>e= .returned (.tuple #[.int .i64 ((zs.take n).countP (· <x):Nat),.bool ((zs.take n).contains x)])/\∃q,w'=w.drewN q)
 (G:∀(a:ABr Addr) (c:Nat) (x:Int) (w:World),Calls P f #[.slice a 0 c,.int .i64 x] w λe w'=>e= .returned (.tuple #[.int .i64 0,.bool false])/\w'=w)
 (zs:List Int) (x:Int) (H:zs.length<4611686018427387904) (I:zs.Pairwise (· ≤ ·)):
 Says P f [.sl false 1 (ints zs),.sc (.int .i64 x)] (.BI [.sc (.int .i64 (zs.countP (· <x):Nat)),.sc (.bool (zs.contains x))]):=by
 intro w S ds F _ u t C;obtain⟨d1,O,rfl,i,g⟩:=List.map_eq_cons_iff.1 u;obtain⟨o,rfl,B⟩:=ABa.1 g;replace g:=B;obtain⟨J,K,y,g2,_,N⟩:=A5.1 t;obtain⟨L,M,z,_,_,_⟩:=g2;have p:Fz w S (.sl false 1 (ints zs)) d1.Aw:=by
  cases y with
  |lf a v _ ha hF=>rw[EU]at i;subst i;rw[KP];exact ha
  |nil=>simp at i
  |own=>simp at i
  |agg=>simp at i
  |BI=>simp at i
 have m:o.Aw= .int .i64 x:=by
  cases z with
  |lf a v _ ha hF=>rw[EU]at g;subst g;simpa using ha.1
  |nil=>simp at g
  |own=>simp at g
  |agg=>simp at g
  |BI=>simp at g
 have k:∀q,∀e,e=Ending.returned (.tuple #[.int .i64 (zs.countP (· <x):Nat),.bool (zs.contains x)])->∃(r:DV) (os:List DV) (S' s:Nat->Prop),e= .returned r.Aw/\r.er= .BI [.sc (.int .i64 (zs.countP (· <x):Nat)),.sc (.bool (zs.contains x))]/\os.map DV.er=[.dead,.dead]/\os.map DV.Aw=[d1,o].map DV.Aw/\
  Ok (w.drewN q) S' (.BI (r::os)) s/\Ext w (w.drewN q) F/\(∀b,S b->S' b)/\(∀b,S' b->S b∨F b∨w.heap.size≤b)/\(∀b,S' b->b<(w.drewN q).heap.size)/\(∀x,s x->F x∨w.heap.size≤x):=by
  rintro q e rfl;refine⟨.BI [.lf (.sc (.int .i64 (zs.countP (· <x):Nat))) (.int .i64 (zs.countP (· <x):Nat)),.lf (.sc (.bool (zs.contains x))) (.bool (zs.contains x))],[.lf .dead d1.Aw,.lf .dead o.Aw],S,λ_=>False,by simp,by simp,by simp,by simp,?_,zX w q F,λ_ h=>h,λ_ h=>.inl h,C,λ_ h=>h.elim⟩;refine A5.2 ⟨λ_=>False,λ_=>False,A5.2 (B4 ?_),B4 ?_,λ_ h=>h.elim,λx=>by simp⟩
  . intro d hd;simp only[AAp,ABG,ABD]at hd;rcases hd with rfl|rfl
    . exact .lf _ _ _ ⟨rfl,rfl⟩ (λ_ h=>h)
    . exact .lf _ _ _ ⟨rfl,rfl⟩ (λ_ h=>h)
  . intro d hd;simp only[AAp,ABG,ABD]at hd;rcases hd with rfl|rfl
    . exact .lf _ _ _ trivial (λ_ h=>h)
    . exact .lf _ _ _ trivial (λ_ h=>h)
 rcases fz_ints p with⟨a,c,l,rfl⟩|⟨b,off,c,l,_,E⟩
 . simp only[AAi,AA1,l,m];refine(G a c x w).mono ?_;rintro e w' ⟨rfl,rfl⟩
   have:=k 0 _ rfl;simpa[World.drewN,l,m]using this
 . simp only[AAi,AA1,l,m];refine(D b off zs.length c zs x w (AAv _) H (getD_of E) (by rw[List.take_length];exact I)).mono ?_;rintro e w' ⟨rfl,q,rfl⟩;rw[List.take_length]
   have:=k q _ rfl;simpa only[AAi,AA1,l,m]using this
theorem tK {f:Nat} {E:TypeId} (H:∀(n:Nat) (w:World),0<n->n*8≤140737488355328->Calls P f #[.slice none 0 0,.int .i64 n] w λe w'=>∃(c:Nat) (arr:Array Value),arr.size=c/\e= .returned (.slice (some ⟨w.heap.size,0,none⟩) 0 c)/\w'=w.drew.alloc (.cells arr E))
 (C:∀w:World,Calls P f #[.slice none 0 0,.int .i64 0] w λe w'=>e= .returned (.slice none 0 0)/\w'=w)
 (n:Nat) (hn:n*8≤140737488355328):Says P f [.sc (.slice none 0 0),.sc (.int .i64 n)] (.own false 1 []):=by
 intro w S ds F _ s r o;obtain⟨d1,V,rfl,D,m⟩:=List.map_eq_cons_iff.1 s;obtain⟨j,rfl,G⟩:=ABa.1 m;replace m:=G;obtain⟨O,Q,z,g2,_,U⟩:=A5.1 r;obtain⟨R,T,B,_,_,_⟩:=g2;have sc:∀{d:DV} {F:Nat->Prop} {u:Value},Ok w S d F->d.er= .sc u->d.Aw=u:=by
  intro d F u hd g;cases hd with
  |lf a v _ ha hF=>rw[EU]at g;subst g;simpa using ha.1
  |nil=>simp at g
  |own=>simp at g
  |agg=>simp at g
  |BI=>simp at g
 have b:=sc z D;have l:=sc B m;have p:∀w',JS w' S [DV.lf .dead d1.Aw,DV.lf .dead j.Aw] (λ_=>False):=λw'=>B4 λd hd=>by
  simp only[AAp,ABG,ABD]at hd;rcases hd with rfl|rfl
  . exact .lf _ _ _ trivial (λ_ h=>h)
  . exact .lf _ _ _ trivial (λ_ h=>h)
 simp only[AAi,AA1,b,l];rcases Nat.eq_zero_or_pos n with rfl|K
 . refine(C w).mono ?_;rintro e w' ⟨rfl,rfl⟩;refine⟨.own (.slice none 0 0) false 1 [],[.lf .dead d1.Aw,.lf .dead j.Aw],S,λ_=>False,by simp,by simp,by simp,by simp[b,l],?_,⟨rfl,rfl,rfl,AAv _,λ_ _ _=>rfl⟩,λ_ h=>h,λ_ h=>.inl h,o,λ_ h=>h.elim⟩;exact A5.2 ⟨λ_=>False,λ_=>False,.nil _ _ (λ_ h=>h),p _,λ_ h=>h.elim,λx=>by simp⟩
 . refine(H n w K hn).mono ?_;rintro e w' ⟨c,arr,t,rfl,rfl⟩;have i:(w.drew.alloc (.cells arr E)).heap=w.heap.push (.cells arr E):=rfl;have I:(w.drew.alloc (.cells arr E)).heap[w.heap.size]? =some (.cells arr E (0,0)):=(by rw[i];simp);obtain⟨y,L,M,N⟩:=V7 (S:=S) (c:=c) (zs:=[]) I t.symm (by simp) (λh=>by have:=o _ h;omega) (by simp);refine⟨y,[.lf .dead d1.Aw,.lf .dead j.Aw],S,λx=>x=w.heap.size,by rw[M];rfl,by rw[L];rfl,by simp,by simp[b,l],?_,⟨rfl,rfl,rfl,by rw[i];simp,λk J _=> ?_⟩,λ_ h=>h,λ_ h=>.inl h,λx q=> ?_,λx q=>.inr (by omega)⟩
   . exact A5.2 ⟨_,λ_=>False,N,p _,λ_ _ h=>h,λx=>by simp⟩
   . rw[i];simp[Array.getElem?_push,Nat.ne_of_lt J]
   . have:=o x q;rw[i];simp;omega
end Go.Abs
namespace Go.Abs
variable {P:Program} {G:Gi}
abbrev si (n:Int):AV:=.sc (.int .i64 n)
abbrev sb (b:Bool):AV:=.sc (.bool b)
def resIs (x:ABr (List AV×Sg)) (res:AV):Prop:=match x with
 |some (vs,_)=>one vs=res
 |none=>False
theorem nU (vs:List AV) (τ:Sg) (a:AV):resIs (some (vs,τ)) a=(one vs=a):=(rfl)
theorem xM (G:Gi) (rs:List RV) (a:AV) (σ:Sg):Ends G rs a .ret σ=resIs (Fp G rs σ) a:=by
 unfold Ends resIs;cases Fp G rs σ with
 |none=>simp
 |some x=>obtain⟨vs,τ⟩:=x;simp
theorem one_one (v:AV):one [v]=v:=(rfl)
theorem one_two (v u:AV) (l:List AV):one (v::u::l)= .BI (v::u::l):=(rfl)
end Go.Abs
namespace Go.Abs
variable {P:Program} {G:Gi}
theorem uK (d:Nat) (σ:Sg):JZ [] d σ=σ:=(rfl)
theorem uG (G:Gi) (n d:Nat) (σ:Sg) (s:Nat):FU G n d σ s=if s∈G.OB d then E1 n d (σ s)else σ s:=(rfl)
theorem killS_at (G:Gi) (d:Nat) (σ:Sg) (s:Nat):JY G d σ s=if s∈G.OB d then DX d (σ s)else σ s:=(rfl)
theorem start_at (args:List AV) (s:Nat):start args s=args.getD s .un:=(rfl)
def bK (x:ABr Sg) (K:Sg->Prop):Prop:=match x with
 |some τ=>K τ
 |none=>False
theorem bK_some (τ:Sg) (K:Sg->Prop):bK (some τ) K=K τ:=(rfl)
theorem bK_none (K:Sg->Prop):bK none K=False:=(rfl)
theorem awp_apd (f:wK) (ops:List BJ) (Q:Exit->Sg->Prop) (σ:Sg):Hi P G (.apd f ops) Q σ=OC P G f 0 ops (Ko P G ⟨none,.st 1 (.t f.ap) (.t f.s),none⟩ (Q .normal)) σ:=(rfl)
theorem rL (f:wK) (m:Nat) (K:Sg->Prop) (σ:Sg):OC P G f m [] K σ=bK (if u6 f m σ=true then some σ else none) K:=by by_cases h:u6 f m σ=true<;>simp[OC,bK,h]
theorem lC (f:wK) (m:Nat) (o:BJ) (os:List BJ) (K:Sg->Prop) (σ:Sg):OC P G f m (o::os) K σ=bK (if u6 f m σ=true then some σ else none) (Ko P G o (OC P G f (m+1) os K)):=by by_cases h:u6 f m σ=true<;>simp[OC,bK,h]
theorem yT (d:ABr Dk) (x:Ar) (g:ABr (Nat×Bool)) (K:Sg->Prop) (σ:Sg):EA P G ⟨d,.std x,g⟩ K σ=bK (GU G (.std x) d σ) K:=(rfl)
theorem awp_pg (P:Program) (G:Gi) (c:Bool) (r:Nat) (p:List Step) (a:IC) (Q:Exit->Sg->Prop) (σ:Sg):Hi P G (.pg c r p a) Q σ=Hi P G a (pgQ G c r p Q) σ:=(rfl)
theorem nP (G:Gi) (c:Bool) (r:Nat) (p:List Step) (Q:Exit->Sg->Prop) (σ:Sg):pgQ G c r p Q .normal σ=bK (gzS G c r p σ) (Q .normal):=(rfl)
theorem awp_gz (P:Program) (G:Gi) (c:Bool) (r:Nat) (p:List Step) (a:IC) (Q:Exit->Sg->Prop) (σ:Sg):Hi P G (.gz c r p a) Q σ=bK (gzS G c r p σ) (Hi P G a Q):=(rfl)
def SQ (x:AV) (a b:Sg->Prop) (σ:Sg):Prop:=match x with
 | .sc (.bool x)=>if x=true then a σ else b σ
 |_=>False
theorem o7 (a b:Sg->Prop) (σ:Sg):SQ (.sc (.bool true)) a b σ=a σ:=by simp[SQ]
theorem o6 (a b:Sg->Prop) (σ:Sg):SQ (.sc (.bool false)) a b σ=b σ:=by simp[SQ]
theorem sA (P:Program) (G:Gi) (c:Ar) (a b:IC) (Q:Exit->Sg->Prop) (σ:Sg):Hi P G (.cond c a b) Q σ=SQ (ar σ c) (Hi P G a Q) (Hi P G b Q) σ:=(rfl)
def skipK (d:ABr Dk) (K:Sg->Prop) (σ:Sg):Prop:=match d with
 |some d=>K (DR (JZ d.kl d.d σ) d.d .un)
 |none=>K σ
theorem skipK_s (d:Dk) (K:Sg->Prop) (σ:Sg):skipK (some d) K σ=K (DR (JZ d.kl d.d σ) d.d .un):=(rfl)
theorem skipK_n (K:Sg->Prop) (σ:Sg):skipK none K σ=K σ:=(rfl)
def gK (x:AV) (want:Bool) (a b:Sg->Prop) (σ:Sg):Prop:=match x with
 | .sc (.bool x)=>if x=want then a σ else b σ
 | .un=>b σ
 |_=>False
theorem gK_tt (a b:Sg->Prop) (σ:Sg):gK (.sc (.bool true)) true a b σ=a σ:=by simp[gK]
theorem gK_tf (a b:Sg->Prop) (σ:Sg):gK (.sc (.bool true)) false a b σ=b σ:=by simp[gK]
theorem gK_ft (a b:Sg->Prop) (σ:Sg):gK (.sc (.bool false)) true a b σ=b σ:=by simp[gK]
theorem gK_ff (a b:Sg->Prop) (σ:Sg):gK (.sc (.bool false)) false a b σ=a σ:=by simp[gK]
theorem gK_un (c:Bool) (a b:Sg->Prop) (σ:Sg):gK .un c a b σ=b σ:=(rfl)
theorem aop_n (d:ABr Dk) (op:Yb) (K:Sg->Prop) (σ:Sg):Ko P G ⟨d,op,none⟩ K σ=EA P G ⟨d,op,none⟩ K σ:=(rfl)
theorem aop_g (d:ABr Dk) (op:Yb) (g:Nat) (a:Bool) (K:Sg->Prop) (σ:Sg):Ko P G ⟨d,op,some (g,a)⟩ K σ=gK (σ g) a (EA P G ⟨d,op,some (g,a)⟩ K) (skipK d K) σ:=(rfl)
theorem awp_flc (a:List (Nat×Nat×Nat×Nat)) (ops:List BJ) (Q:Exit->Sg->Prop) (σ:Sg):Hi P G (.dS a ops) Q σ=Nb P G ops (Q .normal) σ:=(rfl)
theorem awp_flo (f:wN) (a b:List BJ) (Q:Exit->Sg->Prop) (σ:Sg):Hi P G (.flo f a b) Q σ=Ql P G f a (Nb P G b (Q .normal)) σ:=(rfl)
theorem rK (f:wN) (K:Sg->Prop) (σ:Sg):Ql P G f [] K σ=K σ:=(rfl)
theorem lB (f:wN) (o:BJ) (os:List BJ) (K:Sg->Prop) (σ:Sg):Ql P G f (o::os) K σ=bK (if cG f.kb f.off (σ f.r)=true then some σ else none) (Ko P G o (Ql P G f os K)):=by
 show(_/\_)=_;by_cases h:cG f.kb f.off (σ f.r)=true
 . simp[h,bK]
 . simp[h,bK]
theorem x8 (K:Sg->Prop) (σ:Sg):Nb P G [] K σ=K σ:=(rfl)
theorem rM (o:BJ) (os:List BJ) (K:Sg->Prop) (σ:Sg):Nb P G (o::os) K σ=Ko P G o (Nb P G os K) σ:=(rfl)
theorem toDst_s (d:Dk) (v:AV) (K:Sg->Prop) (τ:Sg):Ct (some d) v K τ=bK (wr d v τ) K:=(rfl)
theorem toDst_n (v:AV) (K:Sg->Prop) (τ:Sg):Ct none v K τ=K τ:=(rfl)
def resK (x:ABr AV) (d:ABr Dk) (K:Sg->Prop) (τ:Sg):Prop:=match x with
 |some v=>Ct d v K τ
 |none=>False
theorem vJ (v:AV) (d:ABr Dk) (K:Sg->Prop) (τ:Sg):resK (some v) d K τ=Ct d v K τ:=(rfl)
def callK (P:Program) (x:ABr (List AV×Sg)) (f m:Nat) (d:ABr Dk) (K:Sg->Prop):Prop:=match x with
 |some (F9,τ)=>∃res,Says P f F9 res/\resK (UU m res) d K τ
 |none=>False
theorem lO (b:List AV) (τ:Sg) (f m:Nat) (d:ABr Dk) (K:Sg->Prop):callK P (some (b,τ)) f m d K=∃a,Says P f b a/\resK (UU m a) d K τ:=(rfl)
theorem rQ (d:ABr Dk) (f:Nat) (args:List Ar) (m:Nat) (g:ABr (Nat×Bool)) (K:Sg->Prop) (σ:Sg):EA P G ⟨d,.call f args m,g⟩ K σ=callK P (GR G m args σ) f m d K:=(rfl)
theorem axs_nil (K:Sg->Prop) (σ:Sg):MB P G [] K σ=K σ:=(rfl)
theorem axs_o (o:BJ) (a:List jZ) (K:Sg->Prop) (σ:Sg):MB P G (.o o::a) K σ=Ko P G o (MB P G a K) σ:=(rfl)
def nilK (x:ABr (AV×ABr (Nat×List Step))) (d:Dk) (neg:Bool) (K:Sg->Prop) (σ:Sg):Prop:=match x with
 |some (a,_)=>(match rowsOf a with
  |some rows=>∀b:Bool,(b=true->rows=[])->Ct (some d) (.sc (.bool (if neg=true then !b else b))) K σ
  |none=>False)
 |none=>False
theorem nilK_sl (e:Bool) (k:Nat) (rows:List (List AV)) (c:ABr (Nat×List Step)) (d:Dk) (a:Bool) (K:Sg->Prop) (σ:Sg):nilK (some (.sl e k rows,c)) d a K σ=∀b:Bool,(b=true->rows=[])->Ct (some d) (.sc (.bool (if a=true then !b else b))) K σ:=(rfl)
theorem yZ (d:Dk) (a:Bool) (x:Ar) (b:List jZ) (K:Sg->Prop) (σ:Sg):MB P G (.cL d a x::b) K σ=nilK (hd σ x) d a (MB P G b K) σ:=(rfl)
def gldK (x:ABr (List Value)) (d:Dk) (K:Sg->Prop) (σ:Sg):Prop:=match x with
 |some cs=>Ct (some d) (.agg (cs.map .sc)) K σ
 |none=>False
theorem tH (a:List Value) (d:Dk) (K:Sg->Prop) (σ:Sg):gldK (some a) d K σ=Ct (some d) (.agg (a.map .sc)) K σ:=(rfl)
theorem axs_gld (d:Dk) (g n:Nat) (a:List jZ) (K:Sg->Prop) (σ:Sg):MB P G (.gld d g n::a) K σ=gldK (fP g n) d (MB P G a K) σ:=(rfl)
def bxvK (x:AV) (d:Dk) (n s:Nat) (K:Sg->Prop) (σ:Sg):Prop:=match x with
 | .agg cs=>cs.length=n/\∀us:List Value,us.length=n->Ct (some d) (.vb s 0 us) K σ
 |_=>False
theorem zF (a:List AV) (d:Dk) (n s:Nat) (K:Sg->Prop) (σ:Sg):bxvK (.agg a) d n s K σ=(a.length=n/\∀b:List Value,b.length=n->Ct (some d) (.vb s 0 b) K σ):=(rfl)
theorem axs_bxv (d:Dk) (n s:Nat) (a:List jZ) (K:Sg->Prop) (σ:Sg):MB P G (.bxv d n s::a) K σ=bxvK (σ s) d n s (MB P G a K) σ:=(rfl)
theorem yR (d:ABr Dk) (f:Nat) (a:List Ar) (g:ABr (Nat×Bool)) (K:Sg->Prop) (σ:Sg):EA P G ⟨d,.mkf f a,g⟩ K σ=bK (GU G (.mkf f a) d σ) K:=(rfl)
def lndK (P:Program) (G:Gi) (x:ABr (Nat×List Step)) (F9 bs:ABr (List AV)) (a:AV->AV) (c:ABr Nat) (f:Nat) (d:ABr Dk) (K:Sg->Prop) (σ:Sg):Prop:=match x,F9,bs with
 |some (r,p),some F9,some bs=>(match sub (σ r) p with
  |some (.own b k rows)=>∃res out o,A8 P f (F9++a (.own b k rows)::bs) res ((F9.map λ_=>.dead)++out::bs.map λ_=>.dead)/\SF c out=some o/\IG o=true/\clean res=true/\(match put (σ r) p o with
   |some t=>Ct d res K (DR (FU G (Ss o b k p) r σ) r t)
   |none=>False)
  |_=>False)
 |_,_,_=>False
theorem yQ (d:ABr Dk) (f:Nat) (b:List Ar) (x:Ar) (c:ABr Nat) (a:List Ar) (g:ABr (Nat×Bool)) (K:Sg->Prop) (σ:Sg):EA P G ⟨d,.Up f b x c a,g⟩ K σ=lndK P G (PY σ x c) (Mz σ b) (Mz σ a) (Sr σ x c) c f d K σ:=(rfl)
theorem arun_cp (d:ABr Dk) (x:Ar) (g:ABr (Nat×Bool)) (K:Sg->Prop) (σ:Sg):EA P G ⟨d,.cp x,g⟩ K σ=bK (GU G (.cp x) d σ) K:=(rfl)
theorem arun_mv (d:ABr Dk) (x:Ar) (g:ABr (Nat×Bool)) (K:Sg->Prop) (σ:Sg):EA P G ⟨d,.mv x,g⟩ K σ=bK (GU G (.mv x) d σ) K:=(rfl)
theorem rT (d:ABr Dk) (c:Ar) (a:Ar) (b:Ar) (g:ABr (Nat×Bool)) (K:Sg->Prop) (σ:Sg):EA P G ⟨d,.pick c a b,g⟩ K σ=bK (GU G (.pick c a b) d σ) K:=(rfl)
theorem arun_bx (d:ABr Dk) (n:Nat) (x:Ar) (g:ABr (Nat×Bool)) (K:Sg->Prop) (σ:Sg):EA P G ⟨d,.bx n x,g⟩ K σ=bK (GU G (.bx n x) d σ) K:=(rfl)
theorem yG (d:ABr Dk) (z:List AV) (a:List (Nat×Nat×Ar)) (g:ABr (Nat×Bool)) (K:Sg->Prop) (σ:Sg):EA P G ⟨d,.T6 z a,g⟩ K σ=bK (GU G (.T6 z a) d σ) K:=(rfl)
theorem yH (d:ABr Dk) (n:Nat) (z:List (List AV)) (a:List (Nat×Ar)) (g:ABr (Nat×Bool)) (K:Sg->Prop) (σ:Sg):EA P G ⟨d,.OD n z a,g⟩ K σ=bK (GU G (.OD n z a) d σ) K:=(rfl)
theorem arun_ld (d:ABr Dk) (ag:Bool) (n:Nat) (x:Ar) (g:ABr (Nat×Bool)) (K:Sg->Prop) (σ:Sg):EA P G ⟨d,.ld ag n x,g⟩ K σ=bK (GU G (.ld ag n x) d σ) K:=(rfl)
theorem arun_st (d:ABr Dk) (n:Nat) (x:Ar) (y:Ar) (g:ABr (Nat×Bool)) (K:Sg->Prop) (σ:Sg):EA P G ⟨d,.st n x y,g⟩ K σ=bK (GU G (.st n x y) d σ) K:=(rfl)
theorem yK (d:ABr Dk) (n:Nat) (x:Ar) (g:ABr (Nat×Bool)) (K:Sg->Prop) (σ:Sg):EA P G ⟨d,.Uf n x,g⟩ K σ=bK (GU G (.Uf n x) d σ) K:=(rfl)
theorem yM (d:ABr Dk) (n:Nat) (x:Ar) (y:Ar) (g:ABr (Nat×Bool)) (K:Sg->Prop) (σ:Sg):EA P G ⟨d,.Yz n x y,g⟩ K σ=bK (GU G (.Yz n x y) d σ) K:=(rfl)
theorem yC (d:ABr Dk) (n:Nat) (m:Nat) (x:Ar) (y:Ar) (g:ABr (Nat×Bool)) (K:Sg->Prop) (σ:Sg):EA P G ⟨d,.aad n m x y,g⟩ K σ=bK (GU G (.aad n m x y) d σ) K:=(rfl)
theorem yN (d:ABr Dk) (ag:Bool) (n:Nat) (m:Nat) (x:Ar) (y:Ar) (g:ABr (Nat×Bool)) (K:Sg->Prop) (σ:Sg):EA P G ⟨d,.idx ag n m x y,g⟩ K σ=bK (GU G (.idx ag n m x y) d σ) K:=(rfl)
theorem yF (d:ABr Dk) (a:BinOp) (x:Ar) (y:Ar) (g:ABr (Nat×Bool)) (K:Sg->Prop) (σ:Sg):EA P G ⟨d,.bin a x y,g⟩ K σ=bK (GU G (.bin a x y) d σ) K:=(rfl)
theorem yE (d:ABr Dk) (ag:Bool) (x:Ar) (y:Ar) (g:ABr (Nat×Bool)) (K:Sg->Prop) (σ:Sg):EA P G ⟨d,.beq ag x y,g⟩ K σ=bK (GU G (.beq ag x y) d σ) K:=(rfl)
theorem arun_un (d:ABr Dk) (a:UnOp) (x:Ar) (g:ABr (Nat×Bool)) (K:Sg->Prop) (σ:Sg):EA P G ⟨d,.un a x,g⟩ K σ=bK (GU G (.un a x) d σ) K:=(rfl)
theorem yI (d:ABr Dk) (a:IntKind) (x:Ar) (g:ABr (Nat×Bool)) (K:Sg->Prop) (σ:Sg):EA P G ⟨d,.cvt a x,g⟩ K σ=bK (GU G (.cvt a x) d σ) K:=(rfl)
theorem yP (d:ABr Dk) (x:Ar) (g:ABr (Nat×Bool)) (K:Sg->Prop) (σ:Sg):EA P G ⟨d,.len x,g⟩ K σ=bK (GU G (.len x) d σ) K:=(rfl)
theorem rV (d:ABr Dk) (x y:Ar) (g:ABr (Nat×Bool)) (K:Sg->Prop) (σ:Sg):EA P G ⟨d,.jI x y,g⟩ K σ=bK (GU G (.jI x y) d σ) K:=(rfl)
theorem arun_mm (d:ABr Dk) (mx:Bool) (x y:Ar) (g:ABr (Nat×Bool)) (K:Sg->Prop) (σ:Sg):EA P G ⟨d,.mm mx x y,g⟩ K σ=bK (GU G (.mm mx x y) d σ) K:=(rfl)
theorem rU (d:ABr Dk) (a:Bool) (b:List Nat) (x y:Ar) (g:ABr (Nat×Bool)) (K:Sg->Prop) (σ:Sg):EA P G ⟨d,.jH a b x y,g⟩ K σ=bK (GU G (.jH a b x y) d σ) K:=(rfl)
theorem rW (d:ABr Dk) (x:Ar) (g:ABr (Nat×Bool)) (K:Sg->Prop) (σ:Sg):EA P G ⟨d,.ZN x,g⟩ K σ=bK (GU G (.ZN x) d σ) K:=(rfl)
theorem yD (d:ABr Dk) (n:Nat) (m:Nat) (x:Ar) (y:Ar) (g:ABr (Nat×Bool)) (K:Sg->Prop) (σ:Sg):EA P G ⟨d,.app n m x y,g⟩ K σ=bK (GU G (.app n m x y) d σ) K:=(rfl)
theorem yS (d:ABr Dk) (n:Nat) (ag:Bool) (x:Ar) (lo:ABr Ar) (hi:ABr Ar) (mx:ABr Ar) (g:ABr (Nat×Bool)) (K:Sg->Prop) (σ:Sg):EA P G ⟨d,.qZ n ag x lo hi mx,g⟩ K σ=bK (GU G (.qZ n ag x lo hi mx) d σ) K:=(rfl)
theorem yJ (d:ABr Dk) (x:Ar) (n:Nat) (g:ABr (Nat×Bool)) (K:Sg->Prop) (σ:Sg):EA P G ⟨d,.ext x n,g⟩ K σ=bK (GU G (.ext x n) d σ) K:=(rfl)
theorem arun_mk (d:ABr Dk) (n:Nat) (m:Nat) (z:List AV) (l:Ar) (c:Ar) (g:ABr (Nat×Bool)) (K:Sg->Prop) (σ:Sg):EA P G ⟨d,.mk n m z l c,g⟩ K σ=bK (GU G (.mk n m z l c) d σ) K:=(rfl)
theorem arun_fl (d:ABr Dk) (g:ABr (Nat×Bool)) (K:Sg->Prop) (σ:Sg):EA P G ⟨d,.fl,g⟩ K σ=bK (GU G .fl d σ) K:=(rfl)
theorem yL (d:ABr Dk) (x:Ar) (k:Nat) (g:ABr (Nat×Bool)) (K:Sg->Prop) (σ:Sg):EA P G ⟨d,.flk x k,g⟩ K σ=bK (GU G (.flk x k) d σ) K:=(rfl)
theorem rR (d:ABr Dk) (r off kb k:Nat) (i:Ar) (g:ABr (Nat×Bool)) (K:Sg->Prop) (σ:Sg):EA P G ⟨d,.gD r off kb k i,g⟩ K σ=bK (GU G (.gD r off kb k i) d σ) K:=(rfl)
theorem yO (d:ABr Dk) (x:Ar) (g:ABr (Nat×Bool)) (K:Sg->Prop) (σ:Sg):EA P G ⟨d,.XZ x,g⟩ K σ=bK (GU G (.XZ x) d σ) K:=(rfl)
theorem yU (d:ABr Dk) (x y:Ar) (g:ABr (Nat×Bool)) (K:Sg->Prop) (σ:Sg):EA P G ⟨d,.WC x y,g⟩ K σ=bK (GU G (.WC x y) d σ) K:=(rfl)
theorem rS (d:ABr Dk) (x:Ar) (g:ABr (Nat×Bool)) (K:Sg->Prop) (σ:Sg):EA P G ⟨d,.Hx x,g⟩ K σ=bK (GU G (.Hx x) d σ) K:=(rfl)
end Go.Abs
namespace Go.Abs
variable {w w':World} {S S':Nat->Prop} {G:Gi} {δ:Nat->DV} {Fr:Nat->Nat->Prop} {P:Program}
def oO (G:Gi) (rs:List RV) (res:AV) (e:Exit) (σ:Sg):Prop:=
 (match e with| .normal=>True| .ret=>True|_=>False)/\∃vs τ,Fp G rs σ=some (vs,τ)/\one (vs.map wS)=res
def nS (x:ABr (List AV×Sg)) (res:AV):Prop:=match x with
 |some (vs,_)=>one (vs.map wS)=res
 |none=>False
theorem iJ (vs:List AV) (τ:Sg) (a:AV):nS (some (vs,τ)) a=(one (vs.map wS)=a):=(rfl)
theorem rA (G:Gi) (rs:List RV) (a:AV) (σ:Sg):oO G rs a .ret σ=nS (Fp G rs σ) a:=by
 unfold oO nS;cases Fp G rs σ with
 |none=>simp
 |some x=>obtain⟨vs,τ⟩:=x;simp
theorem Zn (ds:List DV):∀{F:Nat->Prop},JS w S ds F->∃a:List DV,a.map DV.er=(ds.map DV.er).map wS/\a.map DV.Aw=ds.map DV.Aw/\JS w (λx=>S x∨F x) a (λ_=>False):=by
 induction ds with
 |nil=>intro F h;exact⟨[],rfl,rfl,λ_ h=>h⟩
 |cons d ds ih=>
  rintro F ⟨n,o,l,m,p,e⟩;obtain⟨D,i,j,k⟩:=fO l;obtain⟨a,d1,f,g⟩:=ih m;refine⟨D::a,by simp[i,d1],by simp[j,f],⟨λ_=>False,λ_=>False,?_,?_,λ_ h=>h.elim,λx=>by simp⟩⟩
  . exact k.mono (λ_ _=>rfl) (λ_ h=>h.elim) (λb c=>c.imp id λh=>(e b).2 (.inl h)) (λ_ h=>h.elim)
  . exact g.mono (λ_ _=>rfl) (λ_ h=>h.elim) (λb c=>c.imp id λh=>(e b).2 (.inr h)) (λ_ h=>h.elim)
theorem S7 (ds:List DV):(Oh ds).Aw=Xg (ds.map DV.Aw):=by
 match ds with
 |[]=>simp[Oh,Xg]
 |[d]=>simp[Oh,Xg]
 |_::_::_=>simp[Oh,Xg]
theorem jB {f:Nat} {j:Func} {I:FI} {args:List AV} {i:AV} (L:P.follows .mixedOrders=true) (K:P.funcs[f]? =some j) (J:OY P j I=true) (hn:args.length≤j.ntmps) (t:args.all Ir=true)
 (h:Hi P I.g I.c (oO I.g I.r i) (start args)):Says P f args i:=by
 intro w S ds F y u p H;subst u;refine P5 (m:=0) L K J (by simpa using hn) t (λc _=>O4 c) y p H h ?_;rintro k R S1 T V tmps o s e q z _ v;have l:k= .normal∨k= .ret:=by obtain⟨h,_⟩:=o;cases k<;>simp_all
 refine⟨l,?_⟩;obtain⟨_,vs,τ,C,B⟩:=o;obtain⟨U,FD,D,g2,n,E,_⟩:=JC j.results.toList s z v C;obtain⟨Ds',N,O,Q⟩:=Zn _ n;have G:JS R (λx=>S1 x∨FD x) (ds.map λd=>DV.lf .dead d.Aw) (λ_=>False):=by refine B4 λd hd=> ?_;obtain⟨x,_,rfl⟩:=ABi.1 hd;exact .lf _ _ _ trivial (λ_ h=>h)
 refine⟨_,Tj g2,Oh Ds',ds.map λd=>DV.lf .dead d.Aw,λx=>S1 x∨FD x,λ_=>False,by rw[S7,S7,O],by rw[S8,N,D,B],by simp,by simp,A5.2 ⟨λ_=>False,λ_=>False,Ns Q,G,λ_ h=>h.elim,λx=>by simp⟩,⟨e.os,e.tape,e.output,e.size,e.block⟩,λb a=>.inl (e.sub b a),?_,?_,λx M=>M.elim⟩
 . rintro b (a|a)
   . exact e.sup b a
   . exact .inr (e.own b (E b a))
 . rintro b (a|a)
   . exact q b a
   . exact(Ns n).lt b a
def X9 (x:ABr (List AV×Sg)) (res:AV) (outs:List AV):Prop:=match x with
 |some (vs,τ)=>one vs=res/\TC τ 0 outs
 |none=>False
theorem iM (vs:List AV) (τ:Sg) (b:AV) (a:List AV):X9 (some (vs,τ)) b a=(one vs=b/\TC τ 0 a):=(rfl)
theorem rB (G:Gi) (rs:List RV) (b:AV) (a:List AV) (σ:Sg):WR G rs b a .ret σ=X9 (Fp G rs σ) b a:=by
 unfold WR X9;cases Fp G rs σ with
 |none=>simp
 |some x=>obtain⟨vs,τ⟩:=x;simp only[AAQ,AAf,true_and,eq_iff_iff];exact⟨λ⟨_,_,⟨c,d⟩,h⟩=>by subst c;subst d;exact h,λh=>⟨_,_,⟨rfl,rfl⟩,h⟩⟩
theorem aY (G:Gi) (rs:List RV) (b:AV) (a:List AV) (σ:Sg):WR G rs b a .normal σ=X9 (Fp G rs σ) b a:=by
 unfold WR X9;cases Fp G rs σ with
 |none=>simp
 |some x=>obtain⟨vs,τ⟩:=x;simp only[AAQ,AAf,true_and,eq_iff_iff];exact⟨λ⟨_,_,⟨c,d⟩,h⟩=>by subst c;subst d;exact h,λh=>⟨_,_,⟨rfl,rfl⟩,h⟩⟩
end Go.Abs
namespace Go.Abs
attribute [go_sem] oW awp_reg awp_rex r9 yY yW awp_ret awp_gz awp_pg awp_apd rL lC yT u6 PL RM nP gzS czS sA o7 o6 x8 rM aop_n aop_g gK_tt gK_tf gK_ft gK_ff
attribute [go_sem] gK_un skipK_s skipK_n bK_some bK_none toDst_s toDst_n vJ lO rQ axs_nil axs_o nilK_sl yZ arun_cp arun_mv
attribute [go_sem] rT arun_bx yG yH arun_ld arun_st yK yM yC yN yF yE arun_un yI yP rW yD yS
attribute [go_sem] Int.reduceToNat arun_mm rU sS P7 rV axs_gld tH Q1 yJ arun_mk awp_flc awp_flo rK lB cG arun_fl yL rR yO yU rS GU tk ZO wr valOf binF binI unF view Pu Pt Mm vC vF Ia JQ
attribute [go_sem] HW FL cellsOf C0 ar hd lG EB uK Sn killS_at uG E1 UD DX PM DR Fh Pl VF VG dG stC
attribute [go_sem] sub put QP JM SS NO xA VD Wh GR Jr gY TJ xB M6 kG wS fzl UU Zm
attribute [go_sem] fresh O5 RE vD rowsOf IG jF vT seqA_ret Yo O2 lM Gi.OB start_at if_true ite_true ite_false if_false Option.map_some
attribute [go_sem] Bool.false_eq_true List.getD_cons_zero List.getD_cons_succ true_and and_true and_self false_and and_false Int.natCast_nonneg Int.toNat_natCast List.take_succ_cons List.take_zero List.drop_zero List.drop_succ_cons List.map_cons List.map_nil List.length_cons List.length_nil Nat.zero_add decide_eq_true_eq
attribute [go_sem] List.getElem?_cons_zero List.getElem?_cons_succ List.all_cons List.all_nil Bool.and_true Bool.true_and Nat.le_refl List.nil_append List.append_nil beq_self_eq_true bne_self_eq_false beq_iff_eq bne_iff_ne ne_eq not_true_eq_false not_false_eq_true xM rA
attribute [go_sem] iJ Fp nU one_one one_two AV.sc.injEq Value.bool.injEq Value.int.injEq AV.BI.injEq AV.agg.injEq List.cons.injEq AV.own.injEq AV.sl.injEq Option.some.injEq Prod.mk.injEq exists_and_left exists_eq_left exists_eq_left' exists_eq
attribute [go_sem] List.contains_nil List.filter_nil List.flatMap_nil List.not_mem_nil List.filter_cons Bool.not_true Bool.not_false Int.toNat_zero Nat.lt_irrefl Nat.sub_zero List.isEmpty_nil List.contains_cons Bool.or_false Bool.false_or Bool.or_true Bool.true_or List.mem_cons or_false false_or
attribute [go_sem] or_true true_or or_self Nat.lt_add_one Nat.zero_lt_one List.set_cons_zero List.set_cons_succ Yt Oe List.cons_append List.drop_nil List.take_nil Bool.not_eq_true Bool.and_false Bool.false_and Bool.and_self List.any_cons List.any_nil decide_true decide_false
attribute [go_sem] eq_self Vs Wp axs_bxv zF cloA sG SH yR yQ RX rdF Mz PY Sr SF clean KQ rB aY iM TC
theorem AAC (a:List (List AV)) (i:Nat) (x:List AV):Oe (a.set i x)=(Oe a).set i (Yt x):=by simp[V5,V4,ABJ]
theorem isE_map {a b:Type} (f:a->b) (l:List a):(l.map f).isEmpty=l.isEmpty:=by cases l<;>rfl
attribute [go_sem] AAC isE_map List.isEmpty_cons
end Go.Abs
namespace Go.Abs
variable {w w':World} {S S':Nat->Prop} {G:Gi} {δ:Nat->DV} {Fr:Nat->Nat->Prop} {P:Program}
inductive MO where
 |mp (es:List (ABs×Value))
 |it (s:ABs) (pos:Nat)
def MO.is:MO->Obj->Prop
 | .mp es,o=>∃arr c,o= .map arr c/\arr.toList.map (λe=>(e.key,e.val))=es.map λx=>(Value.string x.1,x.2)
 | .it s p,o=>o= .stringIter s p
abbrev Mu:=Nat->ABr MO
def Jc (G:Gi) (n:Nat) (w0:World) (S0 U0:Nat->Prop) (a:Act) (w:World) (σ:Sg) (μ:Mu):Prop:=
 ∃(w1:World) (S1 U1:Nat->Prop),Nx w0 S0 U0 w1 S1 U1/\Yj w1 S1 U1/\
  (∀b o,μ b=some o->b<w1.heap.size/\¬S1 b/\¬U1 b/\w0.heap.size≤b/\∃ob,w1.heap[b]? =some ob/\o.is ob)/\Rel G n w1 S1 U1 a w σ
variable {n:Nat} {w0:World} {S0 U0:Nat->Prop} {a:Act} {σ:Sg} {μ:Mu}
theorem Jc.start (b:Yj w0 S0 U0) (h:Rel G n w0 S0 U0 a w σ):Jc G n w0 S0 U0 a w σ (λ_=>none):=
 ⟨w0,S0,U0,Nx.refl _ _ _,b,λ_ _ h=>by(cases h),h⟩
theorem Jc.toRel (h:Jc G n w0 S0 U0 a w σ μ):Rel G n w0 S0 U0 a w σ:=by obtain⟨m,S1,U1,j,l,k,S,δ,F,b,c,d,e,f,g,i⟩:=h;exact⟨S,δ,F,b,c,d,e,f,j.trans g,i⟩
theorem Jc.obj (h:Jc G n w0 S0 U0 a w σ μ) {b:Nat} {o:MO} (j:μ b=some o):∃ob,w.heap[b]? =some ob/\o.is ob:=by obtain⟨v,S1,U1,u,t,c,S,δ,F,l,m,p,q,r,i,s⟩:=h;obtain⟨d,g2,e,k,ob,f,g⟩:=c b o j;exact⟨ob,by rw[i.block b d e];exact f,g⟩
theorem Jc.fresh (h:Jc G n w0 S0 U0 a w σ μ):μ w.heap.size=none:=by
 cases hb:μ w.heap.size with
 |none=>rfl
 |some o=>
  obtain⟨ob,b,_⟩:=h.obj hb
  have:=(AA5.1 b).1;omega
theorem Jc.turn (h:Jc G n w0 S0 U0 a w σ μ) {b:Nat} {o':MO} {ob':Obj} (K:(∃o,μ b=some o)∨b=w.heap.size) (M:w'.os=w.os) (O:w'.tape=w.tape) (N:w'.output=w.output) (u:w.heap.size≤w'.heap.size)
 (g:∀c,c<w.heap.size->c≠b->w'.heap[c]? =w.heap[c]?) (V:w'.heap[b]? =some ob') (L:o'.is ob'):Jc G n w0 S0 U0 a w' σ (DR μ b (some o')):=by
 obtain⟨w1,S1,U1,P,hG,R,S,δ,F,X,Z,h3,rfl,y,m,z⟩:=h;have v:∀c o,μ c=some o->c<w.heap.size/\¬S c/\¬BA F c/\w0.heap.size≤c/\∃ob,w.heap[c]? =some ob/\o.is ob:=by
  intro c o d;obtain⟨C,g2,p,D,ob,H,I⟩:=R c o d;have B:=m.size;refine⟨by omega,?_,?_,D,ob,by rw[m.block c C p];exact H,I⟩
  . intro hS;rcases m.sup c hS with k|k|k
    . exact g2 k
    . exact p k
    . omega
  . intro J;rcases m.own c J with k|k
    . exact p k
    . omega
 have i:∀x,BA F x->x<w.heap.size:=λx ⟨s,B⟩=>(y.ok s).lt x B;have q:¬S b:=by
  rcases K with⟨o,t⟩|rfl
  . exact(v b o t).2.1
  . intro k;have:=z _ k;omega
 have T:¬BA F b:=by
  rcases K with⟨o,t⟩|rfl
  . exact(v b o t).2.2.1
  . intro k;have:=i _ k;omega
 have e:=P.trans m;have tS:w0.heap.size≤b:=by
  rcases K with⟨o,t⟩|rfl
  . exact(v b o t).2.2.2.1
  . exact e.size
 have r:b<w'.heap.size:=(AA5.1 V).1;have f:∀c,S c->w'.heap[c]? =w.heap[c]? :=λc d=>g c (z c d) (by rintro rfl;exact q d);have j:∀s x,F s x->w'.heap[x]? =w.heap[x]? :=λs x d=>g x (i x ⟨s,d⟩) (by rintro rfl;exact T ⟨s,d⟩);have W:St G w' S δ F:=y.world f j (λ_ h=>h) (λs x P=>(y.ok s).Et x P);refine⟨w',S,BA F,?_,?_,?_,S,δ,F,X,Z,h3,rfl,W,Nx.refl _ _ _,λc d=>ABW (z c d) u⟩
 . refine⟨M.trans e.os,O.trans e.tape,N.trans e.output,ABK e.size u,?_,e.sub,e.sup,λhl c d=>ABW (e.lt hl c d) u,e.own⟩;intro c d J;rw[g c (ABW d e.size) (by omega),e.block c d J]
 . refine⟨?_,λc d=>⟨λ⟨s,B⟩=>(y.ok s).Et c B d,ABW (z c d) u⟩⟩;intro x Q;obtain⟨U,arr,E,fz,k2,k3⟩:=(hG.now m) x Q;exact⟨U,arr,E,fz,by rw[f _ U];exact k2,k3⟩
 . intro c o d;by_cases l:c=b
   . subst l;rw[BD]at d;obtain rfl:=AAU d;exact⟨r,q,T,tS,ob',V,L⟩
   . rw[BT _ _ l]at d;obtain⟨C,g2,p,D,ob,H,I⟩:=v c o d;exact⟨by omega,g2,p,D,ob,by rw[g c C l];exact H,I⟩
theorem Rel.Da (h:Rel G n w0 S0 U0 a w σ) {o:Oper} {dst:ABr Dk} (g:Dr G n o.dst dst=true) {D:DV} {K:Sg->Prop} (i:∀w S,Ok w S D (λ_=>False)) (f:∀δ,DU δ D) (j:Ct dst D.er K σ):
 ∃σ',Rel G n w0 S0 U0 (a.put o.dst D.Aw) w σ'/\K σ':=by
 obtain⟨S,δ,Fr,hn,d,k,rfl,c,e,b⟩:=h;have hd:=ER g hn;exact LZ (S2:=S) (D:=D) (FD:=λ_=>False) (v:=D.er) (K:=K) c hn d k hd rfl (λ_ _=>rfl) b (λ_ h=>h) (λ_ h=>.inl h) b (i w S) (λ_ h=>h.elim) (f δ) e rfl rfl rfl (AAv _) j
theorem Jc.Da (h:Jc G n w0 S0 U0 a w σ μ) {o:Oper} {dst:ABr Dk} (d:Dr G n o.dst dst=true) {D:DV} {K:Sg->Prop} (g:∀w S,Ok w S D (λ_=>False)) (c:∀δ,DU δ D) (j:Ct dst D.er K σ):
 ∃σ',Jc G n w0 S0 U0 (a.put o.dst D.Aw) w σ' μ/\K σ':=by
 obtain⟨m,S1,U1,l,i,b,k⟩:=h;obtain⟨σ',e,f⟩:=k.Da d g c j;exact⟨σ',⟨m,S1,U1,l,i,b,e⟩,f⟩
theorem Jc.Ey (h:Jc G n w0 S0 U0 a w σ μ) {x:Operand} {y:Ar} (d:CB x y=true) {v:Value} (f:ar σ y= .sc v):a.eval x=v/\GM v=true:=by obtain⟨S,δ,Fr,hn,j,c,rfl,b,k,i⟩:=h.toRel;obtain⟨g,e⟩:=Aj d c;rw[e];exact b.Ey g f
def MX (es:List (ABs×Value)) (s:ABs) (z:Value):Value:=match es.find? (λx=>x.1==s)with
 |some x=>x.2
 |none=>z
def kX (es:List (ABs×Value)) (s:ABs) (v:Value):List (ABs×Value):=es++[(s,v)]
inductive kS where
 |x (o:jZ)
 |mkm (d:Dk)
 |lkp (g:ABr (Nat×Bool)) (d:Dk) (m k:Ar)
 |mup (m k v:Ar)
 |rng (d:Dk) (x:Ar)
 |nxt (d:Dk) (x:Ar)
def gM (g:ABr (Nat×Bool)) (d:Dk) (A:Sg->Prop) (K:Sg->Prop) (σ:Sg):Prop:=match g with
 |none=>A σ
 |some (s,want)=>gK (σ s) want A (λσ=>K (DR (JZ d.kl d.d σ) d.d .un)) σ
theorem gM_gd {g:ABr (Nat×Bool)} {d:Dk} {A K:Sg->Prop} {σ:Sg} (h:gM g d A K σ):gdP g A (YR (some d) K) σ:=by cases g<;>exact h
def lkpK (m k:AV) (μ:Mu) (d:Dk) (K:Sg->Prop) (σ:Sg):Prop:=match m,k with
 | .sc (.map (some b)),.sc (.string s)=>match μ b with
  |some (.mp es)=>GM (MX es s (.bool false))=true/\Ct (some d) (.sc (MX es s (.bool false))) K σ
  |_=>False
 |_,_=>False
def mupK (m k v:AV) (μ:Mu) (K:Mu->Prop):Prop:=match m,k,v with
 | .sc (.map (some b)),.sc (.string s),.sc u=>match μ b with
  |some (.mp es)=>es.all (λx=> !(x.1==s))=true/\K (DR μ b (some (.mp (kX es s u))))
  |_=>False
 |_,_,_=>False
def rngK (x:AV) (d:Dk) (K:Sg->Mu->Prop) (σ:Sg) (μ:Mu):Prop:=match x with
 | .sc (.string s)=>∀b,μ b=none->Ct (some d) (.sc (.pointer (some ⟨b,0,none⟩))) (λσ'=>K σ' (DR μ b (some (.it s 0)))) σ
 |_=>False
def nxtK (x:AV) (d:Dk) (K:Sg->Mu->Prop) (σ:Sg) (μ:Mu):Prop:=match x with
 | .sc (.pointer (some ⟨b,0,none⟩))=>match μ b with
  |some (.it s pos)=>if pos<s.size then Ct (some d) (.BI [.sc (.bool true),.sc (.int .i64 pos),.sc (.int .i32 (Utf8.decode s pos).1)]) (λσ'=>K σ' (DR μ b (some (.it s (pos+(Utf8.decode s pos).2))))) σ
   else Ct (some d) (.BI [.sc (.bool false)]) (λσ'=>K σ' μ) σ
  |_=>False
 |_=>False
def OX (P:Program) (G:Gi):List kS->(Sg->Mu->Prop)->Sg->Mu->Prop
 |[],K,σ,μ=>K σ μ
 | .x o::l,K,σ,μ=>MB P G [o] (λσ'=>OX P G l K σ' μ) σ
 | .mkm d::l,K,σ,μ=>∀b,μ b=none->Ct (some d) (.sc (.map (some b))) (λσ'=>OX P G l K σ' (DR μ b (some (.mp [])))) σ
 | .lkp g d m k::l,K,σ,μ=>gM g d (λσ=>lkpK (ar σ m) (ar σ k) μ d (λσ'=>OX P G l K σ' μ) σ) (λσ'=>OX P G l K σ' μ) σ
 | .mup m k v::l,K,σ,μ=>mupK (ar σ m) (ar σ k) (ar σ v) μ (λν=>OX P G l K σ ν)
 | .rng d x::l,K,σ,μ=>rngK (ar σ x) d (OX P G l K) σ μ
 | .nxt d x::l,K,σ,μ=>nxtK (ar σ x) d (OX P G l K) σ μ
def V0 (P:Program) (t:TypeId) (zb:Bool):Bool:=match P.underlying t with
 |some (.map kt et)=>(match P.underlying kt with|some .string=>true|_=>false)&&(!zb||(match(P.info? et).bind (·.zero)with|some (.bool false)=>true|_=>false))
 |_=>false
def lZ (P:Program) (G:Gi) (n:Nat) (ops:Array Oper) (o:Oper):kS->Bool
 | .x io=>fE P G n ops o io
 | .mkm d=>o.guard.isNone&&Dr G n o.dst (some d)&&(match o.op with| .makeMap _ none=>true|_=>false)
 | .lkp g d m k=>Kq n ops o.guard g&&Dr G n o.dst (some d)&&(match o.op with| .lookup t m' k' false=>CB m' m&&CB k' k&&V0 P t true|_=>false)
 | .mup m k v=>o.guard.isNone&&Dr G n o.dst none&&(match o.op with| .mapUpdate t m' k' v'=>CB m' m&&CB k' k&&CB v' v&&V0 P t false|_=>false)
 | .rng d x=>o.guard.isNone&&Dr G n o.dst (some d)&&(match o.op with| .range t x'=>CB x' x&&(match P.underlying t with|some .string=>true|_=>false)|_=>false)
 | .nxt d x=>o.guard.isNone&&Dr G n o.dst (some d)&&(match o.op with| .next x' true=>CB x' x|_=>false)
end Go.Abs
namespace Go.Abs
open Go.MapKept
variable {w w':World} {S S':Nat->Prop} {G:Gi} {δ:Nat->DV} {Fr:Nat->Nat->Prop} {P:Program}
variable {n:Nat} {w0:World} {S0 U0:Nat->Prop} {a:Act} {σ:Sg} {μ:Mu}
theorem okSc (v:Value) (a:GM v=true) (w:World) (S:Nat->Prop):Ok w S (.lf (.sc v) v) (λ_=>False):=.lf _ _ _ ⟨rfl,a⟩ (λ_ h=>h)
theorem okTup (l:List Value) (b:∀v∈l,GM v=true) (w:World) (S:Nat->Prop):Ok w S (.BI (l.map λv=>.lf (.sc v) v)) (λ_=>False):=by refine A5.2 (B4 λD a=> ?_);obtain⟨v,c,rfl⟩:=ABi.1 a;exact okSc v (b v c) w S
theorem alTup (l:List Value) (δ:Nat->DV):DU δ (.BI (l.map λv=>.lf (.sc v) v)):=by refine .BI _ λi D a=> ?_;obtain⟨v,b,rfl⟩:=ABi.1 (AAe a);exact .lf _ _ trivial
theorem SW {b:List (ABs×Value)} {arr:List MapEntry} (h:arr.map (λe=>(e.key,e.val))=b.map λx=>(Value.string x.1,x.2)) (s:ABs) (i:Nat):
 (b.find? (λx=>x.1==s)=none/\Instr.findNow .string (.string s) arr i=some none)∨∃x j,b.find? (λx=>x.1==s)=some x/\Instr.findNow .string (.string s) arr i=some (some (j,x.2)):=by
 induction b generalizing arr i with
 |nil=>cases arr with
  |nil=>exact .inl ⟨rfl,rfl⟩
  |cons e r=>simp at h
 |cons x b ih=>
  cases arr with
  |nil=>simp at h
  |cons e r=>
   simp only[AAi,List.cons.injEq,AAf]at h;obtain⟨⟨d,g⟩,k⟩:=h;by_cases a:(s==x.1)=true
   . have c:(x.1==s)=true:=(by rw[bytes_beq]at a ⊢;exact a.symm);exact .inr ⟨x,i,by simp[List.find?,c],by simp[Instr.findNow,d,Instr.sameNow,a,g]⟩
   . have c:(x.1==s)=false:=(by rw[← Bool.not_eq_true,bytes_beq];rw[bytes_beq]at a;exactλe=>a e.symm);have f:(s==x.1)=false:=(by simpa using a);rcases ih k (i+1)with⟨k1,k2⟩|⟨y,j,k1,k2⟩
     . exact .inl ⟨by simp[List.find?,c,k1],by simp[Instr.findNow,d,Instr.sameNow,f,k2]⟩
     . exact .inr ⟨y,j,by simp[List.find?,c,k1],by simp[Instr.findNow,d,Instr.sameNow,f,k2]⟩
theorem run_look {t l o:TypeId} {b:Nat} {arr:Array MapEntry} {c:Nat} {n:List (ABs×Value)} {i:TypeInfo} (p:P.underlying t=some (.map l o)) (d:P.underlying l=some .string) (r:P.info? o=some i) (u:i.zero=some (.bool false))
 (q:w.heap[b]? =some (.map arr c)) (v:arr.toList.map (λe=>(e.key,e.val))=n.map λx=>(Value.string x.1,x.2)) (s:ABs):
 (Instr.lookup t (.map (some b)) (.string s) false).run P w= .ok (MX n s (.bool false)) w:=by
 have m:∀a,(Instr.checkKey a 10000 l (.string s)).run P w= .ok () w:=λa=>MapKept.run_checkKey d (k:=.string s) (by simp[IsKey]) a 9999;rcases SW v s 0 with⟨g,h⟩|⟨x,j,g,h⟩
 . have f:=run_findKey (w:=w) d h;simp[Instr.lookup,run_underlying p,MapKept.run_getObj_map q,m,f,MX,g,zeroValue,typeInfo,r,u]
 . have f:=run_findKey (w:=w) d h;simp[Instr.lookup,run_underlying p,MapKept.run_getObj_map q,m,f,MX,g]
theorem run_upd {t d n:TypeId} {b:Nat} {arr:Array MapEntry} {c:Nat} {g:List (ABs×Value)} (o:P.underlying t=some (.map d n)) (h:P.underlying d=some .string)
 (i:w.heap[b]? =some (.map arr c)) (p:arr.toList.map (λe=>(e.key,e.val))=g.map λx=>(Value.string x.1,x.2)) (s:ABs) (v:Value) (f:g.all (λx=> !(x.1==s))=true):
 (Instr.mapUpdate t (.map (some b)) (.string s) v).run P w= .ok () {w with heap:=w.heap.setIfInBounds b (.map (arr.push {key:=.string s,val:=v,born:=c}) (c+1))}:=by
 have m:(Instr.checkKey false 10000 d (.string s)).run P w= .ok () w:=MapKept.run_checkKey h (k:=.string s) (by simp[IsKey]) false 9999;rcases SW p s 0 with⟨a,l⟩|⟨x,j,a,l⟩
 . have q:=run_findKey (w:=w) h l;simp[Instr.mapUpdate,run_underlying o,MapKept.run_getObj_map i,m,q,MapKept.run_setObj_map _ i]
 . have r:=ABm a;have u:=List.find?_some a;rw[AAX]at f
   have:=f x r;simp only[u]at this;cases this
end Go.Abs
namespace Go.Abs
variable {w w':World} {S S':Nat->Prop} {G:Gi} {δ:Nat->DV} {Fr:Nat->Nat->Prop} {P:Program}
variable {n:Nat} {w0:World} {S0 U0:Nat->Prop} {a:Act} {σ:Sg} {μ:Mu}
theorem Jc.base (h:Jc G n w0 S0 U0 a w σ μ):∃(b:World) (S1 U1:Nat->Prop),Yj b S1 U1/\Rel G n b S1 U1 a w σ/\∀c w' σ',Rel G n b S1 U1 c w' σ'->Jc G n w0 S0 U0 c w' σ' μ:=by obtain⟨b,S1,U1,i,e,d,g⟩:=h;exact⟨b,S1,U1,e,g,λc w' σ' f=>⟨b,S1,U1,i,e,d,f⟩⟩
theorem run_mkm (t:TypeId) (w:World):(Instr.makeMap t none).run P w= .ok (.map (some w.heap.size)) (w.alloc (.map #[] 0)):=rfl
theorem xZ {ops:Array Oper} {K:Sg->Mu->Prop} (Q:Exit->Act->World->Prop) {k:Nat} {o:Oper} (ho:ops[k]? =some o) {x:kS} {xs:List kS}
 (h:Jc G n w0 S0 U0 a w σ μ) (q:lZ P G n ops o x=true) (f:OX P G (x::xs) K σ μ):wpOp P ops Q k (λI w'=>∃σ' p,Jc G n w0 S0 U0 I w' σ' p/\OX P G xs K σ' p) a w:=by
 have W:o.guard.isNone=true->o.wp P a w (λI w'=>∃σ' p,Jc G n w0 S0 U0 I w' σ' p/\OX P G xs K σ' p) Q->wpOp P ops Q k (λI w'=>∃σ' p,Jc G n w0 S0 U0 I w' σ' p/\OX P G xs K σ' p) a w:=by
  intro hg hwp;unfold wpOp;rw[ho];have hog:o.guard=none:=by simpa using hg
  simp only;rw[AAa (by simp[Region.wanted,hog])];exact .inl hwp
 cases x with
 |x io=>obtain⟨w1,S1,U1,hG,IB,O8⟩:=h.base;refine wpOp_mono ?_ (eX hG Q ho IB ⟨q,trivial⟩ f);rintro I w' ⟨σ',J,L⟩;exact⟨σ',μ,O8 _ _ _ J,L⟩
 |mkm d=>
  simp only[lZ,AAR]at q;obtain⟨⟨B,g2⟩,j⟩:=q;refine W B ?_;split at j
  . rename_i t z;have r:(execOp a.eval o).run P w= .ok (.value (.map (some w.heap.size))) (w.alloc (.map #[] 0)):=(by simp only[execOp,z,Option.map_none,Sem.run_bind,run_mkm,Result.andThen_ok,Sem.run_pure]);unfold Oper.wp;rw[r,Oper.upon_value];have J:=h.turn (w':=w.alloc (.map #[] 0)) (b:=w.heap.size) (o':=.mp []) (ob':=.map #[] 0) (.inr rfl) rfl rfl rfl (by show w.heap.size≤(w.heap.push _).size;rw[Array.size_push];omega) (λc q _=>(MapKept.heap_alloc w _).2 c q) (MapKept.heap_alloc w _).1 ⟨#[],0,rfl,rfl⟩;obtain⟨σ',E,F⟩:=J.Da (o:=o) g2 (D:=.lf (.sc (.map (some w.heap.size))) (.map (some w.heap.size))) (okSc _ rfl) (λ_=>.lf _ _ trivial) (by simpa using f w.heap.size h.fresh);exact⟨σ',_,by simpa using E,F⟩
  . cases j
 |lkp g d m k=>
  simp only[lZ,AAR]at q;obtain⟨⟨B,g2⟩,j⟩:=q;obtain⟨w1,S1,U1,hG,IB,O8⟩:=h.base;refine O7 IB g2 B Q ?_ (λI _ Yd L=>⟨_,μ,O8 _ _ _ Yd,L⟩) (gM_gd f) ho;intro H;split at j
  . rename_i t m' k' z;simp only[AAR]at j;obtain⟨⟨O,M⟩,y⟩:=j;unfold lkpK at H;split at H
    . rename_i b s hm L;split at H
      . rename_i T C;obtain⟨hp,H⟩:=H;obtain⟨ob,l,arr,c,rfl,X⟩:=h.obj C;unfold V0 at y;split at y
        . rename_i kt et V;simp only[AAR,Bool.not_true,Bool.false_or]at y;obtain⟨R,c5⟩:=y;have T2:P.underlying kt=some .string:=by split at R<;>first|assumption|cases R
          obtain⟨i,hi,N⟩:∃i,P.info? et=some i/\i.zero=some (.bool false):=by
           split at c5
           . rename_i N;cases hi:P.info? et with
             |none=>rw[hi]at N;cases N
             |some i=>rw[hi]at N;exact⟨i,rfl,N⟩
           . cases c5
          have r:(execOp a.eval o).run P w= .ok (.value (MX T s (.bool false))) w:=(by simp only[execOp,z,(h.Ey O hm).1,(h.Ey M L).1,Sem.run_bind,run_look V T2 hi N l X s,Result.andThen_ok,Sem.run_pure]);unfold Oper.wp;rw[r,Oper.upon_value];obtain⟨σ',E,F⟩:=h.Da (o:=o) g2 (D:=.lf (.sc (MX T s (.bool false))) (MX T s (.bool false))) (okSc _ hp) (λ_=>.lf _ _ trivial) (by simpa using H);exact⟨σ',μ,by simpa using E,F⟩
        . cases y
      . exact H.elim
    . exact H.elim
  . cases j
 |mup m k v=>
  simp only[lZ,AAR]at q;obtain⟨⟨B,g2⟩,j⟩:=q;refine W B ?_;split at j
  . rename_i t m' k' v' z;simp only[AAR]at j;obtain⟨⟨⟨O,M⟩,c2'⟩,y⟩:=j;simp only[OX]at f;unfold mupK at f;split at f
    . rename_i b s u hm L hu;split at f
      . rename_i T C;obtain⟨KK,f⟩:=f;obtain⟨ob,l,arr,c,rfl,X⟩:=h.obj C;unfold V0 at y;split at y
        . rename_i kt et V;simp only[AAR]at y;have T2:P.underlying kt=some .string:=by have R:=y.1;split at R<;>first|assumption|cases R
          have r:(execOp a.eval o).run P w= .ok .skip {w with heap:=w.heap.setIfInBounds b (.map (arr.push {key:=.string s,val:=u,born:=c}) (c+1))}:=(by simp only[execOp,z,(h.Ey O hm).1,(h.Ey M L).1,(h.Ey c2' hu).1,Sem.run_bind,run_upd V T2 l X s u KK,Result.andThen_ok,Sem.run_pure]);unfold Oper.wp;rw[r,Oper.upon_skip];have hd:o.dst=none:=(by obtain⟨S,δ,Fr,hn,_⟩:=h.toRel;exact ER g2 hn);rw[hd];refine⟨σ,_,h.turn (b:=b) (o':=.mp (kX T s u)) (ob':=.map (arr.push {key:=.string s,val:=u,born:=c}) (c+1)) (.inl ⟨_,C⟩) rfl rfl rfl (by simp) (λc' _ Nl=>(MapKept.heap_set l).2 c' Nl) (MapKept.heap_set l).1 ⟨_,_,rfl,?_⟩,f⟩;simp[kX,X]
        . cases y
      . exact f.elim
    . exact f.elim
  . cases j
 |rng d x=>
  simp only[lZ,AAR]at q;obtain⟨⟨B,g2⟩,j⟩:=q;refine W B ?_;split at j
  . rename_i t x' z;simp only[AAR]at j;obtain⟨O,M⟩:=j;have V:P.underlying t=some .string:=by split at M<;>first|assumption|cases M
    simp only[OX]at f;unfold rngK at f;split at f
    . rename_i s Z;have r:(execOp a.eval o).run P w= .ok (.value (.pointer (some ⟨w.heap.size,0,none⟩))) (w.iter s 0):=(by simp only[execOp,z,(h.Ey O Z).1,Sem.run_bind,run_range_string w t s V,Result.andThen_ok,Sem.run_pure]);unfold Oper.wp;rw[r,Oper.upon_value];have J:=h.turn (w':=w.iter s 0) (b:=w.heap.size) (o':=.it s 0) (ob':=.stringIter s 0) (.inr rfl) rfl rfl rfl (by show w.heap.size≤(w.heap.push _).size;rw[Array.size_push];omega) (λc q _=>(MapKept.heap_alloc w _).2 c q) (MapKept.heap_alloc w _).1 rfl;obtain⟨σ',E,F⟩:=J.Da (o:=o) g2 (D:=.lf (.sc (.pointer (some ⟨w.heap.size,0,none⟩))) (.pointer (some ⟨w.heap.size,0,none⟩))) (okSc _ rfl) (λ_=>.lf _ _ trivial) (by simpa using f w.heap.size h.fresh);exact⟨σ',_,by simpa using E,F⟩
    . exact f.elim
  . cases j
 |nxt d x=>
  simp only[lZ,AAR]at q;obtain⟨⟨B,g2⟩,j⟩:=q;refine W B ?_;split at j
  . rename_i x' z;simp only[OX]at f;unfold nxtK at f;split at f
    . rename_i b Z;split at f
      . rename_i s e U;obtain⟨ob,l,rfl⟩:=h.obj U;split at f
        . rename_i Dq;have r:(execOp a.eval o).run P w= .ok (.value (.tuple #[.bool true,.int .i64 e,.int .i32 (Utf8.decode s e).1])) (w.iterAt b s (e+(Utf8.decode s e).2)):=(by simp only[execOp,z,(h.Ey j Z).1,Sem.run_bind,Lib.run_next_any_at w b s e o.type l Dq,Result.andThen_ok,Sem.run_pure]);unfold Oper.wp;rw[r,Oper.upon_value];have J:=h.turn (w':=w.iterAt b s (e+(Utf8.decode s e).2)) (b:=b) (o':=.it s (e+(Utf8.decode s e).2)) (ob':=.stringIter s (e+(Utf8.decode s e).2)) (.inl ⟨_,U⟩) rfl rfl rfl (by simp[World.iterAt]) (λc q Nl=>(MapKept.heap_set l).2 c Nl) (MapKept.heap_set l).1 rfl;obtain⟨σ',E,F⟩:=J.Da (o:=o) g2 (D:=.BI ([.bool true,.int .i64 e,.int .i32 (Utf8.decode s e).1].map λv=>.lf (.sc v) v)) (okTup _ (by simp[GM])) (alTup _) (by simpa using f);exact⟨σ',_,by simpa using E,F⟩
        . rename_i Dq;have r:(execOp a.eval o).run P w= .ok (.value (.tuple #[.bool false])) w:=(by simp only[execOp,z,(h.Ey j Z).1,Sem.run_bind,Lib.run_next_end_at w b s e o.type l Dq,Result.andThen_ok,Sem.run_pure]);unfold Oper.wp;rw[r,Oper.upon_value];obtain⟨σ',E,F⟩:=h.Da (o:=o) g2 (D:=.BI ([.bool false].map λv=>.lf (.sc v) v)) (okTup _ (by simp[GM])) (alTup _) (by simpa using f);exact⟨σ',_,by simpa using E,F⟩
      . exact f.elim
    . exact f.elim
  . cases j
def Zh (P:Program) (G:Gi) (n:Nat) (ops:Array Oper):List Oper->List kS->Bool
 |[],[]=>true
 |o::os,x::xs=>lZ P G n ops o x&&Zh P G n ops os xs
 |_,_=>false
theorem rJ {ops:Array Oper} {K:Sg->Mu->Prop} (Q:Exit->Act->World->Prop) (l:∀a w σ μ,Jc G n w0 S0 U0 a w σ μ->K σ μ->Q .normal a w) (c:List kS):
 ∀(k:Nat) {a:Act} {w:World} {σ:Sg} {μ:Mu},Jc G n w0 S0 U0 a w σ μ->Zh P G n ops (ops.toList.drop k) c=true->OX P G c K σ μ->wpOps P ops Q (List.range' k (ops.size-k)) a w:=by
 induction c with
 |nil=>
  intro k a w σ μ h b f;have g:ops.toList.drop k=[]:=by cases hd:ops.toList.drop k with|nil=>rfl|cons o os=>rw[hd]at b;simp[Zh]at b
  have i:ops.size≤k:=by simpa using g
  rw[show ops.size-k=0 from by omega];exact l a w σ μ h f
 |cons x c ih=>
  intro k a w σ μ h b f;cases hd:ops.toList.drop k with
  |nil=>rw[hd]at b;simp[Zh]at b
  |cons o os=>rw[hd]at b;simp only[Zh,AAR]at b;have g:k<ops.size:=(by have:(ops.toList.drop k).length=os.length+1:=(by rw[hd];rfl);simp at this;omega);have m:ops[k]? =some o:=(by have:(ops.toList.drop k)[0]? =some o:=(by rw[hd];rfl);simpa using this);have e:ops.toList.drop (k+1)=os:=(by have:(ops.toList.drop k).drop 1=os:=(by rw[hd];rfl);rw[List.drop_drop]at this;exact this);rw[show ops.size-k=(ops.size-(k+1))+1 from by omega,List.range'_succ,wpOps_cons];refine wpOp_mono ?_ (xZ Q m h b.1 f);rintro q w' ⟨σ',p,j,d⟩;exact ih (k+1) j (by rw[e];exact b.2) d
inductive Yl where
 |ic (c:IC)
 |Y6 (xs:List kS)
 |seq (a b:Yl)
 |cond (c:Ar) (a b:Yl)
 |block (id:Nat) (a:Yl)
 |loop (a:Yl)
def Ha (P:Program) (G:Gi) (n:Nat):Code->Yl->Bool
 |c,.ic c'=>Gl P G n c c'
 | .region _ ops false,.Y6 xs=>Zh P G n ops ops.toList xs
 | .seq a b,.seq a' b'=>Ha P G n a a'&&Ha P G n b b'
 | .cond c a b,.cond c' a' b'=>CB c c'&&Ha P G n a a'&&Ha P G n b b'
 | .block id a,.block id' a'=>id==id'&&Ha P G n a a'
 | .loop a,.loop a'=>Ha P G n a a'
 |_,_=>false
def Exit.YM (next:Sg->Mu->Prop) (Q:Exit->Sg->Mu->Prop):Exit->Sg->Mu->Prop
 | .normal,σ,μ=>next σ μ
 |e,σ,μ=>Q e σ μ
def Exit.T7 (id:Nat) (Q:Exit->Sg->Mu->Prop):Exit->Sg->Mu->Prop
 | .exit i,σ,μ=>if i=id then Q .normal σ μ else Q (.exit i) σ μ
 |e,σ,μ=>Q e σ μ
def o8 (x:AV) (a b:Sg->Mu->Prop) (σ:Sg) (μ:Mu):Prop:=match x with
 | .sc (.bool x)=>if x=true then a σ μ else b σ μ
 |_=>False
def Iw (P:Program) (G:Gi):Yl->(Exit->Sg->Mu->Prop)->Sg->Mu->Prop
 | .ic c,Q,σ,μ=>Hi P G c (λe σ'=>Q e σ' μ) σ
 | .Y6 xs,Q,σ,μ=>OX P G xs (Q .normal) σ μ
 | .seq a b,Q,σ,μ=>Iw P G a (Exit.YM (Iw P G b Q) Q) σ μ
 | .cond c a b,Q,σ,μ=>o8 (ar σ c) (Iw P G a Q) (Iw P G b Q) σ μ
 | .block id a,Q,σ,μ=>Iw P G a (Exit.T7 id Q) σ μ
 | .loop a,Q,σ,μ=>∃I:Nat->Sg->Mu->Prop,(∃n,I n σ μ)/\∀n τ ν,I n τ ν->Iw P G a (Exit.YM (λτ' ν'=>∃n',n'<n/\I n' τ' ν') Q) τ ν
def xV (G:Gi) (n:Nat) (w0:World) (S0 U0:Nat->Prop) (Q:Exit->Sg->Mu->Prop) (e:Exit) (a:Act) (w:World):Prop:=∃σ μ,Jc G n w0 S0 U0 a w σ μ/\Q e σ μ
theorem lL (R:P.follows .mixedOrders=true) (c:Code):∀(ic:Yl) (Q:Exit->Sg->Mu->Prop) (a:Act) (w:World) (σ:Sg) (μ:Mu),Ha P G n c ic=true->Jc G n w0 S0 U0 a w σ μ->Iw P G ic Q σ μ->c.wp P (xV G n w0 S0 U0 Q) a w:=by
 have g:∀(c:Code) (ic:IC) (Q:Exit->Sg->Mu->Prop) (a:Act) (w:World) (σ:Sg) (μ:Mu),Gl P G n c ic=true->Jc G n w0 S0 U0 a w σ μ->Hi P G ic (λe σ'=>Q e σ' μ) σ->c.wp P (xV G n w0 S0 U0 Q) a w:=by intro c ic Q a w σ μ f h j;obtain⟨W,S1,U1,M,E,F⟩:=h.base;refine wp_mono (Ze M R (m:=0) (a0:=a) c ic _ a w σ f (O4 c) (QM.refl _ _) E j) ?_;rintro e r w' ⟨⟨σ',p,l⟩,_⟩;exact⟨σ',μ,F _ _ _ p,l⟩
 induction c with
 |region id ops d=>
  intro ic Q a w σ μ f h j;cases ic with
  |ic c'=>exact g _ c' Q a w σ μ (by simpa[Ha]using f) h j
  |Y6 xs=>
   cases d with
   |true=>simp[Ha]at f
   |false=>
    simp only[Ha]at f;refine wp_region ?_
    have:=rJ (P:=P) (G:=G) (ops:=ops) (K:=Q .normal) (xV G n w0 S0 U0 Q) (λa w σ μ h B=>⟨σ,μ,h,B⟩) xs 0 h (by simpa using f) j;rw[List.range_eq_range'];simpa using this
  |_=>simp[Ha]at f
 |seq x y Y0 ihy=>
  intro ic Q a w σ μ f h j;cases ic with
  |ic c'=>exact g _ c' Q a w σ μ (by simpa[Ha]using f) h j
  |seq x' y'=>
   simp only[Ha,AAR]at f;refine wp_seq (wp_mono (Y0 x' _ a w σ μ f.1 h j) ?_);rintro e r w' ⟨σ',o,p,l⟩;cases e with
   |normal=>exact ihy y' Q r w' σ' o f.2 p l
   |_=>exact⟨σ',o,p,l⟩
  |_=>simp[Ha]at f
 |cond c x y Y0 ihy=>
  intro ic Q a w σ μ f h j;cases ic with
  |ic c'=>exact g _ c' Q a w σ μ (by simpa[Ha]using f) h j
  |cond c' x' y'=>
   simp only[Ha,AAR]at f;obtain⟨⟨J,q⟩,L⟩:=f;simp only[Iw]at j;unfold o8 at j;split at j
   . rename_i b O;have C:a.eval c= .bool b:=(h.Ey J O).1;split at j
     . rename_i z;subst z;exact wp_cond_true C (Y0 x' Q a w σ μ q h j)
     . rename_i v;obtain rfl:b=false:=(by simpa using v);exact wp_cond_false C (ihy y' Q a w σ μ L h j)
   . exact j.elim
  |_=>simp[Ha]at f
 |block id x Y0=>
  intro ic Q a w σ μ f h j;cases ic with
  |ic c'=>exact g _ c' Q a w σ μ (by simpa[Ha]using f) h j
  |block id' x'=>
   simp only[Ha,AAR,AAg]at f;obtain⟨rfl,q⟩:=f;refine wp_block (wp_mono (Y0 x' _ a w σ μ q h j) ?_);rintro e r w' ⟨σ',o,p,l⟩;cases e with
   |exit i=>
    simp only[Exit.inBlock];simp only[Exit.T7]at l;split
    . rename_i hi;rw[AAa hi]at l;exact⟨σ',o,p,l⟩
    . rename_i hi;rw[AAZ hi]at l;exact⟨σ',o,p,l⟩
   |_=>exact⟨σ',o,p,l⟩
  |_=>simp[Ha]at f
 |loop x Y0=>
  intro ic Q a w σ μ f h j;cases ic with
  |ic c'=>exact g _ c' Q a w σ μ (by simpa[Ha]using f) h j
  |loop x'=>
   simp only[Ha]at f;obtain⟨I,⟨U,H⟩,T⟩:=j;refine wp_loop_ghost (λk a w=>∃σ μ,Jc G n w0 S0 U0 a w σ μ/\I k σ μ) U ⟨σ,μ,h,H⟩ ?_;rintro k r w' ⟨τ,D,p,N⟩;refine wp_mono (Y0 x' _ r w' τ D f p (T k τ D N)) ?_;rintro e V X ⟨t,s,q,l⟩;cases e with
   |normal=>obtain⟨S,B,u⟩:=l;exact⟨S,B,t,s,q,u⟩
   |_=>exact⟨t,s,q,l⟩
  |_=>simp[Ha]at f
 |_=>
  intro ic Q a w σ μ f h j;cases ic with
  |ic c'=>exact g _ c' Q a w σ μ (by simpa[Ha]using f) h j
  |_=>simp[Ha]at f
structure FIM where
 c:Yl
 g:Gi
 r:List RV
def o4 (P:Program) (fn:Func) (I:FIM):Bool:=
 (match fn.body with
 |some c=>Ha P I.g fn.ntmps c I.c
 |none=>false)&&O3 P fn.results.toList I.r&&I.g.rt.all (λx=> !x.2.contains x.1)
theorem jC {f:Nat} {j:Func} {I:FIM} {args:List AV} {n:AV} (hm:P.follows .mixedOrders=true) (H:P.funcs[f]? =some j) (U:o4 P j I=true) (hn:args.length≤j.ntmps) (O:args.all Ir=true)
 (h:Iw P I.g I.c (λe σ _=>Ends I.g I.r n e σ) (start args) (λ_=>none)):Says P f args n:=by
 intro w S ds F NH JO L T;subst JO;simp only[o4,AAR]at U;obtain⟨⟨B,Mq⟩,E⟩:=U;split at B
 . rename_i c u;obtain⟨q,y,hd,z,D⟩:xT w S ds F:=(by cases L with|BI _ q _ y hd z D=>exact⟨q,y,hd,z,D⟩);have Q:∀(i:Nat) d,ds[i]? =some d->Ir d.er=true:=λi d hi=>(by simp only[AAX]at O;exact O _ (ABY (AAe hi)));refine calls_of_wp H u ?_
   let δ:Nat->DV:=λs=>ds.getD s (.lf .un undef)
   have k:∀s,(∃d,ds[s]? =some d/\δ s=d)∨(ds[s]? =none/\δ s= .lf .un undef):=by
    intro s;cases a:ds[s]? with
    |some d=>exact .inl ⟨d,rfl,by simp[δ,a]⟩
    |none=>exact .inr ⟨rfl,by simp[δ,a]⟩
   have X:St I.g w S δ q:=by
    refine⟨λs=> ?_,λs t x=>hd s t x,λs=> ?_,λs=> ?_,qW E⟩
    . rcases k s with⟨d,a,e⟩|⟨a,e⟩
      . rw[e];exact y s d a
      . rw[e];exact .lf _ _ _ rfl λx p=>by obtain⟨d,hd⟩:=z s x p;rw[a]at hd;cases hd
    . rcases k s with⟨d,a,e⟩|⟨a,e⟩
      . rw[e];exact eQ (y s d a).Kw (Q s d a)
      . rw[e];exact .lf _ _ trivial
    . rcases k s with⟨d,a,e⟩|⟨a,e⟩
      . rw[e];exact Za (Q s d a)
      . rw[e];simp
   have K:(λs=>(δ s).er)=start (ds.map DV.er):=by
    funext s;unfold start;rcases k s with⟨d,a,e⟩|⟨a,e⟩
    . simp[e,a]
    . simp[e,a]
   have tW:ds.length≤j.ntmps:=(by simpa using hn);have IB:Rel I.g j.ntmps w S F {tmps:=(ds.map DV.Aw).toArray++Array.replicate (j.ntmps-(ds.map DV.Aw).toArray.size) undef,defers:=[]} w (start (ds.map DV.er)):=(by refine⟨S,δ,q,by simp;omega,rfl,λs=>W6 ds j.ntmps s,K,X,Nx.less λx ⟨s,p⟩=>(D x).2 ⟨s,p⟩,T⟩);have m:=Jc.start ⟨NH,λb u=>⟨λH=>L.Et b H u,T b u⟩⟩ IB;refine wp_mono (lL hm c I.c _ _ w _ _ B m h) ?_;rintro e a' o ⟨σ,μ,J,V⟩;obtain⟨S1,δ1,F1,hn1,M,Qp,rfl,Ew,l,Z⟩:=J.toRel;have G:=oP V;obtain⟨_,vs,τ,Ye,Sj⟩:=V;obtain⟨Ds,FD,g1,g2,g3,g4,_⟩:=JC j.results.toList Ew Qp Mq Ye;have hO:JS o S1 (ds.map λd=>DV.lf .dead d.Aw) (λ_=>False):=(by refine B4 λd hd=> ?_;obtain⟨x,_,rfl⟩:=ABi.1 hd;exact .lf _ _ _ trivial (λ_ h=>h));have C:∃v,(results j a'.tmps).run P o= .ok v o/\∃(r:DV) (os:List DV) (S' N:Nat->Prop),Ending.returned v= .returned r.Aw/\r.er=n/\os.map DV.er=((ds.map DV.er).map λ_=>AV.dead)/\os.map DV.Aw=ds.map DV.Aw/\
    Ok o S' (.BI (r::os)) N/\Ext w o F/\(∀b,S b->S' b)/\(∀b,S' b->S b∨F b∨w.heap.size≤b)/\(∀b,S' b->b<o.heap.size)/\(∀x,N x->F x∨w.heap.size≤x):=
    ⟨_,Tj g2,Oh Ds,ds.map λd=>DV.lf .dead d.Aw,S1,FD,rfl,by rw[S8,g1,Sj],by simp,by simp,A5.2 ⟨FD,λ_=>False,Ns g3,hO,λ_ _ h=>h,λx=>by simp⟩,⟨l.os,l.tape,l.output,l.size,l.block⟩,l.sub,l.sup,Z,λx p=>l.own x (g4 x p)⟩
   obtain⟨v,W,R⟩:=C;rcases G with rfl|rfl
   . exact⟨M,v,W,R⟩
   . exact⟨M,v,W,R⟩
 . cases B
end Go.Abs
namespace Go.Abs
variable {P:Program} {G:Gi}
theorem awpM_ic (c:IC) (Q:Exit->Sg->Mu->Prop) (σ:Sg) (a:Mu):Iw P G (.ic c) Q σ a=Hi P G c (λe σ'=>Q e σ' a) σ:=(rfl)
theorem rZ (a:List kS) (Q:Exit->Sg->Mu->Prop) (σ:Sg) (b:Mu):Iw P G (.Y6 a) Q σ b=OX P G a (Q .normal) σ b:=(rfl)
theorem eU (a b:Yl) (Q:Exit->Sg->Mu->Prop) (σ:Sg) (c:Mu):Iw P G (.seq a b) Q σ c=Iw P G a (Exit.YM (Iw P G b Q) Q) σ c:=(rfl)
theorem Wm (c:Ar) (a b:Yl) (Q:Exit->Sg->Mu->Prop) (σ:Sg) (d:Mu):Iw P G (.cond c a b) Q σ d=o8 (ar σ c) (Iw P G a Q) (Iw P G b Q) σ d:=(rfl)
theorem lJ (b:Nat) (a:Yl) (Q:Exit->Sg->Mu->Prop) (σ:Sg) (c:Mu):Iw P G (.block b a) Q σ c=Iw P G a (Exit.T7 b Q) σ c:=(rfl)
theorem jG (next:Sg->Mu->Prop) (Q:Exit->Sg->Mu->Prop) (σ:Sg) (a:Mu):Exit.YM next Q .normal σ a=next σ a:=(rfl)
theorem vU (next:Sg->Mu->Prop) (Q:Exit->Sg->Mu->Prop) (a:Nat) (σ:Sg) (b:Mu):Exit.YM next Q (.exit a) σ b=Q (.exit a) σ b:=(rfl)
theorem seqM_ret (next:Sg->Mu->Prop) (Q:Exit->Sg->Mu->Prop) (σ:Sg) (a:Mu):Exit.YM next Q .ret σ a=Q .ret σ a:=(rfl)
theorem Yp (b:Nat) (Q:Exit->Sg->Mu->Prop) (σ:Sg) (a:Mu):Exit.T7 b Q .normal σ a=Q .normal σ a:=(rfl)
theorem Ub (b i:Nat) (Q:Exit->Sg->Mu->Prop) (σ:Sg) (a:Mu):Exit.T7 b Q (.exit i) σ a=if i=b then Q .normal σ a else Q (.exit i) σ a:=(rfl)
theorem lN (b:Nat) (Q:Exit->Sg->Mu->Prop) (σ:Sg) (a:Mu):Exit.T7 b Q .ret σ a=Q .ret σ a:=(rfl)
theorem ams_nil (K:Sg->Mu->Prop) (σ:Sg) (a:Mu):OX P G [] K σ a=K σ a:=(rfl)
theorem ams_x (o:jZ) (l:List kS) (K:Sg->Mu->Prop) (σ:Sg) (a:Mu):OX P G (.x o::l) K σ a=MB P G [o] (λσ'=>OX P G l K σ' a) σ:=(rfl)
theorem ams_mkm (d:Dk) (l:List kS) (K:Sg->Mu->Prop) (σ:Sg) (a:Mu):OX P G (.mkm d::l) K σ a=∀b,a b=none->Ct (some d) (.sc (.map (some b))) (λσ'=>OX P G l K σ' (DR a b (some (.mp [])))) σ:=(rfl)
theorem ams_lkp (g:ABr (Nat×Bool)) (d:Dk) (m k:Ar) (l:List kS) (K:Sg->Mu->Prop) (σ:Sg) (a:Mu):OX P G (.lkp g d m k::l) K σ a=gM g d (λσ=>lkpK (ar σ m) (ar σ k) a d (λσ'=>OX P G l K σ' a) σ) (λσ'=>OX P G l K σ' a) σ:=(rfl)
theorem ams_mup (m k v:Ar) (l:List kS) (K:Sg->Mu->Prop) (σ:Sg) (a:Mu):OX P G (.mup m k v::l) K σ a=mupK (ar σ m) (ar σ k) (ar σ v) a (λb=>OX P G l K σ b):=(rfl)
theorem ams_rng (d:Dk) (x:Ar) (l:List kS) (K:Sg->Mu->Prop) (σ:Sg) (a:Mu):OX P G (.rng d x::l) K σ a=rngK (ar σ x) d (OX P G l K) σ a:=(rfl)
theorem ams_nxt (d:Dk) (x:Ar) (l:List kS) (K:Sg->Mu->Prop) (σ:Sg) (a:Mu):OX P G (.nxt d x::l) K σ a=nxtK (ar σ x) d (OX P G l K) σ a:=(rfl)
theorem gM_some (s:Nat) (a:Bool) (d:Dk) (A K:Sg->Prop) (σ:Sg):gM (some (s,a)) d A K σ=gK (σ s) a A (λσ=>K (DR (JZ d.kl d.d σ) d.d .un)) σ:=(rfl)
def lkpV (x:ABr MO) (s:ABs) (d:Dk) (K:Sg->Prop) (σ:Sg):Prop:=match x with
 |some (.mp es)=>GM (MX es s (.bool false))=true/\Ct (some d) (.sc (MX es s (.bool false))) K σ
 |_=>False
theorem lkpK_at (b:Nat) (s:ABs) (a:Mu) (d:Dk) (K:Sg->Prop) (σ:Sg):lkpK (.sc (.map (some b))) (.sc (.string s)) a d K σ=lkpV (a b) s d K σ:=(rfl)
theorem lkpV_mp (a:List (ABs×Value)) (s:ABs) (d:Dk) (K:Sg->Prop) (σ:Sg):lkpV (some (.mp a)) s d K σ=(GM (MX a s (.bool false))=true/\Ct (some d) (.sc (MX a s (.bool false))) K σ):=(rfl)
def mupV (x:ABr MO) (b:Nat) (s:ABs) (u:Value) (μ:Mu) (K:Mu->Prop):Prop:=match x with
 |some (.mp es)=>es.all (λx=> !(x.1==s))=true/\K (DR μ b (some (.mp (kX es s u))))
 |_=>False
theorem mupK_at (b:Nat) (s:ABs) (u:Value) (a:Mu) (K:Mu->Prop):mupK (.sc (.map (some b))) (.sc (.string s)) (.sc u) a K=mupV (a b) b s u a K:=(rfl)
theorem mupV_mp (a:List (ABs×Value)) (b:Nat) (s:ABs) (u:Value) (c:Mu) (K:Mu->Prop):mupV (some (.mp a)) b s u c K=(a.all (λx=> !(x.1==s))=true/\K (DR c b (some (.mp (kX a s u))))):=(rfl)
theorem rngK_s (s:ABs) (d:Dk) (K:Sg->Mu->Prop) (σ:Sg) (a:Mu):rngK (.sc (.string s)) d K σ a=∀b,a b=none->Ct (some d) (.sc (.pointer (some ⟨b,0,none⟩))) (λσ'=>K σ' (DR a b (some (.it s 0)))) σ:=(rfl)
def nxtV (x:ABr MO) (b:Nat) (d:Dk) (K:Sg->Mu->Prop) (σ:Sg) (μ:Mu):Prop:=match x with
 |some (.it s pos)=>if pos<s.size then Ct (some d) (.BI [.sc (.bool true),.sc (.int .i64 pos),.sc (.int .i32 (Utf8.decode s pos).1)]) (λσ'=>K σ' (DR μ b (some (.it s (pos+(Utf8.decode s pos).2))))) σ
  else Ct (some d) (.BI [.sc (.bool false)]) (λσ'=>K σ' μ) σ
 |_=>False
theorem nxtK_at (b:Nat) (d:Dk) (K:Sg->Mu->Prop) (σ:Sg) (a:Mu):nxtK (.sc (.pointer (some ⟨b,0,none⟩))) d K σ a=nxtV (a b) b d K σ a:=(rfl)
theorem G9 {s:ABs} {a:Nat} (b:Nat) (d:Dk) (K:Sg->Mu->Prop) (σ:Sg) (c:Mu) (h:a<s.size):nxtV (some (.it s a)) b d K σ c=Ct (some d) (.BI [.sc (.bool true),.sc (.int .i64 a),.sc (.int .i32 (Utf8.decode s a).1)]) (λσ'=>K σ' (DR c b (some (.it s (a+(Utf8.decode s a).2))))) σ:=by simp[nxtV,h]
theorem Fv {s:ABs} {a:Nat} (b:Nat) (d:Dk) (K:Sg->Mu->Prop) (σ:Sg) (c:Mu) (h:¬a<s.size):nxtV (some (.it s a)) b d K σ c=Ct (some d) (.BI [.sc (.bool false)]) (λσ'=>K σ' c) σ:=by simp[nxtV,h]
theorem rX {a:Yl} {Q:Exit->Sg->Mu->Prop} {σ:Sg} {f:Mu} (I:Nat->Sg->Mu->Prop) (n:Nat) (h:I n σ f)
 (b:∀n τ g,I n τ g->Iw P G a (Exit.YM (λd c=>∃e,e<n/\I e d c) Q) τ g):Iw P G (.loop a) Q σ f:=⟨I,⟨n,h⟩,b⟩
attribute [go_sem] awpM_ic rZ eU Wm lJ jG vU seqM_ret Yp Ub lN ams_nil ams_x ams_mkm ams_lkp ams_mup ams_rng ams_nxt gM_some lkpK_at lkpV_mp mupK_at mupV_mp rngK_s nxtK_at
end Go.Abs
namespace Go.Abs
open Go.Proofs Go.Sort Go.RowKit
variable {P:Program}
theorem bT {f g:Nat} {q:Int->Int->Bool}
 (B:∀(lb:Array Value) (p:Int->Bool) (s off cap:Nat) (d:Array Int) (w:World),PredAt P g lb (Value.int .i64) p w->PredOver P g lb (Value.int .i64) p s off d.size w->Holds (Value.int .i64) w s off d->d.size≤9223372036854775807->d.size≤cap->
  Calls P f #[.slice (some ⟨s,off,none⟩) d.size cap,.func (.func g) #[] lb] w λe w'=>e= .returned (.slice (some ⟨s,off,none⟩) (d.toList.filter λx=> !p x).length cap)/\∃q,w'=putRow (Value.int .i64) (Sort.ahead w q) s off ((d.toList.filter λx=> !p x)++List.replicate (d.size-(d.toList.filter λx=> !p x).length) (0:Int)).toArray)
 (o:∀(b off:Nat) (n x:Int) (W:World),W.cell? ⟨b,off,none⟩=some (.int .i64 n)->FnGives P g #[.pointer (some ⟨b,off,none⟩)] #[.int .i64 x] (.bool (q n x)) W)
 (zs:List Int) (n:Int) (Nl:zs≠[]) (hl:zs.length<4611686018427387904):Says P f [.own false 1 (ints zs),.mG g [[si n]]] (.own false 1 (ints (zs.filter λx=> !q n x))):=by
 intro w S ds F _ H M R;obtain⟨d,e,rfl⟩:∃d e,ds=[d,e]:=by
  have D:ds.length=2:=by simpa using congrArg List.length H
  clear H M
  match ds,D with
  |[d,e],_=>exact⟨d,e,rfl⟩
 simp only[AAi,AA1,List.cons.injEq,and_true]at H;obtain⟨hd,C⟩:=H;obtain⟨F1,F2,h1,⟨F3,F4,h3,h4,_,h6⟩,C3,h5⟩:=A5.1 M;obtain⟨v,rfl⟩:∃v,e= .lf (.mG g [[si n]]) v:=by
  cases e with
  |lf a v=>rw[EU]at C;exact⟨v,by rw[C]⟩
  |own=>simp at C
  |agg=>simp at C
  |BI=>simp at C
 cases h3 with
 |lf _ _ _ dT hF3=>
 obtain⟨vs,rfl,L,J⟩:=dT;obtain⟨u,rfl⟩:∃u,vs=[u]:=by
  match vs,L with
  |[u],_=>exact⟨u,rfl⟩
 obtain⟨j,k,rfl,l,Z⟩:=J 0 [si n] u rfl rfl;obtain⟨u',G,NW⟩:=Z 0 (si n) rfl;cases NW;have X:=R j l;rcases Xi h1 hd with⟨I,rfl,KK⟩|⟨b,c,arr,E,I,T,hc,QS,N,hz,O⟩
 . exact absurd rfl Nl
 . have t:j≠b:=λe=>N (e▸l);have Q:∀x,F x↔F1 x:=λx=>by
    rw[h5 x];refine⟨λh=>h.elim id λh=> ?_,.inl⟩;rcases(h6 x).1 h with h|h
    . exact absurd h (hF3 x)
    . exact absurd h (h4 x)
   simp only[AAi,AA1,I,KP];have hp:PredAt P g #[.pointer (some ⟨j,k,none⟩)] (Value.int .i64) (q n) w:=λW x hB=>o j k n x W (by rw[hB.cell (p:=⟨j,k,none⟩) X];exact G);have K:PredOver P g #[.pointer (some ⟨j,k,none⟩)] (Value.int .i64) (q n) b 0 zs.toArray.size w:=λm os dk x hdk=>o j k n x _ (by rw[World.cell?_of_block (w:=w) (a:=⟨j,k,none⟩) (by show(sortWorld _ w b 0 m dk os).heap[j]? =w.heap[j]?;unfold sortWorld;rw[heap_grow_old _ _ (by simpa[putRow,mapBlock,Sort.ahead]using X)];simp[putRow,mapBlock,Sort.ahead,Array.getElem?_modify,Ne.symm t])];exact G);refine(B #[.pointer (some ⟨j,k,none⟩)] (q n) b 0 c zs.toArray w hp K (RJ T hz) (by simpa using by omega) (by simpa using QS)).mono ?_;rintro e w' ⟨rfl,m,rfl⟩;simp only[List.size_toArray]at*;have hle:(zs.filter λx=> !q n x).length≤zs.length:=ABg ..;have G8:((zs.filter λx=> !q n x)++List.replicate (zs.length-(zs.filter λx=> !q n x).length) (0:Int)).length=zs.length:=(by simp;omega);have U:=XE (n:=m) (os:= #[]) ((zs.filter λx=> !q n x)++List.replicate (zs.length-(zs.filter λx=> !q n x).length) 0).toArray T;have r:=bY (w:=w) (n:=m) (os:= #[]) (g:=b) (F:=F) ((zs.filter λx=> !q n x)++List.replicate (zs.length-(zs.filter λx=> !q n x).length) 0).toArray ((Q b).2 ((O b).2 rfl));rw[grow_empty]at U r;obtain⟨d',k1,k2,k3⟩:=V7 (S:=S) (c:=c) (zs:=zs.filter λx=> !q n x) U (by simp[putCells,hc]) (by omega) N (λi z hi=>nR ((zs.filter λx=> !q n x)++List.replicate (zs.length-(zs.filter λx=> !q n x).length) 0) (by rw[G8];omega) i z (by rw[AAr (AAS.1 hi).1];exact hi));refine⟨d',[.lf .dead d.Aw,.lf .dead (.func (.func g) #[] #[.pointer (some ⟨j,k,none⟩)])],S,λx=>x=b,by rw[k2],k1,by simp,by simp[I],?_,r,λ_ h=>h,λ_ h=>.inl h,λx r=> ?_,λx r=>.inl ((Q x).2 ((O x).2 r))⟩
   . refine A5.2 ⟨_,λ_=>False,k3,B4 λy V=> ?_,λ_ _ h=>h,λx=>by simp⟩;simp only[AAp,ABG,ABD]at V;rcases V with rfl|rfl<;>exact .lf _ _ _ trivial (λ_ h=>h)
   . have:=R x r;simpa[putRow,mapBlock,Sort.ahead]using this
end Go.Abs
