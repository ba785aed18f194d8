/- A calculus of abstract states of Go memory, and that it is sound. -/
import Derived.Test.YtdadohkcmclilaaGreatDoorCoreB
import Derived.Laws.Sem
import Derived.Sort.Grow
import Derived.Lib.SlicesCompact
import Derived.IntWalk
import Derived.MapKept
import Derived.Lib.OthersKept
import Derived.Shelf.GgClosure.Gives
import Derived.Shelf.Slices.SearchI
set_option linter.unusedSimpArgs false
set_option linter.unusedVariables false
namespace Go.Abs
variable {G:Gi} {P:Program} {w:World}
def vR (l:List Nat):Nat:=l.foldr (λs m=>m |||2^s) 0
theorem oM {l:List Nat} {s:Nat} (h:s∈l):(vR l).testBit s=true:=by
 induction l with
 |nil=>cases h
 |cons a l ih=>
  simp only[vR,List.foldr_cons,Nat.testBit_or,AAp];simp only[AAg]at h;rcases h with rfl|h
  . exact .inr (by simp)
  . exact .inl (ih h)
theorem ZC {a b:List Nat} (h:vR a &&& vR b=0) {s:Nat} (c:s∈a) (d:s∈b):False:=by
 have:(vR a &&& vR b).testBit s=true:=by rw[Nat.testBit_and,oM c,oM d];rfl
 rw[h]at this;simp at this
def bef (M:List Nat) (o:Oper):Nat:=o.after.toList.foldr (λe s=>if Region.binds .any e=true then s |||2^e.on |||M.getD e.on 0 else s) 0
theorem bef_bit {M:List Nat} {o:Oper} {i:Nat} (h:(bef M o).testBit i=true):∃e∈o.after.toList,Region.binds .any e=true/\(e.on=i∨(M.getD e.on 0).testBit i=true):=by
 unfold bef at h;generalize o.after.toList=l at h;induction l with
 |nil=>simp at h
 |cons e l ih=>
  simp only[List.foldr_cons]at h;split at h
  . rename_i d;simp only[Nat.testBit_or,AAp]at h;rcases h with(h|h)|h
    . obtain⟨a,b,c⟩:=ih h;exact⟨a,by simp[b],c⟩
    . exact⟨e,by simp,d,.inl (by simpa[Nat.testBit_two_pow]using h)⟩
    . exact⟨e,by simp,d,.inr h⟩
  . obtain⟨a,b,c⟩:=ih h;exact⟨a,by simp[b],c⟩
def Uk:List Oper->List Nat->List Nat
 |[],M=>M
 |o::os,M=>Uk os (M++[bef M o])
def Rj (M Ws Rs:List Nat) (j:Nat):Nat->Bool
 |0=>true
 |i+1=>((Ws.getD i 0 &&& Rs.getD j 0==0&&Rs.getD i 0 &&& Ws.getD j 0==0)||(M.getD j 0).testBit i)&&Rj M Ws Rs j i
theorem X5 {M b a:List Nat} {j n:Nat} (h:Rj M b a j n=true):∀i,i<n->(b.getD i 0 &&& a.getD j 0=0/\a.getD i 0 &&& b.getD j 0=0)∨(M.getD j 0).testBit i=true:=by
 induction n with
 |zero=>intro i hi;omega
 |succ n ih=>
  simp only[Rj,AAH,AAp,AAV]at h;intro i hi;by_cases e:i=n
  . subst e;exact h.1
  . exact ih h.2 i (by omega)
def Vc (M Ws Rs:List Nat):Nat->List Oper->Bool
 |_,[]=>true
 |j,o::os=>M.getD j 0==bef M o&&(o.after.toList.all λe=> !Region.binds .any e||decide (e.on<j))&&Rj M Ws Rs j j&&Vc M Ws Rs (j+1) os
theorem Z8 {M c b:List Nat} (os:List Oper):∀{j0:Nat},Vc M c b j0 os=true->∀i o,os[i]? =some o->M.getD (j0+i) 0=bef M o/\(∀e∈o.after.toList,Region.binds .any e=true->e.on<j0+i)/\∀x,x<j0+i->(c.getD x 0 &&& b.getD (j0+i) 0=0/\b.getD x 0 &&& c.getD (j0+i) 0=0)∨(M.getD (j0+i) 0).testBit x=true:=by
 induction os with
 |nil=>intro j0 _ i o h;simp at h
 |cons o os ih=>
  intro j0 h i o' a;simp only[Vc,AAH,AAV,AAN,AAp,ABT,AAZ]at h;obtain⟨⟨⟨d,f⟩,g⟩,j⟩:=h;cases i with
  |zero=>simp only[AAt,AAG]at a;subst a;refine⟨d,λe l k=>(f e l).resolve_left (by simp[k]),X5 g⟩
  |succ i=>
   simp only[AA2]at a
   have:=ih j i o' a;rw[show j0+1+i=j0+(i+1)from by omega]at this;exact this
def wOf (G:Gi) (DZ:List BP) (j:Nat):List Nat:=match DZ[j]? with|some o=>RT G o|none=>[]
theorem qT {n:Nat} {all:Array Oper} (os:List Oper):∀{a:List BP},LA P G n all os a=true->os.length=a.length/\∀(i:Nat) o io,os[i]? =some o->a[i]? =some io->Gm P G n all o io=true:=by
 induction os with
 |nil=>intro a h;cases a<;>simp[LA]at h ⊢
 |cons o os ih=>
  intro a h;cases a with
  |nil=>simp[LA]at h
  |cons io a=>
   simp only[LA,AAH]at h;obtain⟨e,f⟩:=ih h.2;refine⟨by simp[e],?_⟩;intro i o' d b c;cases i with
   |zero=>simp only[AAt,AAG]at b c;subst b;subst c;exact h.1
   |succ i=>exact f i o' d b c
theorem qY {p p':Nat->Bool} (h:∀j,p' j=true->p j=true) {i:Nat} (a:p i=true) (b:p' i=false):∀N,i<N->(List.range N).countP p'<(List.range N).countP p:=by
 have le:∀N,(List.range N).countP p'≤(List.range N).countP p:=λN=>List.countP_mono_left (λj _=>h j);intro N;induction N with
 |zero=>intro h;omega
 |succ N ih=>
  intro hi;rw[List.range_succ,List.countP_append,List.countP_append];by_cases e:i=N
  . subst e
    have:=le i;simp[a,b];omega
  . have c:=ih (by omega);have:(List.countP p' [N])≤List.countP p [N]:=List.countP_mono_left (λj _=>h j);omega
theorem V9 {n:Nat} {all:Array Oper} {o:Oper} {io:BP} (h:Gm P G n all o io=true):∀d,io.dst=some d->d.rs=G.Gc d.d:=by
 intro d hd;simp only[Gm,AAH]at h;have a:=h.1.1;rw[hd]at a;cases ho:o.dst with
 |none=>rw[ho]at a;simp[Dt]at a
 |some t=>rw[ho]at a;simp only[Dt,AAH,AAV]at a;exact a.1.2
mutual
def NZ:AV->AV
 | .sc _=>.un
 | .own b k rows=>.own b k (tY rows)
 | .agg cs=>.agg (l8 cs)
 | .BT cs=>.BT (l8 cs)
 |a=>a
def l8:List AV->List AV
 |[]=>[]
 |a::r=>NZ a::l8 r
def tY:List (List AV)->List (List AV)
 |[]=>[]
 |a::r=>l8 a::tY r
end
theorem l9 (l:List AV):l8 l=l.map NZ:=by
 induction l with
 |nil=>rfl
 |cons a r ih=>simp[l8,ih]
theorem aL (l:List (List AV)):tY l=l.map l8:=by
 induction l with
 |nil=>rfl
 |cons a r ih=>simp[tY,ih]
def Hv:AV->AV
 | .sc v=>.sc v
 |a=>NZ a
theorem TL {a b:AV} (h:Hv b=Hv a):NZ b=NZ a:=by cases a<;>cases b<;>simp only[Hv,NZ]at h ⊢ <;>first|rfl|exact h|cases h
theorem MA {a b:AV} (h:Hv b=Hv a) (c:match a with| .own .. | .agg _| .BT _=>False|_=>True):b=a:=by cases a<;>first|exact c.elim| (cases b<;>simp only[Hv,NZ]at h<;>first|rfl|exact h|cases h)
theorem TK {a:AV} {b:Bool} {k:Nat} {rows:List (List AV)} (h:NZ a= .own b k rows):∃c,a= .own b k c/\tY c=rows:=by cases a<;>simp only[NZ]at h<;>first| (cases h;done)| (cases h;exact⟨_,rfl,rfl⟩)
theorem skC_sl {a:AV} {b:Bool} {k:Nat} {rows:List (List AV)} (h:NZ a= .sl b k rows):a= .sl b k rows:=by cases a<;>simp only[NZ]at h<;>first|exact h|cases h
theorem oZ {r a:List (List AV)} (h:tY a=tY r):a.length=r.length:=by have:=congrArg List.length h;simpa[aL]using this
theorem skR_at {r a:List (List AV)} (h:tY a=tY r) (i:Nat):(a[i]?).map l8=(r[i]?).map l8:=by have:=congrArg (·[i]?) h;simpa[aL]using this
theorem skL_at {r a:List AV} (h:l8 a=l8 r) (i:Nat):(a[i]?).map NZ=(r[i]?).map NZ:=by have:=congrArg (·[i]?) h;simpa[l9]using this
theorem sub_sk (p:List Step):∀{a d:AV},NZ d=NZ a->(sub d p).map NZ=(sub a p).map NZ:=by
 induction p with
 |nil=>intro a d h;simp[sub,h]
 |cons s p ih=>
  obtain⟨i,j,t⟩:=s;intro a d h;have e:∀{f n:List AV},l8 n=l8 f->(match n[j]? with|some c=>sub c p|none=>none).map NZ=(match f[j]? with|some c=>sub c p|none=>none).map NZ:=by
   intro f n q
   have:=skL_at q j;cases h1:f[j]? with
   |none=>rw[h1]at this;simp at this;simp[this]
   |some c=>rw[h1]at this;simp only[Option.map_some]at this;obtain⟨c',g,l⟩:=Option.map_eq_some_iff.1 this;simp only[g];exact ih l
  cases a with
  |own b k rows=>
   obtain⟨m,rfl,r⟩:=TK h;simp only[sub]
   have:=skR_at r i;cases h1:rows[i]? with
   |none=>rw[h1]at this;simp at this;simp[this]
   |some row=>rw[h1]at this;simp only[Option.map_some]at this;obtain⟨o,g,l⟩:=Option.map_eq_some_iff.1 this;simp only[g];exact e l
  |agg f=>cases d<;>simp only[NZ,AV.agg.injEq,reduceCtorEq]at h;simp only[sub];exact e h
  |BT f=>cases d<;>simp only[NZ,AV.BT.injEq,reduceCtorEq]at h;simp only[sub];exact e h
  |_=>cases d<;>simp only[NZ]at h<;>first|rfl|cases h
theorem put_sk (q:List Step):∀{a t:AV} {l u:Value},sub a q=some (.sc l)->put a q (.sc u)=some t->NZ t=NZ a:=by
 induction q with
 |nil=>intro a t l u d e;simp only[sub,Option.some.injEq]at d;simp only[put,Option.some.injEq]at e;subst d;subst e;rfl
 |cons s q ih=>
  obtain⟨i,j,o⟩:=s;have g:∀{f:List AV} {c c':AV},f[j]? =some c->NZ c'=NZ c->l8 (f.set j c')=l8 f:=by
   intro f c c' d e;rw[l9,l9,List.map_set,e];obtain⟨n,rfl⟩:=List.getElem?_eq_some_iff.1 d;apply List.ext_getElem?;intro m;rw[List.getElem?_set];split
   . rename_i h;subst h;simp[n]
   . rfl
  intro a t l u d e;cases a with
  |own b k rows=>
   simp only[sub]at d;simp only[put]at e;cases hr:rows[i]? with
   |none=>rw[hr]at d;cases d
   |some row=>
    rw[hr]at d e;simp only at d e;cases hc:row[j]? with
    |none=>rw[hc]at d;cases d
    |some c=>
     rw[hc]at d e;simp only at d e;cases hp:put c q (.sc u)with
     |none=>rw[hp]at e;cases e
     |some c'=>
      rw[hp]at e;obtain rfl:=Option.some.inj e;simp only[NZ,AV.own.injEq,true_and];rw[aL,aL,List.map_set,g hc (ih d hp)];obtain⟨hi,rfl⟩:=List.getElem?_eq_some_iff.1 hr;apply List.ext_getElem?;intro m;rw[List.getElem?_set];split
      . rename_i h;subst h;simp[hi]
      . rfl
  |agg f=>
   simp only[sub]at d;simp only[put]at e;cases hc:f[j]? with
   |none=>rw[hc]at d;cases d
   |some c=>
    rw[hc]at d e;simp only at d e;cases hp:put c q (.sc u)with
    |none=>rw[hp]at e;cases e
    |some c'=>rw[hp]at e;obtain rfl:=Option.some.inj e;simp only[NZ,AV.agg.injEq];exact g hc (ih d hp)
  |BT f=>
   simp only[sub]at d;simp only[put]at e;cases hc:f[j]? with
   |none=>rw[hc]at d;cases d
   |some c=>
    rw[hc]at d e;simp only at d e;cases hp:put c q (.sc u)with
    |none=>rw[hp]at e;cases e
    |some c'=>rw[hp]at e;obtain rfl:=Option.some.inj e;simp only[NZ,AV.BT.injEq];exact g hc (ih d hp)
  |_=>simp[sub]at d
theorem sub_snoc (p:List Step):∀{a:AV} {b:Bool} {k:Nat} {rows:List (List AV)} {d:List AV} {c:AV} {i j g:Nat},sub a p=some (.own b k rows)->rows[i]? =some d->d[j]? =some c->sub a (p++[(i,j,g)])=some c:=by
 induction p with
 |nil=>intro a b k rows d c i j g h e f;simp only[sub,Option.some.injEq]at h;subst h;simp[sub,e,f]
 |cons s p ih=>
  obtain⟨i0,j0,l⟩:=s;intro a b k rows d c i j g h e f;cases a with
  |own b0 k1 KX=>
   simp only[List.cons_append,sub]at h ⊢;cases hr:KX[i0]? with
   |none=>rw[hr]at h;cases h
   |some r0=>
    rw[hr]at h;simp only at h ⊢;cases hc:r0[j0]? with
    |none=>rw[hc]at h;cases h
    |some c0=>rw[hc]at h;exact ih h e f
  |agg cs=>
   simp only[List.cons_append,sub]at h ⊢;cases hc:cs[j0]? with
   |none=>rw[hc]at h;cases h
   |some c0=>rw[hc]at h;exact ih h e f
  |BT cs=>
   simp only[List.cons_append,sub]at h ⊢;cases hc:cs[j0]? with
   |none=>rw[hc]at h;cases h
   |some c0=>rw[hc]at h;exact ih h e f
  |_=>simp[sub]at h
def SkA (G:Gi) (σ σ':Sg):Ar->Prop
 | .t s=>(∀r∈Fg G (.t s),Hv (σ' r)=Hv (σ r))/\FM (G.Gc s) (σ s)=true
 | .c _=>True
theorem aP {a e:AV} {p:List Step} (h:Hv e=Hv a) {b:Bool} {k:Nat} {rows:List (List AV)} (j:sub a p=some (.own b k rows)):∃d,sub e p=some (.own b k d)/\tY d=tY rows:=by have:=sub_sk p (TL h);rw[j]at this;simp only[Option.map_some,NZ]at this;obtain⟨c,f,g⟩:=Option.map_eq_some_iff.1 this;obtain⟨d,rfl,i⟩:=TK g;exact⟨d,f,i⟩
theorem sub_slS {a d:AV} {p:List Step} (h:Hv d=Hv a) {b:Bool} {k:Nat} {rows:List (List AV)} (g:sub a p=some (.sl b k rows)):sub d p=some (.sl b k rows):=by have:=sub_sk p (TL h);rw[g]at this;simp only[Option.map_some,NZ]at this;obtain⟨c,e,f⟩:=Option.map_eq_some_iff.1 this;rw[skC_sl f]at e;exact e
theorem bZ {σ σ':Sg} {x:Ar} (h:SkA G σ σ' x) {v:Nat×List Step×Nat×Nat×Nat} (a:D9 σ x=some v):D9 σ' x=some v/\Hv (σ' v.1)=Hv (σ v.1):=by
 cases x with
 |c=>cases a
 |t s=>
  obtain⟨m,g⟩:=h;have d:=m s (by simp[Fg]);simp only[D9]at a ⊢;cases hs:σ s with
  |own b k rows=>
   rw[hs]at a d;obtain⟨f,n,_⟩:=TK (show NZ (σ' s)= .own b k (tY rows)from by have:=TL d;simpa[NZ]using this);rw[n];cases b with
   |false=>cases a
   |true=>simp only[Option.some.injEq]at a ⊢;subst a;exact⟨rfl,by simpa[hs,n]using d⟩
  |al r p=>
   rw[hs]at a d g;have e:=MA d trivial;rw[e];simp only[Jd,List.contains_iff_mem]at g;have l:=m r (by simp[Fg,g]);simp only at a ⊢;split at a
   . rename_i k rows o;obtain⟨f,q,_⟩:=aP l o;rw[q];simp only[Option.some.injEq]at a ⊢;subst a;exact⟨rfl,l⟩
   . cases a
  |KJ r p i j k=>rw[hs]at a d g;have e:=MA d trivial;rw[e];simp only[Ve,List.contains_iff_mem]at g;have l:=m r (by simp[Fg,g]);simp only[Option.some.injEq]at a ⊢;subst a;exact⟨rfl,l⟩
  |_=>rw[hs]at a;cases a
theorem sk_fad {σ σ':Sg} {off:Nat} {x:Ar} (h:SkA G σ σ' x) {v:AV} (a:valOf (.UG off x) σ=some v):valOf (.UG off x) σ'=some v:=by
 cases x with
 |c=>cases a
 |t s=>
  have b:=h.1 s (by simp[Fg]);simp only[valOf]at a ⊢;cases hs:σ s with
  |fp d=>rw[hs]at a b;rw[MA b trivial];exact a
  |vb q o f=>rw[hs]at a b;rw[MA b trivial];exact a
  |_=>
   rw[hs]at a;simp only at a;cases ha:D9 σ (.t s)with
   |none=>rw[ha]at a;cases a
   |some q=>
    rw[ha]at a;obtain⟨i,_⟩:=bZ h ha;have hn:∀d,σ' s≠ .fp d:=λd e=>(by rw[e,hs]at b;simp[Hv,NZ]at b);have g:∀q o f,σ' s≠ .vb q o f:=λq o f e=>(by rw[e,hs]at b;simp[Hv,NZ]at b);cases F7:σ' s with
    |fp d=>exact absurd F7 (hn d)
    |vb q o f=>exact absurd F7 (g q o f)
    |_=>simp only[i];exact a
theorem sk_lda {σ σ':Sg} {x:Ar} (h:SkA G σ σ' x) {v:AV} (a:valOf (.Wv x) σ=some v):valOf (.Wv x) σ'=some v:=by
 simp only[valOf]at a ⊢;split at a
 . rename_i r p i j k u;obtain⟨l,e⟩:=bZ h u;rw[l];simp only at e ⊢;split at a
   . rename_i b D rows g;obtain⟨c,m,n⟩:=aP e g;rw[m];simp only;split at a
     . rename_i z y
       have:=skR_at n i;rw[y]at this;obtain⟨f,o,q⟩:=Option.map_eq_some_iff.1 this;rw[o];simp only;split at a
       . rename_i C E B w
         have:=skL_at q j;rw[w]at this;simp only[Option.map_some,NZ]at this;obtain⟨c',s,t⟩:=Option.map_eq_some_iff.1 this;obtain⟨d,rfl,_⟩:=TK t;rw[s];exact a
       . cases a
     . cases a
   . cases a
 . cases a
theorem sk_iad {σ σ':Sg} {k:Nat} {x i:Ar} (h:SkA G σ σ' x) (C:SkA G σ σ' i) {v:AV} (l:valOf (.Va k x i) σ=some v):valOf (.Va k x i) σ'=some v:=by
 simp only[valOf]at l ⊢;have hi:∀n,iY (ar σ i)=some n->iY (ar σ' i)=some n:=by
  intro n hn;cases i with
  |c=>exact hn
  |t s=>
   have f:=C.1 s (by simp[Fg]);simp only[ar]at hn ⊢;cases hs:σ s with
   |sc u=>rw[hs]at hn f;rw[MA f trivial];exact hn
   |_=>rw[hs]at hn;cases hn
 split at l
 . rename_i z rows r p n e hn;rw[hi n hn];have:∃d,hd σ' x=some (.own false z d,some (r,p))/\d.length=rows.length:=by
    cases x with
    |c a=>cases a<;>simp[hd]at e
    |t s=>
     have f:=h.1 s (by simp[Fg]);have g:=h.2;simp only[hd]at e ⊢;cases hs:σ s with
     |own b0 k0 KX=>rw[hs]at e f;simp only[Option.some.injEq,Prod.mk.injEq,AV.own.injEq]at e;obtain⟨⟨rfl,rfl,rfl⟩,rfl,rfl⟩:=e;obtain⟨d,B,D⟩:=TK (show NZ (σ' s)= .own false k0 (tY KX)from by have:=TL f;simpa[NZ]using this);rw[B];exact⟨d,rfl,oZ D⟩
     |al r0 p0=>
      rw[hs]at e f g;rw[MA f trivial];simp only[Jd,List.contains_iff_mem]at g;have y:=h.1 r0 (by simp[Fg,g]);simp only at e ⊢;split at e
      . rename_i m w;simp only[Option.some.injEq,Prod.mk.injEq]at e;obtain⟨rfl,rfl,rfl⟩:=e;obtain⟨d,j,q⟩:=aP y w;rw[j];exact⟨d,rfl,oZ q⟩
      . cases e
     |_=>rw[hs]at e;simp at e
   obtain⟨d,j,q⟩:=this;rw[j];simp only[q];exact l
 . rename_i b z rows o n e hn;rw[hi n hn];have:∃o',hd σ' x=some (.sl b z rows,o'):=by
    cases x with
    |c a=>cases a<;>simp[hd]at e
    |t s=>
     have f:=h.1 s (by simp[Fg]);have g:=h.2;simp only[hd]at e ⊢;cases hs:σ s with
     |sl b0 k0 KX=>rw[hs]at e f;rw[MA f trivial];simp only[Option.some.injEq,Prod.mk.injEq]at e;exact⟨none,by rw[e.1]⟩
     |al r0 p0=>
      rw[hs]at e f g;rw[MA f trivial];simp only[Jd,List.contains_iff_mem]at g;have y:=h.1 r0 (by simp[Fg,g]);simp only at e ⊢;split at e
      . rename_i m w;simp only[Option.some.injEq,Prod.mk.injEq]at e;obtain⟨rfl,_⟩:=e;rw[sub_slS y w];exact⟨_,rfl⟩
      . cases e
     |_=>rw[hs]at e;simp at e
   obtain⟨o',j⟩:=this;rw[j];exact l
 . cases l
def W2 (G:Gi) (o:BP):List Nat:=match o.op,o.guard,o.dst with
 | .Vg a _,none,none=>(Fg G a).map λs=>2*s+1
 |_,_,_=>(RT G o).flatMap λs=>[2*s,2*s+1]
def R2 (G:Gi) (o:BP):List Nat:=W2 G o++(match o.op,o.guard,o.dst with
 | .Vg _ v,none,none=>(Fg G v).map λs=>2*s+1
 | .UG _ x,none,some _=>(Fg G x).map λs=>2*s
 | .Wv x,none,some _=>(Fg G x).map λs=>2*s
 | .Va _ x i,none,some _=>(Fg G x++Fg G i).map λs=>2*s
 |_,_,_=>(aF G o).map λs=>2*s+1)
theorem NP {l:List Nat} {s:Nat}:2*s+1∈(l.flatMap λs=>[2*s,2*s+1])↔s∈l:=by simp only[List.mem_flatMap,List.mem_cons,List.not_mem_nil,or_false];exact⟨λ⟨a,b,c⟩=>(show a=s by omega)▸b,λh=>⟨s,h,.inr rfl⟩⟩
theorem eE {l:List Nat} {s:Nat}:2*s∈(l.flatMap λs=>[2*s,2*s+1])↔s∈l:=by simp only[List.mem_flatMap,List.mem_cons,List.not_mem_nil,or_false];exact⟨λ⟨a,b,c⟩=>(show a=s by omega)▸b,λh=>⟨s,h,.inl rfl⟩⟩
theorem Ph {kl:List Nat} {d:Nat} {σ:Sg} (s:Nat):JC kl d σ s=if s∈kl then DT d (σ s)else σ s:=by unfold JC;cases kl<;>simp
theorem wr_both {d:Dw} {v:AV} {σ σ' τ:Sg} (f:∀s∈d.kl,σ' s=σ s) (c:wr d v σ=some τ):∃a,wr d v σ'=some a/\(∀s∈d.d::d.kl,a s=τ s)/\∀s,s∉d.d::d.kl->a s=σ' s:=by
 unfold wr at c ⊢;split at c
 . rename_i g;obtain rfl:=Option.some.inj c;rw[if_pos g];refine⟨_,rfl,λs b=> ?_,λs b=> ?_⟩
   . by_cases e:s=d.d
     . subst e;simp[DP]
     . have:s∈d.kl:=(by simpa[e]using b);rw[Ba _ _ e,Ba _ _ e,Ph,Ph,f s this]
   . simp only[List.mem_cons,not_or]at b;rw[Ba _ _ b.1,Ph,if_neg b.2]
 . cases c
theorem iN {σ σ' τ:Sg} {o:BP} (I:OW o=true) (rZ:∀d,o.dst=some d->d.rs=G.Gc d.d) (F:∀s,FM (G.Gc s) (σ s)=true) (D:∀s,2*s+1∈R2 G o->σ' s=σ s) (W:∀s,2*s∈R2 G o->Hv (σ' s)=Hv (σ s)) (f:KK P G o (· =τ) σ):
 ∃e,KK P G o (· =e) σ'/\(∀s,2*s+1∈W2 G o->e s=τ s)/\∀s,2*s+1∉W2 G o->e s=σ' s:=by
 have q:W2 G o=((RT G o).flatMap λs=>[2*s,2*s+1])->(∀s,s∈aF G o->2*s+1∈R2 G o)->∃e,KK P G o (· =e) σ'/\(∀s,2*s+1∈W2 G o->e s=τ s)/\∀s,2*s+1∉W2 G o->e s=σ' s:=by
  intro C M;obtain⟨e,H,B⟩:=Yf I rZ (⟨λs b=>D s (M s b),λs _=>F s⟩:Ag G (· ∈aF G o) σ σ') f;refine⟨e,H,λs b=> ?_,λs b=> ?_⟩
  . rw[C,NP]at b;exact B.ag.eq s b
  . rw[C,NP]at b;exact(B.off s b).1
 have h:∀d op,o=⟨some d,op,none⟩->takes op=[]->W2 G o=((RT G o).flatMap λs=>[2*s,2*s+1])->(∀K σ,D8 P G ⟨some d,op,none⟩ K σ=match(match valOf op σ with|some v=>wr d v σ|none=>none)with|some τ=>K τ|none=>False)->
  (∀v,valOf op σ=some v->valOf op σ'=some v)->∃e,KK P G o (· =e) σ'/\(∀s,2*s+1∈W2 G o->e s=τ s)/\∀s,2*s+1∉W2 G o->e s=σ' s:=by
  intro d op N X J L R;have y:RT G o=d.d::d.kl:=by subst N;simp[RT,X]
  subst N;simp only[KK]at f ⊢;rw[L]at f;cases m:valOf op σ with
  |none=>rw[m]at f;exact f.elim
  |some v=>
   rw[m]at f;simp only at f;cases hwv:wr d v σ with
   |none=>rw[hwv]at f;exact f.elim
   |some υ=>
    rw[hwv]at f;simp only at f;subst f;obtain⟨e,H,B,T⟩:=wr_both (σ':=σ') (λs b=>D s (by simp only[R2,List.mem_append];left;rw[J,NP,y];simp[b])) hwv;refine⟨e,?_,λs b=> ?_,λs b=> ?_⟩
    . rw[L,R v m];simp only[H]
    . rw[J,NP,y]at b;exact B s b
    . rw[J,NP,y]at b;exact T s b
 obtain⟨dst,op,guard⟩:=o;have n:∀x:Ar,(∀s∈Fg G x,2*s∈R2 G ⟨dst,op,guard⟩)->SkA G σ σ' x:=by
  intro x hx;cases x with
  |c=>trivial
  |t s=>exact⟨λr z=>W r (hx r z),F s⟩
 cases guard with
 |some g=>exact q (by cases op<;>rfl) (λs b=>by cases op<;>(simp only[R2,List.mem_append,List.mem_map];exact .inr ⟨s,b,rfl⟩))
 |none=>
  cases dst with
  |none=>
   cases op with
   |Vg a v=>
    simp only[KK,D8]at f ⊢;have m:ar σ' v=ar σ v:=by
     cases v with
     |c=>rfl
     |t s=>exact D s (by simp[R2,Fg])
    have w:∀s∈Fg G a,σ' s=σ s:=λs b=>D s (by simp only[R2,W2,List.mem_append,List.mem_map];exact .inl ⟨s,b,rfl⟩);have Q:Ag G (· ∈Fg G a) σ σ':=⟨w,λs _=>F s⟩;have S:cOK a=true:=(by simp only[OW,takes,Bool.and_eq_true,List.all_eq_true]at I;exact I.1 a (by simp));have O:Uh G (· ∈Fg G a) a:=by
     cases a with
     |c c=>exact S
     |t s=>exact⟨by simp[Fg],λr z=>by simp[Fg,z]⟩
    split at f
    . rename_i υ l;subst f;simp only[F6]at l ⊢;rw[m,Q.D9 O];split at l
      . rename_i u Z;split at l
        . rename_i r p i j k U;have z:r∈Fg G a:=Q.NC O U;rw[w r z];split at l
          . rename_i b0 k0 rows Bv;split at l
            . rename_i row Du;split at l
              . rename_i u0 V;split at l
                . rename_i t CF;cases l;refine⟨DP σ' r t,rfl,λs b=> ?_,λs b=> ?_⟩
                  . have E:s∈Fg G a:=(by simp only[W2,List.mem_map]at b;obtain⟨x,C,M⟩:=b;have:x=s:=(by omega);exact this▸C);simp only[DP];split
                    . rfl
                    . exact w s E
                  . have E:s≠r:=(by rintro rfl;apply b;simp only[W2,List.mem_map];exact⟨s,z,rfl⟩);rw[Ba _ _ E]
                . cases l
              . cases l
            . cases l
          . cases l
        . cases l
      . cases l
    . exact f.elim
   |_=>exact q rfl (λs b=>by simp only[R2,List.mem_append,List.mem_map];exact .inr ⟨s,b,rfl⟩)
  |some d=>
   cases op with
   |UG off x=>exact h d _ rfl rfl rfl (λK σ=>rfl) (λv m=>sk_fad (n x λs b=>by simp only[R2,List.mem_append,List.mem_map];exact .inr ⟨s,b,rfl⟩) m)
   |Wv x=>exact h d _ rfl rfl rfl (λK σ=>rfl) (λv m=>sk_lda (n x λs b=>by simp only[R2,List.mem_append,List.mem_map];exact .inr ⟨s,b,rfl⟩) m)
   |Va k x i=>exact h d _ rfl rfl rfl (λK σ=>rfl) (λv m=>sk_iad (n x λs b=>by simp only[R2,List.mem_append,List.mem_map];exact .inr ⟨s,.inl b,rfl⟩) (n i λs b=>by simp only[R2,List.mem_append,List.mem_map];exact .inr ⟨s,.inr b,rfl⟩) m)
   |_=>exact q rfl (λs b=>by simp only[R2,List.mem_append,List.mem_map];exact .inr ⟨s,b,rfl⟩)
theorem Vx {σ τ:Sg} {o:BP} (w:OW o=true) (K:∀d,o.dst=some d->d.rs=G.Gc d.d) (B:∀s,FM (G.Gc s) (σ s)=true) (n:KK P G o (· =τ) σ):
 (∀s,2*s+1∉W2 G o->τ s=σ s)/\(∀s,2*s∉W2 G o->Hv (τ s)=Hv (σ s))/\∀s,FM (G.Gc s) (τ s)=true:=by
 have q:=aop_off w K B n;have f:W2 G o=((RT G o).flatMap λs=>[2*s,2*s+1])->(∀s,2*s+1∉W2 G o->τ s=σ s)/\(∀s,2*s∉W2 G o->Hv (τ s)=Hv (σ s))/\∀s,FM (G.Gc s) (τ s)=true:=by
  intro h;refine⟨λs l=> ?_,λs l=> ?_,q.2⟩
  . rw[h,NP]at l;exact q.1 s l
  . rw[h,eE]at l;rw[q.1 s l]
 obtain⟨dst,op,guard⟩:=o;cases guard with
 |some g=>exact f (by cases op<;>rfl)
 |none=>
  cases dst with
  |some d=>exact f (by cases op<;>rfl)
  |none=>
   cases op with
   |Vg a v=>
    simp only[KK,D8]at n;split at n
    . rename_i R b;subst n;simp only[F6]at b;split at b
      . rename_i u I;split at b
        . rename_i r p i j k H;have F:cOK a=true:=(by simp only[OW,takes,Bool.and_eq_true,List.all_eq_true]at w;exact w.1 a (by simp));have M:Ag G (· ∈Fg G a) σ σ:=⟨λ_ _=>rfl,λs _=>B s⟩;have J:Uh G (· ∈Fg G a) a:=by
           cases a with
           |c c=>exact F
           |t s=>exact⟨by simp[Fg],λr z=>by simp[Fg,z]⟩
          have z:r∈Fg G a:=M.NC J H;split at b
          . rename_i N O rows m;split at b
            . rename_i L E;split at b
              . rename_i Q x;split at b
                . rename_i t D;cases b;refine⟨λs l=> ?_,λs _=> ?_,q.2⟩
                  . rw[Ba];rintro rfl;apply l;simp only[W2,List.mem_map];exact⟨s,z,rfl⟩
                  . by_cases e:s=r
                    . subst e;rw[BG];have h:=put_sk _ (sub_snoc p m E x) D;have C:∀u,σ s≠ .sc u:=λu e=>by
                       rw[e]at m;cases p with
                       |nil=>simp[sub]at m
                       |cons=>simp[sub]at m
                      have y:∀u,t≠ .sc u:=λu e=>by subst e;cases hσ:σ s<;>rw[hσ]at h m<;>first|exact absurd hσ (C _)| (cases p<;>simp[sub]at m;done)| (simp[NZ]at h;done)
                      cases hσ:σ s<;>first|exact absurd hσ (C _)| (rw[hσ]at h;cases t<;>first|exact absurd rfl (y _)|exact h)
                    . rw[Ba _ _ e]
                . cases b
              . cases b
            . cases b
          . cases b
        . cases b
      . cases b
    . exact n.elim
   |_=>exact f rfl
def K8 (G:Gi) (ops:List Oper) (DZ:List BP):Bool:=
 DZ.all OW&&Vc (Uk ops []) (DZ.map λo=>vR (W2 G o)) (DZ.map λo=>vR (R2 G o)) 0 ops
def GR (G:Gi) (DZ:List BP) (j:Nat):List Nat:=match DZ[j]? with|some o=>W2 G o|none=>[]
def U3 (G:Gi) (DZ:List BP) (j:Nat):List Nat:=match DZ[j]? with|some o=>R2 G o|none=>[]
end Go.Abs
namespace Go.Abs
variable {G:Gi} {P:Program} {w:World}
theorem Ro {n:Nat} {w0:World} {S0 U0:Nat->Prop} {ops:Array Oper} {K:Sg->Prop} (Q:Exit->Act->World->Prop) {f:List BP} {a:Act} {w:World} {σ:Sg}
 (h:Rel G n w0 S0 U0 a w σ) (hN:f.length=ops.size) (B:∀(i:Nat) (o:Oper) (io:BP),ops.toList[i]? =some o->f[i]? =some io->∀d:Dw,io.dst=some d->d.rs=G.Gc d.d) (hd:K8 G ops.toList f=true)
 (q:Nat->Sg) (hq0:q 0=σ) (Ge:∀i io,f[i]? =some io->KK P G io (· =q (i+1)) (q i)) (hK:K (q f.length)) (J:(Nat->Bool)->Act->World->Prop) (hQ:∀(L:Nat->Bool) a w σ,(∀j,j<ops.size->L j=true)->J L a w->Rel G n w0 S0 U0 a w σ->K σ->Q .normal a w) (hJ0:J (λj=>(Array.replicate ops.size false).getD j true) a w)
 (hS:∀(L:Nat->Bool) (i:Nat) o io a w σ F,ops[i]? =some o->f[i]? =some io->i<ops.size->L i=false->(∀x,((Uk ops.toList []).getD i 0).testBit x=true->L x=true)->(∀j,j<ops.size->L j=true->∀x,((Uk ops.toList []).getD j 0).testBit x=true->L x=true)->
  J L a w->Rel G n w0 S0 U0 a w σ->KK P G io (· =F) σ->(∀s,F s=q (E6 (λj=>(L j||j==i)) (GR G f) (2*s+1) ops.size) s)->wpOp P ops Q i (λa' w'=>(∃σ',Rel G n w0 S0 U0 a' w' σ'/\σ'=F)/\J (λj=>(L j||j==i)) a' w') a w):
 wpAny P .any ops Q ops.size (Array.replicate ops.size false) a w:=by
 simp only[K8,AAH,AAN]at hd;obtain⟨FW,Jo⟩:=hd;generalize hM:Uk ops.toList []=M at Jo hS;have UO:=Z8 _ Jo;simp only[ABN]at UO;have O:∀i,i<ops.size->∃o io,ops[i]? =some o/\ops.toList[i]? =some o/\f[i]? =some io:=by intro i hi;refine⟨ops[i],f[i]'(by omega),?_,?_,?_⟩<;>simp[hi,hN]
 -- the states of the text's order
 have hwf:∀i,i≤ops.size->∀s,FM (G.Gc s) (q i s)=true:=by
  intro i;induction i with
  |zero=>intro _ s;rw[hq0];obtain⟨S,δ,Fr,_,_,_,rfl,CF,_⟩:=h;exact CF.rt s
  |succ i ih=>intro hi;obtain⟨o,io,t,u,l⟩:=O i (by omega);exact(Vx (FW io (AAS l)) (B i o io u l) (ih (by omega)) (Ge i io l)).2.2
 have hofff:∀j s,j<ops.size->2*s+1∉GR G f j->q (j+1) s=q j s:=by intro j s r k;obtain⟨o,io,t,u,l⟩:=O j r;exact(Vx (FW io (AAS l)) (B j o io u l) (hwf j (by omega)) (Ge j io l)).1 s (by simpa[GR,l]using k)
 have z:∀j s,j<ops.size->2*s∉GR G f j->Hv (q (j+1) s)=Hv (q j s):=by intro j s r k;obtain⟨o,io,t,u,l⟩:=O j r;exact(Vx (FW io (AAS l)) (B j o io u l) (hwf j (by omega)) (Ge j io l)).2.1 s (by simpa[GR,l]using k)
 -- the states with their skeletons beside them
 let Q2:Nat->Sg:=λj x=>if x%2=1 then q j (x/2)else Hv (q j (x/2))
 have Yb:∀j s,Q2 j (2*s+1)=q j s:=λj s=>by
  show(if(2*s+1)%2=1 then q j ((2*s+1)/2)else Hv (q j ((2*s+1)/2)))=q j s
  rw[AAP (by omega),show(2*s+1)/2=s from by omega]
 have Za:∀j s,Q2 j (2*s)=Hv (q j s):=λj s=>by
  show(if(2*s)%2=1 then q j ((2*s)/2)else Hv (q j ((2*s)/2)))=Hv (q j s)
  rw[AAO (by omega),show(2*s)/2=s from by omega]
 have SB:∀j x,j<ops.size->x∉GR G f j->Q2 (j+1) x=Q2 j x:=by
  intro j x r H;obtain⟨s,rfl|rfl⟩:∃s,x=2*s∨x=2*s+1:=⟨x/2,by omega⟩
  . rw[Za,Za];exact z j s r H
  . rw[Yb,Yb];exact hofff j s r H
 have hWs:∀j,j<ops.size->(f.map λo=>vR (W2 G o)).getD j 0=vR (GR G f j):=by intro j r;obtain⟨o,io,t,u,l⟩:=O j r;simp[List.getD_eq_getElem?_getD,GR,l]
 have hRs:∀j,j<ops.size->(f.map λo=>vR (R2 G o)).getD j 0=vR (U3 G f j):=by intro j r;obtain⟨o,io,t,u,l⟩:=O j r;simp[List.getD_eq_getElem?_getD,U3,l]
 have zW:∀j s,s∈GR G f j->s∈U3 G f j:=by
  intro j s k;cases l:f[j]? with
  |none=>simp[GR,l]at k
  |some io=>simp only[GR,U3,l]at k ⊢;simp only[R2,AAa];exact .inl k
 have U:∀j s,2*s∈GR G f j->2*s+1∈GR G f j:=by
  intro j s k;cases l:f[j]? with
  |none=>simp[GR,l]at k
  |some io=>
   simp only[GR,l]at k ⊢;unfold W2 at k ⊢;split at k
   . simp only[ABR]at k;obtain⟨x,_,H⟩:=k;omega
   . rw[eE]at k;rw[NP];exact k
 -- pairs that meet are ordered
 have y:∀i j s,i<j->j<ops.size->(s∈GR G f i/\s∈U3 G f j)∨(s∈U3 G f i/\s∈GR G f j)->(M.getD j 0).testBit i=true:=by
  intro i j s Ib r k;obtain⟨o,io,t,u,l⟩:=O j r;rcases(UO j o u).2.2 i Ib with⟨g1,g2⟩|g
  . rw[hWs i (by omega),hRs j r]at g1;rw[hRs i (by omega),hWs j r]at g2;rcases k with k|k
    . exact(ZC g1 k.1 k.2).elim
    . exact(ZC g2 k.1 k.2).elim
  . exact g
 -- any order
 have main:∀(fuel:Nat) (b:Array Bool) (a:Act) (w:World),b.size=ops.size->(List.range ops.size).countP (λi=> !b.getD i true)≤fuel->
  (∀j,j<ops.size->b.getD j true=true->∀i,(M.getD j 0).testBit i=true->b.getD i true=true)->
  (∃σ,Rel G n w0 S0 U0 a w σ/\∀s,σ s=q (E6 (λj=>b.getD j true) (GR G f) (2*s+1) ops.size) s)->J (λj=>b.getD j true) a w->wpAny P .any ops Q fuel b a w:=by
  have done:∀(b:Array Bool) (a:Act) (w:World),(∀j,j<ops.size->b.getD j true=true)->J (λj=>b.getD j true) a w->(∃σ,Rel G n w0 S0 U0 a w σ/\∀s,σ s=q (E6 (λj=>b.getD j true) (GR G f) (2*s+1) ops.size) s)->Q .normal a w:=by
   rintro b a w W hJ ⟨σ,t,u⟩;have:σ=q ops.size:=by
    funext s;rw[u s]
    have:=sM W SB (2*s+1) _ (AAr _);rw[Yb,Yb]at this;exact this
   subst this;exact hQ _ a w _ W hJ t (by rw[← hN];exact hK)
  intro fuel;induction fuel with
  |zero=>
   intro b a w P3 hcnt Lo CF hJ;have W:∀j,j<ops.size->b.getD j true=true:=by
    intro j r;have X:(List.range ops.size).countP (λi=> !b.getD i true)=0:=(by omega);rw[List.countP_eq_zero]at X
    have:=X j (by simp[r]);simpa using this
   refine⟨?_,done b a w W hJ CF⟩;simp only[Region.ready,List.filter_eq_nil_iff,List.mem_range];intro j r;simp[W j r]
  |succ fuel ih=>
   intro b a w P3 hcnt Lo CF hJ;refine⟨λhnil=> ?_,λi hi=> ?_⟩
   . refine done b a w ?_ hJ CF;intro j;induction j using Nat.strongRecOn with
     |_ j ihj=>
      intro r;cases v:b.getD j true with
      |true=>rfl
      |false=>
       exfalso;obtain⟨o,io,t,u,l⟩:=O j r;have:j∈Region.ready .any ops b:=by
        simp only[Region.ready,List.mem_filter,List.mem_range];refine⟨r,?_⟩;simp only[v,Bool.not_false,AAd,t,AAk,Option.getD_some,Array.all_eq_true'];intro e he;cases hb:Region.binds .any e with
        |false=>rfl
        |true=>have Df:=(UO j o u).2.1 e (by simpa using he) hb;have hl':=ihj e.on Df (by omega);have k:e.on<b.size:=(by omega);simp only[AAc,Array.getElem?_eq_getElem k,Option.getD_some]at hl' ⊢;simp[hl']
       rw[hnil]at this;cases this
   . simp only[Region.ready,List.mem_filter,List.mem_range,AAH,ABT]at hi;obtain⟨C,N,RZ⟩:=hi;obtain⟨o,io,t,u,l⟩:=O i C;simp only[t,AAk,Option.getD_some,Array.all_eq_true',AAp,ABT]at RZ;obtain⟨hsp1,hsp2,_⟩:=UO i o u;obtain⟨σ,HZ,hσ⟩:=CF
     -- all that is ahead of i is listed
     have Js:∀x,(M.getD i 0).testBit x=true->b.getD x true=true:=by
      intro x H;rw[hsp1]at H;obtain⟨e,he,hb,hor⟩:=bef_bit H;have Df:=hsp2 e he hb;have hle:b.getD e.on true=true:=(by have:=(RZ e (by simpa using he)).resolve_left (by simp[hb]);have k:e.on<b.size:=(by omega);simp only[AAc,Array.getElem?_eq_getElem k,Option.getD_some]at this ⊢;exact this);rcases hor with rfl|hor
      . exact hle
      . exact Lo e.on (by omega) hle x hor
     have I:∀j,(b.setIfInBounds i true).getD j true=(b.getD j true||j==i):=by
      intro j;simp only[AAc,ABG];by_cases e:i=j
      . subst e;simp;split<;>simp
      . have e':¬j=i:=λx=>e x.symm;simp[e,e']
     have YB:∀j s,j<i->s∈GR G f j->s∈U3 G f i->b.getD j true=true:=λj s r k F7=>Js j (y j i s r C (.inl ⟨k,F7⟩));have Mk:∀j s,i<j->j<ops.size->s∈GR G f j->s∈U3 G f i->b.getD j true=true->b.getD i true=true:=λj s r D k F7 v=>Lo j D v i (y i j s r D (.inr ⟨F7,k⟩));have hA:∀x,x∈U3 G f i->Q2 (E6 (λj=>b.getD j true) (GR G f) x ops.size) x=Q2 i x:=λx H=>
      lastW_at (L:=λj=>b.getD j true) (R:=U3 G f) N C SB YB Mk H
     have hf:∀s,2*s+1∈R2 G io->σ s=q i s:=λs k=>by
      rw[hσ s]
      have:=hA (2*s+1) (by simpa[U3,l]using k);rw[Yb,Yb]at this;exact this
     -- writers of one slot are ordered
     have hord:∀j m s,j<m->m<ops.size->2*s+1∈GR G f j->2*s+1∈GR G f m->b.getD m true=true->b.getD j true=true:=
      λj m s hjm hm t u v=>Lo m hm v j (y j m (2*s+1) hjm hm (.inl ⟨t,zW m _ u⟩))
     have W:∀s m,m≤ops.size->(∀j,j<m->2*s∈GR G f j->b.getD j true=true)->Hv (q (E6 (λj=>b.getD j true) (GR G f) (2*s) m) s)=Hv (q m s):=by
      intro s m;induction m with
      |zero=>intro _ _;rfl
      |succ m ihm=>
       intro hm v;simp only[E6];by_cases h:2*s∈GR G f m
       . rw[AAP ⟨v m (by omega) h,h⟩]
       . rw[AAO (λx=>h x.2),ihm (by omega) (λj r=>v j (by omega)),z m s (by omega) h]
     have Z:∀s m,m≤ops.size->Hv (q (E6 (λj=>b.getD j true) (GR G f) (2*s+1) m) s)=Hv (q (E6 (λj=>b.getD j true) (GR G f) (2*s) m) s):=by
      intro s m;induction m with
      |zero=>intro _;rfl
      |succ m ihm=>
       intro hm;simp only[E6];by_cases E:b.getD m true=true
       . by_cases X:2*s∈GR G f m
         . rw[AAP ⟨E,U m s X⟩,AAP ⟨E,X⟩]
         . rw[AAO (c:=_/\2*s∈_) (λx=>X x.2)];by_cases t:2*s+1∈GR G f m
           . rw[AAP ⟨E,t⟩,z m s (by omega) X];exact(W s m (by omega) λj r hw=>hord j m s r (by omega) (U j s hw) t E).symm
           . rw[AAO (λx=>t x.2)];exact ihm (by omega)
       . rw[AAO (λx=>E x.1),AAO (λx=>E x.1)];exact ihm (by omega)
     have hk:∀s,2*s∈R2 G io->Hv (σ s)=Hv (q i s):=λs k=>by
      rw[hσ s,Z s _ (AAr _)]
      have:=hA (2*s) (by simpa[U3,l]using k);rw[Za,Za]at this;exact this
     obtain⟨F,hτ,hmv1,hmv2⟩:=iN (FW io (AAS l)) (B i o io u l) (hwf i (by omega)) hf hk (Ge i io l);have T:(λj=>(b.setIfInBounds i true).getD j true)=λj=>(b.getD j true||j==i):=funext I;have V:∀s,F s=q (E6 (λj=>(b.getD j true||j==i)) (GR G f) (2*s+1) ops.size) s:=by
      intro s;by_cases k:2*s+1∈GR G f i
      . rw[lastW_in (L:=λj=>b.getD j true) C (λj=>rfl) N (λj s r D t u l=>Mk j s r D t (zW i s u) l) k];exact hmv1 s (by simpa[GR,l]using k)
      . rw[sN (L:=λj=>b.getD j true) (i:=i) (λj=>rfl) k,← hσ s];exact hmv2 s (by simpa[GR,l]using k)
     refine wpOp_mono ?_ (hS (λj=>b.getD j true) i o io a w σ F t l C N Js Lo hJ HZ hτ V)
     . rintro a' w' ⟨⟨σ2,Yz,rfl⟩,hJ'⟩;refine ih _ a' w' (by simp[P3]) ?_ ?_ ⟨σ2,Yz,?_⟩ (by rw[T];exact hJ')
       . have:=qY (p:=λi=> !b.getD i true) (p':=λj=> !(b.setIfInBounds i true).getD j true) (λj r=>by simp only[I]at r;simp at r ⊢;exact r.1) (i:=i) (by simp[N]) (by simp[I]) ops.size C;omega
       . intro j D v x H;rw[I]at v ⊢;simp only[AAp,AAV]at v ⊢;rcases v with v|rfl
         . exact .inl (Lo j D v x H)
         . exact .inl (Js x H)
       . intro s;rw[T];exact V s
 refine main ops.size _ a w (by simp) (by exact ABF (List.countP_le_length) (by simp)) ?_ ⟨σ,h,λs=> ?_⟩ hJ0
 . intro j r v;simp[AAc,r]at v
 . have:∀m,m≤ops.size->E6 (λj=>(Array.replicate ops.size false).getD j true) (GR G f) (2*s+1) m=0:=by
    intro m;induction m with
    |zero=>intro _;rfl
    |succ m ih=>intro hm;simp only[E6];rw[AAO,ih (by omega)];rintro⟨t,_⟩;have QZ:m<ops.size:=(by omega);simp[AAc,QZ]at t
   rw[this _ (AAr _),hq0]
theorem UP {L:Nat->Bool} {W:Nat->List Nat} {x b:Nat}:∀m,(∀j,j<m->L j=true->j<b)->E6 L W x m≤b
 |0,_=>Nat.zero_le _
 |m+1,h=>by
  simp only[E6];split
  . rename_i a;have:=h m (by omega) a.1;omega
  . exact UP m λj c=>h j (by omega)
theorem S9 {n:Nat} {k:World} {i j:Nat->Prop} {a:Act} {τ:Sg} {S:Nat->Prop} {δ:Nat->DV} {Fr:Nat->Nat->Prop} {o:Oper} {d:Dw} {D:DV} (hn:a.tmps.size=n) (q:a.defers=[]) (H:Rd δ a) (g:St G w S δ Fr) (r:Nx k i j w S (BD Fr)) (l:∀b,S b->b<w.heap.size)
 (hd:Ip G a o (some d)) (F:Ok w S D (λ_=>False)) (u:DQ δ D) (z:wr d D.er (λs=>(δ s).er)=some τ):Rel G n k i j (a.put o.dst D.A0) w τ:=by
 obtain⟨c,B,C,E⟩:=hd;obtain⟨f,t,y,v,m,p⟩:=g.wr (D:=D) (Ff:=λ_=>False) B C (λ_ _=>rfl) (λ_ _ _=>rfl) (λ_ h=>h) (λs x e=>(g.ok s).Ek x e) F (λ_ _ _ h=>h) u z;refine⟨S,f,t,?_,?_,?_,v,y,r.trans (Nx.less λx e=>(p x e).elim id False.elim),l⟩
 . rw[c];simpa[Act.put]using hn
 . rw[c];simpa[Act.put]using q
 . intro s;rw[c,IJ a d.d D.A0 E s,m s];split
   . rfl
   . exact H s
def Yr:Xu->Bool
 | .cp _| .UG .. | .ld .. | .Wv _| .Va .. | .mkf .. =>true
 |_=>false
def V8 (P:Program) (G:Gi) (n:Nat) (f:uV) (ops:Array Oper) (M:List Nat) (i:Nat) (o:Oper) (io:BP):Bool:=
 Dt G n o.dst io.dst&&o.guard.isNone&&io.guard.isNone&&
 (if i=f.i0 then(match io.op,io.dst with| .fl,some d=>d.d==f.d0|_,_=>false)&&(match o.op with
  | .fieldAddr t (.tmp s) fi=>s==f.r&&(match P.underlying t with
   |some (.struct fs)=>match fs[fi]? with
    |some fd=>fd.offset==f.off&&(match GD P fd.type with|some m=>m != 0|none=>false)
    |none=>false
   |_=>false)
  |_=>false)
  else if i=f.i1 then(match io.op,io.dst with| .fl,some d=>d.d==f.d1|_,_=>false)&&(match o.op with
   | .load t (.tmp s)=>s==f.d0&&GD P t==some 1&&I2 P t==some false
   |_=>false)&&(M.getD i 0).testBit f.i0
  else(match io.dst with|some d=>d.d != f.r&&d.d != f.d0&&d.d != f.d1|none=>true)&&
   (if i=f.i2 then(match io.op,o.op,io.dst with
    | .dT r off kb k j,.indexAddr t (.tmp s) x,some _=>r==f.r&&off==f.off&&kb==f.kb&&s==f.d1&&(match P.underlying t with|some (.slice e)=>GD P e==some k|_=>false)&&CH x j
    |_,_,_=>false)&&(M.getD i 0).testBit f.i1&&(M.getD i 0).testBit f.i0
   else Gm P G n ops o io&&(if i<f.i2 then Yr io.op||(match io.op with| .call _ _ 4=>true|_=>false)else(M.getD i 0).testBit f.i2)))
def jV (P:Program) (G:Gi) (n:Nat) (f:uV) (ops:Array Oper) (DZ:List BP):Bool:=
 decide (DZ.length=ops.size)&&decide (f.d0≠f.r)&&decide (f.d1≠f.r)&&decide (f.d0≠f.d1)&&decide (f.i0≠f.i1)&&decide (f.i0<f.i2)&&decide (f.i1<f.i2)&&decide (f.i2<ops.size)&&K8 G ops.toList DZ&&
 (List.range ops.size).all λi=>match ops[i]?,DZ[i]? with
  |some o,some io=>V8 P G n f ops (Uk ops.toList []) i o io
  |_,_=>false
theorem PV {ops:Array Oper} {Q:Exit->Act->World->Prop} {i:Nat} {o:Oper} {a:Act} {u:Value} {K:Act->World->Prop} (hi:ops[i]? =some o) (c:o.guard=none) (b:(execOp a.eval o).run P w= .ok (.value u) w) (h:K (a.put o.dst u) w):wpOp P ops Q i K a w:=by unfold wpOp;rw[hi];simp only[Region.wanted,c,AAo];refine .inl ?_;unfold Oper.wp;rw[b];exact h
theorem fU {ops:Array Oper} {Q:Exit->Act->World->Prop} {i:Nat} {o:Oper} {a:Act} {u:Value} {K J:Act->World->Prop} (hi:ops[i]? =some o) (e:o.guard=none) (c:(execOp a.eval o).run P w= .ok (.value u) w) (d:J (a.put o.dst u) w) (h:wpOp P ops Q i K a w):wpOp P ops Q i (λb w'=>K b w'/\J b w') a w:=by unfold wpOp at h ⊢;rw[hi]at h ⊢;simp only[Region.wanted,e,AAo]at h ⊢;refine h.imp (λh=> ?_) id;unfold Oper.wp at h ⊢;rw[c]at h ⊢;exact⟨h,d⟩
theorem zE {n:Nat} {K:World} {B C:Nat->Prop} {a:Act} {σ:Sg} (h:Rel G n K B C a w σ) {o:Oper} {io:BP} (b:I7 P o.op io.op=true) (z:Yr io.op=true) {v:AV} (d:valOf io.op σ=some v):∃u,(execOp a.eval o).run P w= .ok (.value u) w:=by
 obtain⟨S,δ,Fr,hn,M,l,rfl,i,N,L⟩:=h;have F:Gives P w S δ a o v->∃u,(execOp a.eval o).run P w= .ok (.value u) w:=λ⟨u,h,_⟩=>⟨u,h⟩;apply F;obtain⟨dst,J,g⟩:=io;simp only at b z d;cases J with
 |cp y=>cases ho:o.op<;>rw[ho]at b<;>first| (simp[I7]at b;done)|exact Rw i l (.inl ho) b d|exact Rw i l (.inr ho) b d
 |UG off y=>
  cases ho:o.op<;>rw[ho]at b<;>first| (simp[I7]at b;done)|skip
  rename_i t x R;simp only[I7,AAH]at b;obtain⟨c,p⟩:=b;split at c
  . rename_i T s;split at c
    . rename_i Q r;simp only[AAH,AAV]at c;obtain⟨E,q⟩:=c;split at q
      . rename_i m I;simp only[bne_iff_ne]at q;exact Yu i l ho s r E I q p d
      . cases q
    . cases c
  . cases c
 |ld gg m y=>
  cases ho:o.op<;>rw[ho]at b<;>first| (simp[I7]at b;done)|skip
  simp only[I7,AAH,AAp,AAV]at b;exact Rx i l ho b.1.1.1 b.1.1.2 b.1.2 b.2 d
 |Wv y=>
  cases ho:o.op<;>rw[ho]at b<;>first| (simp[I7]at b;done)|skip
  simp only[I7,AAH,AAV]at b;exact Rx i l ho b.1.1 b.1.2 (.inr rfl) b.2 (lda_ld d)
 |Va k y j=>
  cases ho:o.op<;>rw[ho]at b<;>first| (simp[I7]at b;done)|skip
  simp only[I7,AAH]at b;obtain⟨⟨c,p⟩,H⟩:=b;split at c
  . rename_i e s;exact Yv i l ho s (Tr c) p H d
  . cases c
 |mkf f ys=>
  cases ho:o.op<;>rw[ho]at b<;>first| (simp[I7]at b;done)|skip
  rename_i D first O
  cases D with
  |func f'=>simp only[I7,AAH,AAV]at b;obtain⟨⟨rfl,c⟩,p⟩:=b;exact Yw i l ho (by simpa using c) p d
  |_=>simp[I7]at b
 |_=>cases z
theorem dB {n:Nat} {l:World} {e f:Nat->Prop} (t:X0 l e f) {ops:Array Oper} {K:Sg->Prop} (Q:Exit->Act->World->Prop) (v:∀a w σ,Rel G n l e f a w σ->K σ->Q .normal a w) {c:List BP} {a:Act} {w:World} {σ:Sg}
 (h:Rel G n l e f a w σ) (x:LA P G n ops ops.toList c=true) (hd:K8 G ops.toList c=true) (y:ND P G c K σ):wpAny P .any ops Q ops.size (Array.replicate ops.size false) a w:=by
 obtain⟨b,m⟩:=qT _ x;obtain⟨q,j,r,u⟩:=Ql c y;refine Ro Q h (by rw[← b];simp) (λi o io d g=>V9 (m i o io d g)) hd q j r u (λ_ _ _=>True) (λ_ a w σ _ _ h k=>v a w σ h k) trivial ?_;intro L i o io a w σ z d g _ _ _ _ _ s p _;exact wpOp_mono (λB w' h=>⟨h,trivial⟩) (IA t s (m i o io (by simpa using d) g) p Q d)
end Go.Abs
namespace Go.Abs
variable {G:Gi} {P:Program} {w:World}
def FJ (f:uV) (b:Nat) (h:Value) (L:Nat->Bool) (a:Act) (w:World):Prop:=
 L f.i2=false->a.tmps.getD f.r undef= .pointer (some ⟨b,0,none⟩)/\w.cell? ⟨b,f.off,none⟩=some h/\(L f.i0=true->a.tmps.getD f.d0 undef= .pointer (some ⟨b,f.off,none⟩))/\(L f.i1=true->a.tmps.getD f.d1 undef=h)
theorem dU {kb off:Nat} {x:AV} (h:Z2 kb off x=true):∃a,x= .own true kb [a]/\off<a.length:=by
 unfold Z2 at h;split at h
 . rename_i k a;simp only[AAH,AAV,AAZ]at h;exact⟨a,by rw[h.1],h.2⟩
 . cases h
theorem yH {S:Nat->Prop} {δ:Nat->DV} {Fr:Nat->Nat->Prop} (h:St G w S δ Fr) {r kb:Nat} {f:List AV} (a:(δ r).er= .own true kb [f]):∃b e,δ r= .own (.pointer (some ⟨b,0,none⟩)) true kb [e]/\e.map DV.er=f/\
 (∀(j:Nat) d,e[j]? =some d->w.cell? ⟨b,j,none⟩=some d.A0/\∃F,Ok w S d F):=by
 have g:=h.ok r;cases hδ:δ r with
 |lf x v=>rw[hδ]at a g;simp at a;subst a;cases g with|lf _ _ _ hl _=>simp[HM]at hl
 |agg=>rw[hδ]at a;simp at a
 |BT=>rw[hδ]at a;simp at a
 |own hh bx k0 Ak=>
  rw[hδ]at a g;simp only[EN,AV.own.injEq]at a;obtain⟨rfl,rfl,k⟩:=a;obtain⟨e,rfl,l⟩:=List.map_eq_singleton_iff.1 k;cases g with
  |own _ _ _ b c arr E Fs _ hb hk Dv Ku hv hrr hd Bb Jf hF=>
   refine⟨b,e,by simp[I9],l,λj d i=>⟨?_,Fs 0 j,hrr 0 j e d rfl i⟩⟩
   have:=hv 0 j e d rfl i;simp only[Nat.zero_mul,ABN]at this;simp[World.cell?,hb,this]
theorem rB {n:Nat} {w0:World} {S0 U0:Nat->Prop} (hG:X0 w0 S0 U0) {ops:Array Oper} {K:Sg->Prop} (Q:Exit->Act->World->Prop) (hQ:∀a w σ,Rel G n w0 S0 U0 a w σ->K σ->Q .normal a w) {Z:List BP} {a:Act} {w:World} {σ:Sg} {f:uV}
 (h:Rel G n w0 S0 U0 a w σ) (hc:jV P G n f ops Z=true) (q:Nat->Sg) (hq0:q 0=σ) (Ge:∀i io,Z[i]? =some io->KK P G io (· =q (i+1)) (q i)) (hK:K (q Z.length)) (hbx:∀m,m≤f.i2->Z2 f.kb f.off (q m f.r)=true):
 wpAny P .any ops Q ops.size (Array.replicate ops.size false) a w:=by
 simp only[jV,AAH,AAZ,AAN]at hc;obtain⟨⟨⟨⟨⟨⟨⟨⟨⟨hN,n1⟩,n2⟩,n3⟩,n4⟩,n5⟩,n6⟩,n7⟩,dH⟩,Ho⟩:=hc;have E5:∀i o io,ops[i]? =some o->Z[i]? =some io->V8 P G n f ops (Uk ops.toList []) i o io=true:=by
  intro i o io J h2;have hi:i<ops.size:=(AAw.1 J).1
  have:=Ho i (by simpa using hi);rw[J,h2]at this;exact this
 -- the beginning
 obtain⟨M,hL,hJ0⟩:∃M hL,FJ f M hL (λj=>(Array.replicate ops.size false).getD j true) a w:=by
  obtain⟨S,δ,Fr,hn,EC,ha,rfl,CF,Ec,Cy⟩:=h;obtain⟨X,hr,Df⟩:=dU (hbx 0 (Nat.zero_le _));rw[hq0]at hr;obtain⟨b,IL,J,h2,h3⟩:=yH CF hr;have hl:f.off<IL.length:=by rw[← h2]at Df;simpa using Df
  refine⟨b,(IL[f.off]).A0,λ_=>⟨?_,(h3 f.off _ (AAL hl)).1,?_,?_⟩⟩
  . rw[ha f.r,J];simp
  . intro y;simp[AAc,show f.i0<ops.size by omega]at y
  . intro y;simp[AAc,show f.i1<ops.size by omega]at y
 refine Ro Q h hN ?_ dH q hq0 Ge hK (FJ f M hL) (λ_ a w σ _ _ h k=>hQ a w σ h k) hJ0 ?_
 . intro i o io J h2 d hd
   have:=E5 i o io (by simpa using J) h2;simp only[V8,AAH]at this;have h3:=this.1.1.1;rw[hd]at h3;cases ho:o.dst with
   |none=>rw[ho]at h3;simp[Dt]at h3
   |some t=>rw[ho]at h3;simp only[Dt,AAH,AAV]at h3;exact h3.1.2
 . intro L i o io a w σ I J h2 hiN hLi Js Lo hJ HZ l hτs;have B:=E5 i o io J h2;simp only[V8,AAH,AA7]at B;obtain⟨⟨⟨KQ,lB⟩,Mi⟩,B⟩:=B;obtain⟨dst,oI,g⟩:=io;simp only at Mi;subst Mi;simp only at KQ B;by_cases e0:i=f.i0
   . -- the address
     subst e0;rw[AAP rfl]at B;simp only[AAH]at B;obtain⟨H,C⟩:=B;split at H
     . rename_i d;simp only[AAV]at H;split at C
       . rename_i t s fi ho;simp only[AAH,AAV]at C;obtain⟨rfl,C⟩:=C;split at C
         . rename_i fs hu;split at C
           . rename_i fd hff;simp only[AAH,AAV]at C;obtain⟨g1,g2⟩:=C;split at g2
             . rename_i m hm;simp only[bne_iff_ne]at g2;obtain⟨S,δ,Fr,hn,EC,ha,rfl,CF,Ec,Cy⟩:=HZ;have hd:=ES (a:=a) KQ hn;have U:∀u s,(a.put o.dst u).tmps.getD s undef=if s=d.d then u else a.tmps.getD s undef:=λu s=>by rw[hd.1,IJ a d.d u hd.2.2.2 s]
               have Lp:wr d (DV.lf .dead (.pointer (some ⟨M,f.off,none⟩))).er (λs=>(δ s).er)=some I:=by
                simp only[KK,D8,F6,valOf]at l;split at l
                . rename_i υ p;rw[El,p,l]
                . exact l.elim
               by_cases R:L f.i2=true
               . exact absurd (Lo f.i2 n7 R f.i0 (by
                  obtain⟨W,z,q1,q2⟩:∃W z,ops[f.i2]? =some W/\Z[f.i2]? =some z:=⟨ops[f.i2],Z[f.i2]'(by omega),by simp[n7],by simp[hN,n7]⟩
                  have:=E5 f.i2 W z q1 q2;simp only[V8,AAH]at this;rw[AAO (by omega),AAO (by omega)]at this;simp only[AAo,AAH]at this;exact this.2.2.2)) (by rw[hLi];decide)
               . have N:L f.i2=false:=(by simpa using R);obtain⟨j1,j2,j3,j4⟩:=hJ N;refine PV (u:=.pointer (some ⟨M,f.off,none⟩)) J lB ?_ ⟨⟨I,S9 (D:=.lf .dead (.pointer (some ⟨M,f.off,none⟩))) hn EC ha CF Ec Cy hd (.lf _ _ _ trivial (λ_ h=>h)) (DQ.dead _) Lp,rfl⟩,λy=> ?_⟩
                 . have he:a.eval (.tmp f.r)= .pointer (some ⟨M,0,none⟩):=(by simpa[Act.eval]using j1);simp only[execOp,ho,he,Sem.run_bind,Lz hu hff hm g2,Result.andThen_ok,Sem.run_pure,g1,ABN]
                 . simp only[Ke];refine⟨by rw[U,AAO (by rw[H];exact Ne.symm n1)];exact j1,j2,λ_=>by rw[U,AAP H.symm],λhx1=> ?_⟩;rw[U,AAO (by rw[H];exact Ne.symm n3)];exact j4 (by simpa[Ne.symm n4]using hx1)
             . cases g2
           . cases C
         . cases C
       . cases C
     . cases H
   rw[AAO e0]at B;by_cases e1:i=f.i1
   . -- the load
     subst e1;rw[AAP rfl]at B;simp only[AAH]at B;obtain⟨⟨H,C⟩,k3⟩:=B;split at H
     . rename_i d;simp only[AAV]at H;split at C
       . rename_i t s ho;simp only[AAH,AAV]at C;obtain⟨⟨rfl,C⟩,k4⟩:=C;obtain⟨S,δ,Fr,hn,EC,ha,rfl,CF,Ec,Cy⟩:=HZ;have hd:=ES (a:=a) KQ hn;have U:∀u s,(a.put o.dst u).tmps.getD s undef=if s=d.d then u else a.tmps.getD s undef:=λu s=>by rw[hd.1,IJ a d.d u hd.2.2.2 s]
         have Lp:wr d (DV.lf .dead hL).er (λs=>(δ s).er)=some I:=by
          simp only[KK,D8,F6,valOf]at l;split at l
          . rename_i υ p;rw[El,p,l]
          . exact l.elim
         by_cases R:L f.i2=true
         . exact absurd (Lo f.i2 n7 R f.i1 (by
            obtain⟨W,z,q1,q2⟩:∃W z,ops[f.i2]? =some W/\Z[f.i2]? =some z:=⟨ops[f.i2],Z[f.i2]'(by omega),by simp[n7],by simp[hN,n7]⟩
            have:=E5 f.i2 W z q1 q2;simp only[V8,AAH]at this;rw[AAO (by omega),AAO (by omega)]at this;simp only[AAo,AAH]at this;exact this.2.2.1.2)) (by rw[hLi];decide)
         . have N:L f.i2=false:=(by simpa using R);obtain⟨j1,j2,j3,j4⟩:=hJ N;have j3':=j3 (Js f.i0 k3);refine PV (u:=hL) J lB ?_ ⟨⟨I,S9 (D:=.lf .dead hL) hn EC ha CF Ec Cy hd (.lf _ _ _ trivial (λ_ h=>h)) (DQ.dead _) Lp,rfl⟩,λy=> ?_⟩
           . have he:a.eval (.tmp f.d0)= .pointer (some ⟨M,f.off,none⟩):=by simpa[Act.eval]using j3'
             have:=KY (P:=P) (w:=w) (b:=M) (off:=f.off) (vs:=[hL]) C k4 (.inr rfl) rfl (λj v F=>by
              cases j with
              |zero=>simp only[AAt,AAG]at F;subst F;exact j2
              |succ j=>simp at F)
             simp only[execOp,ho,he,Instr.loadAt,Instr.sureAddr,Sem.run_bind,Sem.run_pure,Result.andThen_ok,this];rfl
           . simp only[Ke];refine⟨by rw[U,AAO (by rw[H];exact Ne.symm n2)];exact j1,j2,λhx0=> ?_,λ_=>by rw[U,AAP H.symm]⟩;rw[U,AAO (by rw[H];exact n3)];exact j3'
       . cases C
     . cases H
   rw[AAO e1]at B;simp only[AAH]at B;obtain⟨LZ,B⟩:=B;by_cases e2:i=f.i2
   . -- the index
     subst e2;rw[AAP rfl]at B;simp only[AAH]at B;obtain⟨⟨H,C⟩,k3⟩:=B;split at H
     . rename_i r off kb k j t s x d ho;simp only[AAH,AAV]at H;obtain⟨⟨⟨⟨⟨rfl,rfl⟩,rfl⟩,rfl⟩,k4⟩,k5⟩:=H;split at k4
       . rename_i e hu;have hk:=Tr k4;obtain⟨S,δ,Fr,hn,EC,ha,rfl,CF,Ec,Cy⟩:=HZ;have hd:=ES (a:=a) KQ hn;obtain⟨j1,j2,j3,j4⟩:=hJ hLi;have j4':=j4 (Js f.i1 C);obtain⟨hj,hej⟩:=Ah k5 ha;simp only[KK,D8,F6]at l;cases F:valOf (.dT f.r f.off f.kb k j) (λs=>(δ s).er)with
         |none=>rw[F]at l;exact l.elim
         |some v=>
          rw[F]at l;simp only at l;have hwv:wr d v (λs=>(δ s).er)=some I:=by
           split at l
           . rename_i υ p;rw[p,l]
           . exact l.elim
          simp only[valOf]at F;split at F
          . rename_i kb' X n0 hr hn0;split at F
            . rename_i k' rows Bo;split at F
              . rename_i Ew;obtain⟨rfl,rfl,h0,Df⟩:=Ew;obtain rfl:=AAJ F;obtain⟨b,IL,g1,g2,g3⟩:=yH CF hr;have hb:b=M:=(by have:=ha f.r;rw[j1,g1]at this;simpa using this.symm);subst hb;rw[← g2,AAR,AAi]at Bo;obtain⟨D,hD,E4⟩:=Bo;obtain⟨g4,FD,g5⟩:=g3 f.off D hD;rw[j2,AAG]at g4;obtain⟨kk,hn0⟩:=NF hn0;obtain⟨ei,_⟩:=CF.Ep hj hn0;have Bv:Ao (δ f.r) [(0,f.off,f.kb)]=some D:=(by rw[g1];simp[Ao,hD]);have he1:a.eval (.tmp f.d1)=hL:=(by simpa[Act.eval]using j4');cases hDD:D with
                |lf x1 v1=>rw[hDD]at E4 g5;simp at E4;subst E4;cases g5 with|lf _ _ _ hl _=>simp[HM]at hl
                |agg=>rw[hDD]at E4;simp at E4
                |BT=>rw[hDD]at E4;simp at E4
                |own hh bx k0 Ak=>
                 rw[hDD]at E4 g5 g4 Bv;simp only[EN,AV.own.injEq]at E4;obtain⟨rfl,rfl,Jo⟩:=E4;simp only[KE]at g4;have V:Ak.length=rows.length:=(by rw[← Jo];simp);cases g5 with
                 |nil=>simp at V;rw[← V]at Df;simp at Df;omega
                 |own _ _ _ bb c arr E Fs _ fX Wc Dv Ku dS Vl hdd' Bb Jf hF=>
                  have hLf:Lf w S δ (.KJ f.r [(0,f.off,f.kb)] n0.toNat 0 k0) (.pointer (some ⟨bb,n0.toNat*k0+0,none⟩)):=Lf.KJ Bv (by simp);obtain⟨D2,q1,q2,q3,q4⟩:=hLf;refine PV (u:=D2.A0) J lB ?_ ⟨⟨I,S9 (D:=D2) hn EC ha CF Ec Cy hd q3 q4 (by rw[q1];exact hwv),rfl⟩,λy=> ?_⟩
                  . rw[q2];simp only[execOp,ho,he1,g4,hej,ei,I9,Sem.run_bind,AAQ,AAY,run_indexAt_slice hu hk h0 (show n0<(Ak.length:Nat)by rw[V];exact Df),Result.andThen_ok,Sem.run_pure];simp
                  . simp at y
              . cases F
            . cases F
          . cases F
       . cases k4
     . cases H
   rw[AAO e2,AAH]at B;obtain⟨HU,O⟩:=B;have hJn:∀(u:Value) w',(L f.i2=false->w'.cell? ⟨M,f.off,none⟩=w.cell? ⟨M,f.off,none⟩)->FJ f M hL (λj=>(L j||j==i)) (a.put o.dst u) w':=by
    intro u w' hw' y;have P4:L f.i2=false:=(by simp only[Bool.or_eq_false_iff]at y;exact y.1);obtain⟨j1,j2,j3,j4⟩:=hJ P4;have U:∀s,s=f.r∨s=f.d0∨s=f.d1->(a.put o.dst u).tmps.getD s undef=a.tmps.getD s undef:=by
     intro s hs;obtain⟨S,δ,Fr,hn,_⟩:=HZ;cases dst with
     |none=>have h0:o.dst=none:=ES (a:=a) KQ hn;rw[h0];rfl
     |some d=>
      have hd:=ES (a:=a) KQ hn;rw[hd.1,IJ a d.d u hd.2.2.2 s,AAO];simp only[AAH,bne_iff_ne]at LZ;rintro rfl;rcases hs with hs|hs|hs
      . exact LZ.1.1 hs
      . exact LZ.1.2 hs
      . exact LZ.2 hs
    refine⟨by rw[U _ (.inl rfl)];exact j1,by rw[hw' P4];exact j2,λh0=> ?_,λh0=> ?_⟩
    . rw[U _ (.inr (.inl rfl))];exact j3 (by simpa[Ne.symm e0]using h0)
    . rw[U _ (.inr (.inr rfl))];exact j4 (by simpa[Ne.symm e1]using h0)
   by_cases Df:i<f.i2
   . rw[AAP Df]at O;simp only[AAp]at O;rcases O with O|O
     . -- a value
       have hop':I7 P o.op oI=true:=by
        simp only[Gm,AAH]at HU
        have:=HU.2;cases oI<;>first|exact this|cases O
       have F:∃v,valOf oI σ=some v:=by
        simp only[KK,D8]at l;cases oI<;>first| (cases O;done)|skip
        all_goals
         cases dst with
         |none=>simp[F6]at l
         |some d=>
          simp only[F6]at l;split at l
          . rename_i υ p;split at p
            . exact⟨_,by assumption⟩
            . cases p
          . exact l.elim
       obtain⟨v,F⟩:=F;obtain⟨u,hu⟩:=zE (io:=⟨dst,oI,none⟩) HZ hop' O F;exact fU J lB hu (hJn u w λ_=>rfl) (IA hG HZ HU l Q J)
     . -- the call
       split at O
       . rename_i fn args;have hcall:JQ P o.op fn args 4=true:=(by simp only[Gm,AAH]at HU;exact HU.2);by_cases R:L f.i2=true
         . refine wpOp_mono ?_ (IA hG HZ HU l Q J);intro a' w' hr;exact⟨hr,λy=>by simp[R]at y⟩
         have N:L f.i2=false:=(by simpa using R);have hLf:∀j,j<ops.size->(L j||j==i)=true->j<f.i2:=by
          intro j hj y;simp only[AAp,AAV]at y;rcases y with y|rfl
          . rcases Nat.lt_trichotomy j f.i2 with h|h|h
            . exact h
            . subst h;exact absurd y R
            . exfalso;refine R (Lo j hj y f.i2 ?_);obtain⟨W,z,q1,q2⟩:∃W z,ops[j]? =some W/\Z[j]? =some z:=⟨ops[j],Z[j]'(by omega),by simp[hj],by simp[hN,hj]⟩
              have:=E5 j W z q1 q2;simp only[V8,AAH]at this;rw[AAO (by omega),AAO (by omega),AAO (by omega)]at this;simp only[AAH]at this
              have:=this.2.2.2;rw[AAO (by omega)]at this;exact this
          . exact Df
         obtain⟨X,T,_⟩:∃X,I f.r= .own true f.kb [X]/\f.off<X.length:=(by rw[hτs f.r];exact dU (hbx _ (UP _ hLf)));obtain⟨S,δ,Fr,hn,_⟩:=id HZ;have hd:Ip G a o dst:=ES (a:=a) KQ hn;unfold wpOp;rw[J];simp only[Region.wanted,lB,AAo];refine .inl (Oper.wp_mono ?_ (cP (io:=⟨dst,.call fn args 4,none⟩) hG HZ rfl hcall hd (K:=(· =I)) l (rr:=f.r) (kb:=f.kb) ?_ Q))
         . rintro a' w' ⟨hr,IU,u,rfl⟩;refine⟨hr,hJn u w' λy=> ?_⟩;obtain⟨j1,_⟩:=hJ y;simp only[World.cell?,IU M j1]
         . intro aZ9 τ1 JK;simp only[KK,D8]at l;rw[JK]at l;obtain⟨res,_,FC⟩:=l;split at FC
           . rename_i v F;cases dst with
             |none=>simp only[Cw]at FC;rw[FC];exact⟨_,T⟩
             |some d=>
              simp only[Cw]at FC;split at FC
              . rename_i υ p;subst FC;unfold wr at p;split at p
                . obtain rfl:=AAJ p;simp only[AAH,bne_iff_ne]at LZ;rw[Ba _ _ (Ne.symm LZ.1.1),Ph]at T;split at T
                  . cases y:τ1 f.r with
                    |own b0 k0 KX=>rw[y]at T;simp only[DT]at T;cases T;exact⟨_,rfl⟩
                    |_=>rw[y]at T;simp only[DT]at T;first| (split at T<;>cases T;done)|cases T
                  . exact⟨_,T⟩
                . cases p
              . exact FC.elim
           . exact FC.elim
       . cases O
   . -- behind the index
     rw[AAO Df]at O;have R:L f.i2=true:=Js f.i2 O;refine wpOp_mono ?_ (IA hG HZ HU l Q J);intro a' w' hr;exact⟨hr,λy=>by simp[R]at y⟩
theorem cD {f:uV} (a:List BP):∀{σ:Sg} {K:Sg->Prop},QP P G f a K σ->∃q:Nat->Sg,q 0=σ/\(∀i io,a[i]? =some io->KK P G io (· =q (i+1)) (q i))/\(∀i,i<a.length->Z2 f.kb f.off (q i f.r)=true)/\K (q a.length):=by
 induction a with
 |nil=>intro σ K h;exact⟨λ_=>σ,rfl,λi io hi=>by simp at hi,λi hi=>by simp at hi,h⟩
 |cons o os ih=>
  intro σ K h;obtain⟨d,h⟩:=h;obtain⟨τ,b,c⟩:=OV.1 h;obtain⟨q,e,g,j,k⟩:=ih c;refine⟨λi=>match i with|0=>σ|i+1=>q i,rfl,λi io hi=> ?_,λi hi=> ?_,by simpa using k⟩
  . cases i with
    |zero=>simp only[AAt,AAG]at hi;subst hi;simp only[e];exact b
    |succ i=>exact g i io (by simpa using hi)
  . cases i with
    |zero=>exact d
    |succ i=>exact j i (by simpa using hi)
theorem floRun {f:uV} {a b:List BP} {K:Sg->Prop} {σ:Sg} (h:QP P G f a (ND P G b K) σ):∃q:Nat->Sg,q 0=σ/\(∀i io,(a++b)[i]? =some io->KK P G io (· =q (i+1)) (q i))/\(∀i,i<a.length->Z2 f.kb f.off (q i f.r)=true)/\K (q (a++b).length):=by
 obtain⟨q,j,m,n,o⟩:=cD a h;obtain⟨p,g,k,l⟩:=Ql b o;refine⟨λi=>if i<a.length then q i else p (i-a.length),?_,λi io hi=> ?_,λi hi=> ?_,?_⟩
 . simp only;split
   . exact j
   . rename_i s;have:a.length=0:=(by omega);rw[this,Nat.sub_zero,g,this];exact j
 . by_cases c:i<a.length
   . rw[AAf c]at hi
     have:=m i io hi;simp only[c,AAo];by_cases d:i+1<a.length
     . simp only[d,AAo];exact this
     . have e:i+1=a.length:=(by omega);simp only[d,AAY];rw[e,Nat.sub_self,g,← e];exact this
   . rw[AAl (by omega)]at hi
     have:=k _ io hi;simp only[c,AAY,show¬i+1<a.length by omega];rw[show i+1-a.length=i-a.length+1 by omega];exact this
 . simp only[hi,AAo];exact n i hi
 . simp only[AAu,show¬a.length+b.length<a.length by omega,AAY,Nat.add_sub_cancel_left];exact l
end Go.Abs
namespace Go.Abs
variable {G:Gi} {P:Program} {w:World}
theorem ZS {ops:Array Oper} {Q:Exit->Act->World->Prop} {i:Nat} {o:Oper} {a:Act} {K:Act->World->Prop} {J:Array Value->Prop} (hi:ops[i]? =some o) (c:∀(b:Act) v,b.tmps=a.tmps->J (b.put o.dst v).tmps) (h:wpOp P ops Q i K a w):
 wpOp P ops Q i (λk w'=>K k w'/\J k.tmps) a w:=by
 unfold wpOp at h ⊢;rw[hi]at h ⊢;simp only at h ⊢;by_cases l:Region.wanted o (yielded ops a.tmps)=true
 . simp only[l,AAo]at h ⊢;refine h.imp (λh=> ?_) id;unfold Oper.wp at*;generalize (execOp a.eval o).run P w=r at*;cases r with
   |ok x w'=>
    cases x with
    |value v=>exact⟨h,c _ _ rfl⟩
    |skip=>exact⟨h,c _ _ rfl⟩
    |defer d=>exact⟨h,c _ _ rfl⟩
    |enter f args=>
     simp only[Oper.upon]at h ⊢;refine Calls.mono h λe j g=> ?_;cases e with
     |returned v=>exact⟨g,c _ _ rfl⟩
     |panicked chain=>exact g
     |outgrown=>exact g
    |row row args=>simp only[Oper.upon]at h ⊢;exact Rows.mono h λv j g=>⟨g,c _ _ rfl⟩
    |_=>simp only[Oper.upon]at h
   |halt x w'=>
    cases x with
    |panic v=>exact h
    |_=>simp only[Oper.upon]at h
 . simp only[l]at h ⊢;exact⟨h,c _ _ rfl⟩
def rnX (d r:Nat):Operand->Operand
 | .tmp s=>if s=d then .tmp r else .tmp s
 |x=>x
def l5 (d r:Nat):Op->Op
 | .indexAddr t x y=>.indexAddr t (rnX d r x) y
 | .nilCheck x=>.nilCheck (rnX d r x)
 | .extract x k=>.extract (rnX d r x) k
 | .call ⟨.value f,xs,ts⟩=>.call ⟨.value f,xs.map (rnX d r),ts⟩
 |o=>o
theorem TC {a:Act} {d r:Nat} (h:a.tmps.getD d undef=a.tmps.getD r undef) (x:Operand):a.eval (rnX d r x)=a.eval x:=by
 cases x with
 |tmp s=>
  simp only[rnX];split
  . rename_i e;subst e;simp only[Act.eval];exact h.symm
  . rfl
 |_=>rfl
theorem tO {a:Act} {d r:Nat} (h:a.tmps.getD d undef=a.tmps.getD r undef) (o:Oper):execOp a.eval {o with op:=l5 d r o.op}=execOp a.eval o:=by
 have e:a.eval ∘ rnX d r=a.eval:=funext λx=>TC h x;obtain⟨dst,op,ty,i,b,g⟩:=o;cases op with
 |indexAddr t x y=>simp only[execOp,l5,TC h]
 |nilCheck x=>simp only[execOp,l5,TC h]
 |extract x k=>simp only[execOp,l5,TC h]
 |call c=>
  obtain⟨cl,l,j⟩:=c;cases cl with
  |value f=>simp only[execOp,l5,resolve,Array.map_map,e]
  |_=>rfl
 |_=>rfl
def UI (DZ:List BP) (i1:Nat):ABh Nat:=match DZ[i1]? with
 |some ⟨_,.flk _ k,_⟩=>some k
 |_=>none
def arO (o:ABh Nat) (v:Value):Prop:=match o with
 |some k=>∃vs:Array Value,v= .tuple vs/\k<vs.size
 |none=>True
def nH (P:Program) (G:Gi) (n:Nat) (fs:List (Nat×Nat×Nat×Nat)) (ops:Array Oper) (DZ:List BP) (M:List Nat) (i:Nat) (o:Oper) (io:BP):Bool:=
 Dt G n o.dst io.dst&&
 (match fs.find? (·.2.1==i)with
  |some (r,_,_,d1)=>o.guard.isNone&&io.guard.isNone&&(match io.op,io.dst with| .fl,some d=>d.d==d1| .flk (.t x) _,some d=>d.d==d1&&x==r|_,_=>false)&&(match o.op with| .move (.tmp s)=>s==r|_=>false)&&
   fs.all λf=>f.1 != d1&&(if f.2.1==i then f.1==r&&f.2.2.2==d1 else f.2.2.2 != d1)
  |none=>(match io.dst with|some d=>fs.all λf=>(f.1 != d.d||(M.getD f.2.1 0).testBit i)&&f.2.2.2 != d.d|none=>true)&&
   (match io.op with
   | .fl=>o.guard.isNone&&io.guard.isNone&&io.dst.isSome&&(match o.op with
    | .extract (.tmp t) k=>fs.any λf=>f.2.2.2==t&&(M.getD i 0).testBit f.2.1&&(match UI DZ f.2.1 with|some m=>decide (k≤m)|none=>false)
    |_=>false)
   |_=>match fs.find? (·.2.2.1==i)with
    |some (r,i1,_,d1)=>o.guard.isNone&&(M.getD i 0).testBit i1&&Gm P G n (ops.setIfInBounds i {o with op:=l5 d1 r o.op}) {o with op:=l5 d1 r o.op} io
    |none=>Gm P G n ops o io))
def jU (P:Program) (G:Gi) (n:Nat) (fs:List (Nat×Nat×Nat×Nat)) (ops:Array Oper) (DZ:List BP):Bool:=
 decide (DZ.length=ops.size)&&(fs.all λf=>decide (f.2.1<ops.size))&&K8 G ops.toList DZ&&
 (List.range ops.size).all λi=>match ops[i]?,DZ[i]? with
  |some o,some io=>nH P G n fs ops DZ (Uk ops.toList []) i o io
  |_,_=>false
theorem tup_ar {δ:Nat->DV} {Fr:Nat->Nat->Prop} {S:Nat->Prop} (h:St G w S δ Fr) {r k:Nat} {d:List AV} (b:(δ r).er= .BT d) (e:k<d.length):∃vs:Array Value,(δ r).A0= .tuple vs/\k<vs.size:=by
 have c:=(h.ok r).KU;cases hδ:δ r with
 |lf a v=>rw[hδ]at c b;cases c with|lf _ _ c=>simp only[El]at b;subst b;simp[C3]at c
 |own=>rw[hδ]at b;simp at b
 |agg=>rw[hδ]at b;simp at b
 |BT ds=>rw[hδ]at b;simp only[I0,AV.BT.injEq]at b;subst b;exact⟨_,Kr _,by simpa using e⟩
theorem rA {n:Nat} {w0:World} {S0 U0:Nat->Prop} (hG:X0 w0 S0 U0) {ops:Array Oper} {K:Sg->Prop} (Q:Exit->Act->World->Prop) (hQ:∀a w σ,Rel G n w0 S0 U0 a w σ->K σ->Q .normal a w) {E:List BP} {a:Act} {w:World} {σ:Sg} {W:List (Nat×Nat×Nat×Nat)}
 (h:Rel G n w0 S0 U0 a w σ) (hc:jU P G n W ops E=true) (Cb:ND P G E K σ):
 wpAny P .any ops Q ops.size (Array.replicate ops.size false) a w:=by
 simp only[jU,AAH,AAZ]at hc;obtain⟨⟨⟨hN,n2⟩,dH⟩,Ho⟩:=hc;rw[AAN]at n2 Ho;obtain⟨q,hq0,Ge,hK⟩:=Ql E Cb;have E5:∀i o io,ops[i]? =some o->E[i]? =some io->nH P G n W ops E (Uk ops.toList []) i o io=true:=by
  intro i o io z O;have hi:i<ops.size:=(AAw.1 z).1
  have:=Ho i (by simpa using hi);rw[z,O]at this;exact this
 refine Ro Q h hN ?_ dH q hq0 Ge hK (λL a _=>∀f∈W,L f.2.1=true->a.tmps.getD f.2.2.2 undef=a.tmps.getD f.1 undef/\arO (UI E f.2.1) (a.tmps.getD f.2.2.2 undef)) (λ_ a w σ _ _ h k=>hQ a w σ h k) ?_ ?_
 . intro i o io z O d hd
   have:=E5 i o io (by simpa using z) O;simp only[nH,AAH]at this;have I:=this.1;rw[hd]at I;cases X:o.dst with
   |none=>rw[X]at I;simp[Dt]at I
   |some t=>rw[X]at I;simp only[Dt,AAH,AAV]at I;exact I.1.2
 . intro f y l
   have:=n2 f y;simp only[AAZ]at this;simp[AAc,this]at l
 . intro L i o io a w σ M z O hiN hLi Js Lo hJ HZ j hτs;have c:=E5 i o io z O;simp only[nH,AAH]at c;obtain⟨H,c⟩:=c;split at c
   . rename_i r _ _ d1 B;simp only[AAH,AA7,AAN,bne_iff_ne]at c;obtain⟨⟨⟨⟨lB,Mi⟩,p⟩,k2⟩,k3⟩:=c;obtain⟨dst,oI,g⟩:=io;simp only at Mi H p;subst Mi;split at k2
     . rename_i s X;simp only[AAV]at k2;subst k2;obtain⟨S,δ,Fr,hn,EC,ha,rfl,CF,Ec,Cy⟩:=HZ;have key:∃d,dst=some d/\d.d=d1/\wr d .dead (λs=>(δ s).er)=some M/\arO (UI E i) (a.tmps.getD s undef):=by
        split at p
        . rename_i d;refine⟨d,rfl,by simpa using p,?_,by simp[UI,O,arO]⟩;simp only[KK,D8,F6,valOf]at j;split at j
          . rename_i υ C;rw[C,j]
          . exact j.elim
        . rename_i x k d;simp only[AAH,AAV]at p;obtain⟨p,rfl⟩:=p;simp only[KK,D8,F6,valOf]at j;cases l:(δ x).er with
          |BT cs=>
           simp only[l]at j;by_cases U:k<cs.length
           . simp only[U,AAo]at j;refine⟨d,rfl,p,?_,?_⟩
             . split at j
               . rename_i υ C;rw[C,j]
               . exact j.elim
             . simp only[UI,O,arO];rw[ha x];exact tup_ar CF l U
           . simp[U]at j
          |_=>simp[l]at j
        . cases p
       obtain⟨d,rfl,p,Lp,har⟩:=key;have hd:=ES (a:=a) H hn;have Gz:∀u s,(a.put o.dst u).tmps.getD s undef=if s=d.d then u else a.tmps.getD s undef:=λu s=>by rw[hd.1,IJ a d.d u hd.2.2.2 s]
       rw[← El .dead (a.tmps.getD s undef)]at Lp;refine PV (u:=a.tmps.getD s undef) z lB ?_ ⟨⟨M,S9 (D:=.lf .dead (a.tmps.getD s undef)) hn EC ha CF Ec Cy hd (.lf _ _ _ trivial (λ_ h=>h)) (DQ.dead _) Lp,rfl⟩,λf y l=> ?_⟩
       . simp[execOp,X,Act.eval]
       . obtain⟨j1,Z⟩:=k3 f y;rw[Gz,Gz,p,AAO j1];split at Z
         . rename_i e;simp only[AAH,AAV]at Z e;rw[AAP Z.2,Z.1,e];exact⟨rfl,har⟩
         . rename_i e;simp only[bne_iff_ne]at Z;rw[AAO Z];refine hJ f y ?_;simp only[AAp]at l;exact l.resolve_right e
     . cases k2
   . rename_i dO;simp only[AAH]at c;obtain⟨p,c⟩:=c;have R:∀(b:Act) v,b.tmps=a.tmps->∀f∈W,(L f.2.1||f.2.1==i)=true->(b.put o.dst v).tmps.getD f.2.2.2 undef=(b.put o.dst v).tmps.getD f.1 undef/\arO (UI E f.2.1) ((b.put o.dst v).tmps.getD f.2.2.2 undef):=by
      intro b v F f y l;have e1:¬(f.2.1==i)=true:=List.find?_eq_none.1 dO f y;have Kc:L f.2.1=true:=(by simpa[e1]using l);have T:=hJ f y Kc;cases vM:o.dst with
      |none=>simp only[Act.put,F];exact T
      |some t=>
       cases nZ:io.dst with
       |none=>rw[vM,nZ]at H;simp[Dt]at H
       |some d=>rw[vM,nZ]at H;rw[nZ]at p;simp only[Dt,AAH,AAV]at H;simp only[AAN,AAH,AAp,bne_iff_ne]at p;have ht:t=d.d:=H.1.1.1;obtain⟨u1,u2⟩:=p f y;have u1:f.1≠d.d:=u1.elim id λfX=>(by have I:=Lo f.2.1 (AAT (n2 f y)) Kc i fX;rw[hLi]at I;cases I);simp only[Act.put,F,AAc,ABG];rw[AAO (by rw[ht];exact Ne.symm u2),AAO (by rw[ht];exact Ne.symm u1)];simpa[AAc]using T
     split at c
     . rename_i N;simp only[AAH,AA7,Option.isSome_iff_exists]at c;obtain⟨⟨⟨lB,Mi⟩,d,nZ⟩,c⟩:=c;obtain⟨dst,oI,g⟩:=io;simp only at Mi H p nZ N;subst Mi nZ N;split at c
       . rename_i t k X;rw[List.any_eq_true]at c;obtain⟨f,y,c⟩:=c;simp only[AAH,AAV]at c;obtain⟨⟨ht,F⟩,U⟩:=c;have T:=hJ f y (Js _ F);split at U
         . rename_i m hm;rw[hm]at T;obtain⟨vs,hv,hmv⟩:=T.2;have hkv:k<vs.size:=Nat.lt_of_le_of_lt (AAT U) hmv;obtain⟨S,δ,Fr,hn,EC,ha,rfl,CF,Ec,Cy⟩:=HZ;have hd:=ES (a:=a) H hn;have Lp:wr d (DV.lf .dead vs[k]).er (λs=>(δ s).er)=some M:=by
            simp only[KK,D8,F6,valOf]at j;split at j
            . rename_i υ C;rw[El,C,j]
            . exact j.elim
           refine PV (u:=vs[k]) z lB ?_ ⟨⟨M,S9 (D:=.lf .dead vs[k]) hn EC ha CF Ec Cy hd (.lf _ _ _ trivial (λ_ h=>h)) (DQ.dead _) Lp,rfl⟩,λf y l=>R a _ rfl f y l⟩;simp only[execOp,X,Act.eval,← ht,hv,Instr.extract,Array.getElem?_eq_getElem hkv];rfl
         . cases U
       . cases c
     split at c
     . rename_i r i1 _ d1 B;simp only[AAH,AA7]at c;obtain⟨⟨lB,F⟩,c⟩:=c;have T:=(hJ _ (ABZ B) (Js _ F)).1;have key:=IA hG HZ c j Q (i:=i) (by simp[hiN]);refine ZS z (J:=λV=>∀f∈W,(L f.2.1||f.2.1==i)=true->V.getD f.2.2.2 undef=V.getD f.1 undef/\arO (UI E f.2.1) (V.getD f.2.2.2 undef)) (λb v F=>R b v F) ?_;unfold wpOp at key ⊢;rw[z];simp only[Array.getElem?_setIfInBounds_self_of_lt hiN,Region.wanted,lB,AAo]at key ⊢;unfold Oper.wp Oper.asks at*;have l:=tO T o;simp only[lB]at l;rw[l]at key;exact key
     . exact ZS z (J:=λV=>∀f∈W,(L f.2.1||f.2.1==i)=true->V.getD f.2.2.2 undef=V.getD f.1 undef/\arO (UI E f.2.1) (V.getD f.2.2.2 undef)) (λb v F=>R b v F) (IA hG HZ c j Q z)
end Go.Abs
namespace Go.Abs
variable {G:Gi} {P:Program} {w:World}
theorem SK {L:Nat->Bool} {W:Nat->List Nat} {x j:Nat} (a:L j=true) (b:x∈W j):∀m,j<m->j<E6 L W x m
 |0,h=>absurd h (Nat.not_lt_zero _)
 |m+1,h=>by
  simp only[E6];split
  . omega
  . rename_i c;by_cases e:j=m
    . subst e;exact absurd ⟨a,b⟩ c
    . exact SK a b m (by omega)
theorem put_same (p:List Step):∀{t x:AV},sub t p=some x->put t p x=some t:=by
 induction p with
 |nil=>intro t x h;simp only[sub,AAG]at h;subst h;rfl
 |cons s p ih=>
  obtain⟨i,j,k⟩:=s;intro t x h;cases t with
  |own b k' rows=>
   simp only[sub]at h;split at h
   . rename_i l hi;split at h
     . rename_i c d;obtain⟨g,f⟩:=AAI.1 hi;obtain⟨e,a⟩:=AAI.1 d;simp only[put,hi,d,ih h];rw[← a,List.set_getElem_self,← f,List.set_getElem_self]
     . cases h
   . cases h
  |agg cs=>
   simp only[sub]at h;split at h
   . rename_i c d;obtain⟨e,a⟩:=AAI.1 d;simp only[put,d,ih h];rw[← a,List.set_getElem_self]
   . cases h
  |BT cs=>
   simp only[sub]at h;split at h
   . rename_i c d;obtain⟨e,a⟩:=AAI.1 d;simp only[put,d,ih h];rw[← a,List.set_getElem_self]
   . cases h
  |_=>simp[sub]at h
theorem sub_k {i j:Nat} (p:List Step) (k d:Nat):∀{t:AV},sub t (p++[(i,j,k)])=sub t (p++[(i,j,d)]):=by
 induction p with
 |nil=>intro t;cases t<;>simp[sub]
 |cons s p ih=>obtain⟨a,b,c⟩:=s;intro t;cases t<;>simp[sub,ih]
theorem st_frame {S:Nat->Prop} {δ:Nat->DV} {Fr:Nat->Nat->Prop} (h:St G w S δ Fr) {a:Act} (y:Rd δ a) {o:Oper} {t:TypeId} {x u:Operand} {n s:Nat} {z:Ar} (ho:o.op= .store t x u) (hn:GD P t=some n) (hc:CH x (.t s)=true) (X:CH u z=true) {σ':Sg}
 (c:F6 G (.st n (.t s) z) none (λs=>(δ s).er)=some σ'):∃w' b off,(execOp a.eval o).run P w= .ok .skip w'/\(∀x,x≠b->w'.heap[x]? =w.heap[x]?)/\a.tmps.getD s undef= .pointer (some ⟨b,off,none⟩):=by
 obtain⟨hy,V⟩:=Ah hc y;obtain⟨hz,f⟩:=Ah X y;simp only[F6]at c;split at c
 . rename_i v τ ht;obtain⟨δ1,F1,D,Ff,d,U,Q,I⟩:=h.tk hz ht;subst U;subst Q;split at c
   . rename_i r p i j k Un;obtain⟨vh,bx,Ak,b,Fx,E,hb,hp,Co,_⟩:=d.st.D9 Un;split at c
     . rename_i bC k' rows rU;obtain⟨D',e,N⟩:=Dj (d.st.ok r).KU rU;rw[E]at e;obtain rfl:=AAJ e;simp only[EN,AV.own.injEq]at N;obtain⟨rfl,rfl,rfl⟩:=N;split at c
       . rename_i row H;rw[AAR,AAi]at H;obtain⟨IL,C,rfl⟩:=H;split at c
         . rename_i R;obtain⟨g,q,B⟩:=R;split at c
           . rename_i t' F;have M:=K0 D d.ok.KU;have L:(Er D).length=n:=(by rw[← g,← M];simp);have J:=K7 d.ok q;rw[← M]at F q;obtain⟨w',td,F',O,Oi,K,QU,KR,We,_⟩:=ZL (P:=P) (Er D) (d.st.ok r) E hb C (by rw[L];simpa using B) (Mf d.ok) (λx hx W=>d.LX r x W hx) q F 0 (i*k+j) rfl;have l:(δ s).A0= .pointer (some ⟨b,i*k+j,none⟩):=(by rw[← d.A0 s];exact hp);refine⟨w',b,i*k+j,?_,We,by rw[y s];exact l⟩;have Z:¬((C0 δ z).cells.size≠n):=(by rw[← I,J];simp[L]);have T:(C0 δ z).cells.toList=(Er D).map DV.A0:=(by rw[← I,J]);have m:C0 δ (.t s)= .pointer (some ⟨b,i*k+j,none⟩):=l;simp only[execOp,ho,V,f,m,Instr.storeAt,Instr.sureAddr,storeVar,Sem.run_bind,Sem.run_pure,Result.andThen_ok,run_sizeOf hn,Sem.run_ite,Z,AAY,T,O]
           . cases c
         . cases c
       . cases c
     . cases c
   . cases c
 . cases c
theorem cE {f:uU} (os:List BP):∀{m:Nat} {σ:Sg} {K:Sg->Prop},Nl P G f m os K σ->∃q:Nat->Sg,q 0=σ/\(∀i io,os[i]? =some io->KK P G io (· =q (i+1)) (q i))/\(∀i,i≤os.length->sY f (m+i) (q i)=true)/\K (q os.length):=by
 induction os with
 |nil=>intro m σ K h;exact⟨λ_=>σ,rfl,λi io hi=>by simp at hi,λi hi=>by simp only[ABA,Nat.le_zero]at hi;subst hi;exact h.1,h.2⟩
 |cons o os ih=>
  intro m σ K h;obtain⟨c,h⟩:=h;obtain⟨τ,a,b⟩:=OV.1 h;obtain⟨q,d,e,g,j⟩:=ih b;refine⟨λi=>match i with|0=>σ|i+1=>q i,rfl,λi io hi=> ?_,λi hi=> ?_,by simpa using j⟩
  . cases i with
    |zero=>simp only[AAt,AAG]at hi;subst hi;simp only[d];exact a
    |succ i=>exact e i io (by simpa using hi)
  . cases i with
    |zero=>exact c
    |succ i=>rw[show m+(i+1)=m+1+i from by omega];exact g i (by simpa using hi)
def cT (P:Program) (G:Gi) (n:Nat) (f:uU) (ops:Array Oper) (M:List Nat) (i:Nat) (o:Oper) (io:BP):Bool:=
 if i=f.i12 then o.guard.isNone&&o.dst.isNone&&io.guard.isNone&&io.dst.isNone&&(match io.op with| .std (.t s)=>s==f.ap|_=>false)&&
  (match o.op with| .store t (.tmp x) (.tmp u)=>x==f.ap&&u==f.s&&GD P t==some 1|_=>false)&&(M.getD i 0).testBit f.i7&&(M.getD i 0).testBit f.i11
 else Gm P G n ops o io&&((M.getD f.i12 0).testBit i||(o.guard.isNone&&io.guard.isNone&&(match io.dst with|some d=>d.d != f.s&&d.d != f.ap|none=>true)&&
  (if i=f.i9 then o.dst.isNone&&io.dst.isNone&&(match io.op,o.op with| .st n (.t s) z,.store t x u=>s==f.e&&GD P t==some n&&CH x (.t s)&&CH u z|_,_=>false)&&(M.getD i 0).testBit f.i8
   else Yr io.op)))
def jQ (P:Program) (G:Gi) (n:Nat) (f:uU) (ops:Array Oper) (DZ:List BP):Bool:=
 decide (DZ.length=ops.size)&&decide (f.i12<ops.size)&&K8 G ops.toList DZ&&(GR G DZ f.i7).contains (2*f.s+1)&&(GR G DZ f.i8).contains (2*f.e+1)&&(GR G DZ f.i11).contains (2*f.ap+1)&&
 ((G.Gc f.e).all λr=> !(G.Gc f.ap).contains r)&&decide (f.i7<ops.size)&&decide (f.i8<ops.size)&&decide (f.i11<ops.size)&&
 (List.range ops.size).all λi=>match ops[i]?,DZ[i]? with
  |some o,some io=>cT P G n f ops (Uk ops.toList []) i o io
  |_,_=>false
def AJ (f:uU) (L:Nat->Bool) (a:Act) (w:World):Prop:=L f.i12=true->∃b o arr E,a.tmps.getD f.ap undef= .pointer (some ⟨b,o,none⟩)/\w.heap[b]? =some (.cells arr E (0,0))/\arr[o]? =some (a.tmps.getD f.s undef)
theorem aI {b o:Nat} {v:Value} {arr:Array Value} {E:TypeId} {fz:Nat×Nat} (a:w.heap[b]? =some (.cells arr E fz)) (c:arr[o]? =some v):w.setCell ⟨b,o,none⟩ v=w:=by
 have e:arr.setIfInBounds o v=arr:=by
  apply Array.ext_getElem?;intro i;rw[ABG];split
  . rename_i h;subst h;obtain⟨d,f⟩:=AAw.1 c;rw[AAP d,c]
  . rfl
 obtain⟨heap,_⟩:=w;simp only[World.setCell,World.mk.injEq,and_true]at a ⊢;apply Array.ext_getElem?;intro i;rw[ABW];split
 . rename_i h;subst h;rw[a];simp[e]
 . rfl
theorem xB {σ:Sg} {s:Nat} (h:Qz (σ s)=true):∃r p i j k,σ s= .KJ r p i j k/\D9 σ (.t s)=some (r,p,i,j,k):=by
 cases hs:σ s with
 |KJ r p i j k=>exact⟨r,p,i,j,k,rfl,by simp[D9,hs]⟩
 |_=>rw[hs]at h;simp[Qz]at h
theorem uL {ops:Array Oper} {Q:Exit->Act->World->Prop} {i:Nat} {o:Oper} {a:Act} {w':World} {K:Act->World->Prop} (hi:ops[i]? =some o) (c:o.guard=none) (b:(execOp a.eval o).run P w= .ok .skip w') (h:K (a.put o.dst undef) w'):wpOp P ops Q i K a w:=by unfold wpOp;rw[hi];simp only[Region.wanted,c,AAo];refine .inl ?_;unfold Oper.wp;rw[b];exact h
theorem mM {ops:Array Oper} {Q:Exit->Act->World->Prop} {i:Nat} {o:Oper} {a:Act} {w':World} {K:Act->World->Prop} (hi:ops[i]? =some o) (e:o.guard=none) (d:(execOp a.eval o).run P w= .ok .skip w') (h:wpOp P ops Q i K a w):wpOp P ops Q i (λb c=>K b c/\b=a.put o.dst undef/\c=w') a w:=by unfold wpOp at h ⊢;rw[hi]at h ⊢;simp only[Region.wanted,e,AAo]at h ⊢;refine h.imp (λh=> ?_) id;unfold Oper.wp at h ⊢;rw[d]at h ⊢;exact⟨h,rfl,rfl⟩
theorem p5 {n:Nat} {w0:World} {S0 U0:Nat->Prop} (hG:X0 w0 S0 U0) {ops:Array Oper} {K:Sg->Prop} (Q:Exit->Act->World->Prop) (hQ:∀a w σ,Rel G n w0 S0 U0 a w σ->K σ->Q .normal a w) {B:List BP} {a:Act} {w:World} {σ:Sg} {f:uU}
 (h:Rel G n w0 S0 U0 a w σ) (hc:jQ P G n f ops B=true) (Cb:Nl P G f 0 B (KK P G ⟨none,.st 1 (.t f.ap) (.t f.s),none⟩ K) σ):
 wpAny P .any ops Q ops.size (Array.replicate ops.size false) a w:=by
 simp only[jQ,AAH,AAZ,AAq]at hc;obtain⟨⟨⟨⟨⟨⟨⟨⟨⟨⟨hN,n12⟩,dH⟩,w7⟩,w8⟩,w11⟩,hdj⟩,n7⟩,n8⟩,n11⟩,Ho⟩:=hc;rw[AAN]at hdj Ho;obtain⟨q,hq0,Ge,Co,hK⟩:=cE B Cb;simp only[ABN]at Co;have I8:∀i o io,ops[i]? =some o->B[i]? =some io->cT P G n f ops (Uk ops.toList []) i o io=true:=by
  intro i o io D I;have hi:i<ops.size:=(AAw.1 D).1
  have:=Ho i (by simpa using hi);rw[D,I]at this;exact this
 obtain⟨o12,N,p1,p2⟩:∃o io,ops[f.i12]? =some o/\B[f.i12]? =some io:=⟨ops[f.i12],B[f.i12]'(by omega),by simp[n12],by simp[hN,n12]⟩;have h12:=I8 _ _ _ p1 p2;simp only[cT,AAP,AAH,AA7]at h12;obtain⟨⟨⟨⟨⟨⟨⟨g1,g2⟩,g3⟩,g4⟩,g5⟩,g6⟩,b7⟩,b11⟩:=h12;obtain⟨ty,kH,P3⟩:∃ty,o12.op= .store ty (.tmp f.ap) (.tmp f.s)/\GD P ty=some 1:=by
  split at g6
  . rename_i ty x u ho;simp only[AAH,AAV]at g6;obtain⟨⟨rfl,rfl⟩,T⟩:=g6;exact⟨ty,ho,T⟩
  . cases g6
 have ei12:N=⟨none,.std (.t f.ap),none⟩:=by
  obtain⟨d,op,g⟩:=N;simp only at g3 g4 g5;subst g3;subst g4;split at g5
  . simp only[AAV]at g5;rw[g5]
  . cases g5
 -- where the slots stand
 have own:∀{L:Nat->Bool} {σ:Sg},L f.i7=true->σ f.s=q (E6 L (GR G B) (2*f.s+1) ops.size) f.s->Om (σ f.s)=true:=by intro L σ hL J;have D:=SK hL w7 ops.size n7;have I:=Wr L (GR G B) (2*f.s+1) ops.size;have T:=Co _ (by omega:E6 L (GR G B) (2*f.s+1) ops.size≤B.length);simp only[sY,AAH,AAp,AAZ]at T;rw[J];exact T.1.1.resolve_left (by omega)
 have adr8:∀{L:Nat->Bool} {σ:Sg},L f.i8=true->σ f.e=q (E6 L (GR G B) (2*f.e+1) ops.size) f.e->Qz (σ f.e)=true:=by intro L σ hL J;have D:=SK hL w8 ops.size n8;have I:=Wr L (GR G B) (2*f.e+1) ops.size;have T:=Co _ (by omega:E6 L (GR G B) (2*f.e+1) ops.size≤B.length);simp only[sY,AAH,AAp,AAZ]at T;rw[J];exact T.1.2.resolve_left (by omega)
 have adr11:∀{L:Nat->Bool} {σ:Sg},L f.i11=true->σ f.ap=q (E6 L (GR G B) (2*f.ap+1) ops.size) f.ap->Qz (σ f.ap)=true:=by intro L σ hL J;have D:=SK hL w11 ops.size n11;have I:=Wr L (GR G B) (2*f.ap+1) ops.size;have T:=Co _ (by omega:E6 L (GR G B) (2*f.ap+1) ops.size≤B.length);simp only[sY,AAH,AAp,AAZ]at T;rw[J];exact T.2.resolve_left (by omega)
 -- the slice's store, executed
 have run12:∀{a:Act} {w:World} {b o:Nat} {arr:Array Value} {E:TypeId} {C:ABh Addr} {m c:Nat} {u:Value},a.tmps.getD f.ap undef= .pointer (some ⟨b,o,none⟩)->w.heap[b]? =some (.cells arr E (0,0))->arr[o]? =some u->a.tmps.getD f.s undef= .slice C m c->
  (execOp a.eval o12).run P w= .ok .skip (w.setCell ⟨b,o,none⟩ (.slice C m c)):=by
  intro a w b o arr E C m c u D I T h4;have En:=PM (P:=P) (w:=w) (off:=o) (v:=.slice C m c) I T rfl;have e1:a.eval (.tmp f.ap)= .pointer (some ⟨b,o,none⟩):=D;have e2:a.eval (.tmp f.s)= .slice C m c:=h4;simp only[execOp,kH,e1,e2,Instr.storeAt,Instr.sureAddr,storeVar,Sem.run_bind,Sem.run_pure,Result.andThen_ok,run_sizeOf P3,Sem.run_ite,Value.cells,storeCells];simp[En,Addr.add,storeCells]
 -- a slice's own slot holds a slice
 have Z:∀{S:Nat->Prop} {δ:Nat->DV} {Fr:Nat->Nat->Prop} {w:World},St G w S δ Fr->Om (δ f.s).er=true->∃C m c,(δ f.s).A0= .slice C m c:=by
  intro S δ Fr w y ho;have hk:=y.ok f.s;cases hd:δ f.s with
  |own v bx k rows=>
   rw[hd]at ho hk;cases bx with
   |true=>simp[Om]at ho
   |false=>obtain⟨a,c,e⟩:=ZH hk;exact⟨a,_,c,by simpa using e⟩
  |lf x v=>
   rw[hd]at ho hk;cases hk with
   |lf _ _ _ F=>simp only[El]at ho;cases x<;>first|exact F.elim|simp[Om]at ho
  |agg=>rw[hd]at ho;simp[Om]at ho
  |BT=>rw[hd]at ho;simp[Om]at ho
 refine Ro Q h hN ?_ dH (K:=λσ=>sY f B.length σ=true/\KK P G ⟨none,.st 1 (.t f.ap) (.t f.s),none⟩ K σ) q hq0 Ge ⟨Co _ (AAr _),hK⟩ (AJ f) ?_ ?_ ?_
 . intro i o io D I d hd
   have:=I8 i o io (by simpa using D) I;by_cases e:i=f.i12
   . subst e;have:io=N:=(by rw[p2]at I;exact(AAJ I).symm);subst this;rw[ei12]at hd;cases hd
   . simp only[cT,AAO e,AAH]at this;exact V9 this.1 d hd
 . -- the end: the slice comes into its cell, where it is already
   intro L a w σ hL hJ HZ U;obtain⟨hoks,U⟩:=U;obtain⟨b,o,arr,E,j1,j2,j3⟩:=hJ (hL _ n12);have y:=V3 hG (K:=K) HZ (ops:=ops) (o:=o12) (io:=⟨none,.st 1 (.t f.ap) (.t f.s),none⟩) (P:=P) (by simp[Gm,g1,g2,Dt,KM,kH,I7,P3,CH]) U Q;obtain⟨C,m,c,J⟩:∃C m c,a.tmps.getD f.s undef= .slice C m c:=(by obtain⟨S,δ,Fr,hn,EC,ha,rfl,y,Ec,Cy⟩:=HZ;simp only[sY,AAH,AAp,AAZ]at hoks;obtain⟨C,m,c,e⟩:=Z y (hoks.1.1.resolve_left (by omega));exact⟨C,m,c,(ha _).trans e⟩);rw[J]at j3;have hr:=run12 j1 j2 j3 J;rw[aI j2 j3]at hr;unfold Oper.wp at y;rw[hr,Oper.upon_skip,g2]at y;obtain⟨σ',D,I⟩:=y;exact hQ a w σ' D I
 . intro l;simp[AAc,n12]at l
 . intro L i o io a w σ τ' D I hiN hLi Js Lo hJ HZ R hτs;have O:=I8 i o io D I;have L12:∀j,((Uk ops.toList []).getD f.i12 0).testBit j=true->L f.i12=true->L j=true:=λj hb F=>Lo f.i12 n12 F j hb;by_cases e:i=f.i12
   . -- the slice's own store
     subst e;have:io=N:=(by rw[p2]at I;exact(AAJ I).symm);subst this;have:o=o12:=(by rw[p1]at D;exact(AAJ D).symm);subst this;obtain⟨S,δ,Fr,hn,EC,ha,rfl,y,Ec,Cy⟩:=HZ;rw[ei12]at R;simp only[KK,D8,F6]at R;split at R
     . rename_i υ H;split at H
       . rename_i r p i j k Un;split at H
         . rename_i QW;simp only[AAG]at H;subst H;subst R;have Dy:=own (L:=λj=>(L j||j==f.i12)) (σ:=λs=>(δ s).er) (by simp[Js _ b7]) (hτs f.s);obtain⟨C,m,c,hsv⟩:=Z y Dy;have hsv':a.tmps.getD f.s undef= .slice C m c:=(ha _).trans hsv;obtain⟨vh,bx,Ak,b,Fx,Bv,hb,hp,hokx,hFx⟩:=y.D9 Un;have hp':a.tmps.getD f.ap undef= .pointer (some ⟨b,i*k+j,none⟩):=(ha _).trans hp;obtain⟨x,l,hxe⟩:=Dj (y.ok r).KU QW;have hx0:=l;rw[Hx,Bv,AAF]at l;simp only[Ao]at l;split at l
           . rename_i IL Du;split at l
             . rename_i cc Bo;simp only[AAG]at l;subst l;obtain⟨QS,arr,E,nS,P1⟩:=O2 hokx hb;have hold:=P1 i j IL cc Du Bo;have hr:=run12 hp' nS hold hsv';obtain⟨t,F',Gz,Oi,hsubF,V,hFr⟩:=(y.ok r).store p Bv Du Bo hb (new:=.lf .dead (.slice C m c)) (Fn:=λ_=>False) (.lf _ _ _ trivial (λ_ h=>h)) (λ_ h=>h.elim);simp only[Ke]at Oi;have Up:∀x,x≠b->(w.setCell ⟨b,i*k+j,none⟩ (.slice C m c)).heap[x]? =w.heap[x]? :=λx l=>DA _ _ _ _ _ l;have hbS:¬S b:=(y.ok r).Ek b hFr;have bH:∃v0,cc= .lf .dead v0:=by
                cases cc with
                |lf a0 v0=>simp only[El]at hxe;subst hxe;exact⟨v0,rfl⟩
                |own=>simp at hxe
                |agg=>simp at hxe
                |BT=>simp at hxe
               obtain⟨v0,rfl⟩:=bH;have hter:t.er=(δ r).er:=(by obtain⟨t2,q1,q2⟩:=Gr (d:=δ r) (p:=p++[(i,j,k)]) (a:=(δ r).er) (.lf .dead (.slice C m c)) (y.ok r).KU (by rw[El];exact put_same _ ((sub_k p k 0).trans QW));rw[Gz]at q1;obtain rfl:=AAJ q1;exact q2);have gF:∀x,F' x->Fr r x:=λx l=>(hsubF x l).elim id False.elim;have Qx:∀q v bx k rows,Ao (δ r) q=some (.own v bx k rows)->∃M,Ao t q=some (.own v bx k M):=λq v' bC k' M hq=>(by have hold2:Ao (δ r) (p++[(i,j,k)])=some (.lf .dead v0):=(by rw[Hx,Bv];simp[Ao,Du,Bo]);exact Qh _ Gz hold2 (by simp) (by simp) (by simp) q v' bC k' M hq);have hpoke:=y.poke (w':=w.setCell ⟨b,i*k+j,none⟩ (.slice C m c)) r t F' (λx l=>Up x (by rintro rfl;exact hbS l)) (λs J x l=>Up x (by rintro rfl;exact J (y.LX s r _ l hFr))) Oi
                (λs J x l hy=>J (y.LX s r x hy (gF x l))) (by rw[hter];exact y.rt r) (Lv _ Gz (y.al r) (.lf _ _ trivial)) Qx V
               refine uL D g1 hr ⟨⟨_,⟨S,DP δ r t,DP Fr r F',?_,?_,?_,?_,hpoke,Ec.trans ?_,λx l=>by simpa using Cy x l⟩,rfl⟩,λ_=>⟨b,i*k+j,arr.setIfInBounds (i*k+j) (.slice C m c),E,?_,Qg _ _ _ _ _ _ _ nS,?_⟩⟩
               . rw[g2];exact hn
               . rw[g2];exact EC
               . intro s';rw[g2];simp only[Act.put];by_cases e:s'=r
                 . subst e;rw[BG,V];exact ha s'
                 . rw[Ba _ _ e];exact ha s'
               . funext s';by_cases e:s'=r
                 . subst e;simp only[BG,hter]
                 . simp only[Ba _ _ e]
               . refine⟨rfl,rfl,rfl,by simp,λx _ hU=>Up x (by rintro rfl;exact hU ⟨r,hFr⟩),λ_ h=>h,λ_ h=>.inl h,λF x l=>by simpa using F x l,λx l=>.inl ?_⟩;obtain⟨s,l⟩:=l;by_cases e:s=r
                 . subst e;rw[BG]at l;exact⟨s,gF x l⟩
                 . rw[Ba _ _ e]at l;exact⟨s,l⟩
               . rw[g2];exact hp'
               . rw[g2];simp only[Act.put,hsv']
                 have:=(AAw.1 hold).1;simp[this]
             . cases l
           . cases l
         . cases H
       . cases H
     . exact R.elim
   . simp only[cT,AAO e,AAH,AAp,AA7]at O;obtain⟨hco,O⟩:=O;have hK:=IA hG HZ hco R Q D;have hLe:(L f.i12||f.i12==i)=L f.i12:=(by rw[show(f.i12==i)=false from by simpa using Ne.symm e,Bool.or_false]);rcases O with hb|⟨⟨⟨lB,Mi⟩,hd⟩,O⟩
     . -- ahead of it
       refine wpOp_mono (λa' w' h=>⟨h,λF=> ?_⟩) hK;replace F:=hLe.symm.trans F;rw[L12 i hb F]at hLi;cases hLi
     . split at O
       . -- the element's store
         rename_i e9;subst e9;simp only[AAH,AA7]at O;obtain⟨⟨⟨k1,k2⟩,k3⟩,k4⟩:=O;obtain⟨dst,oI,g⟩:=io;simp only at Mi k2 k3;subst Mi;subst k2;split at k3
         . rename_i nn s' z ty' x' u' lC;simp only[AAH,AAV]at k3;obtain⟨⟨⟨rfl,m2⟩,m3⟩,m4⟩:=k3;obtain⟨w',b9,off,hr,bG,hp9⟩:∃w' b off,(execOp a.eval o).run P w= .ok .skip w'/\(∀x,x≠b->w'.heap[x]? =w.heap[x]?)/\a.tmps.getD f.e undef= .pointer (some ⟨b,off,none⟩):=by
            obtain⟨S,δ,Fr,hn,EC,ha,rfl,y,Ec,Cy⟩:=HZ;simp only[KK,D8]at R;split at R
            . rename_i υ H;exact st_frame y ha lC m2 m3 m4 H
            . exact R.elim
           refine wpOp_mono ?_ (mM D lB hr hK);rintro a' w1 ⟨⟨σ',Yz,rfl⟩,rfl,rfl⟩;rw[k1]at Yz ⊢;simp only[Act.put]at Yz ⊢;refine⟨⟨_,Yz,rfl⟩,λF=> ?_⟩;replace F:=hLe.symm.trans F;obtain⟨b,oo,arr,E,j1,j2,j3⟩:=hJ F;refine⟨b,oo,arr,E,j1,?_,j3⟩;rw[bG b ?_];exact j2;rintro rfl;obtain⟨S',δ',Fr',rU,hdef',ha',rfl,Jt,hnx',UK⟩:=Yz;obtain⟨r1,p1',i1,j1',k1',q1,q2⟩:=xB (σ:=λs=>(δ' s).er) (adr8 (L:=λj=>(L j||j==f.i9)) (σ:=λs=>(δ' s).er) (by simp[Js _ k4]) (hτs f.e));obtain⟨r2,p2',i2,j2',k2',q3,q4⟩:=xB (σ:=λs=>(δ' s).er) (adr11 (L:=λj=>(L j||j==f.i9)) (σ:=λs=>(δ' s).er) (by simp[L12 _ b11 F]) (hτs f.ap));obtain⟨v1,bx1,rw1,c1,F1,s1,s2,s3,s4,s5⟩:=Jt.D9 q2;obtain⟨v2,bx2,rw2,c2,F2,t1,t2,t3,t4,t5⟩:=Jt.D9 q4;have z1:b=c1:=(by have:=(ha' f.e).symm.trans hp9;rw[s3]at this;simp only[Value.pointer.injEq,AAG,Addr.mk.injEq]at this;exact this.1.symm);have z2:b=c2:=(by have:=(ha' f.ap).symm.trans j1;rw[t3]at this;simp only[Value.pointer.injEq,AAG,Addr.mk.injEq]at this;exact this.1.symm);have hr12:=Jt.LX r1 r2 b (s5 b (by rw[z1];exact(O2 s4 s2).1)) (t5 b (by rw[z2];exact(O2 t4 t2).1));subst hr12;have u1:=Jt.rt f.e;have u2:=Jt.rt f.ap;rw[q1]at u1;rw[q3]at u2;simp only[Ve,AAq]at u1 u2
           have:=hdj _ u1;simp[u2]at this
         . cases k3
       . -- a plain one
         rename_i e9;have X:=hco;simp only[Gm,AAH]at X;have hcop2:I7 P o.op io.op=true:=by have:=X.2;cases HU:io.op<;>rw[HU]at this O<;>first|exact this|simp[Yr]at O
         obtain⟨v,hv⟩:∃v,valOf io.op σ=some v:=by
          obtain⟨dst,oI,g⟩:=io;simp only at Mi O;subst Mi;cases dst with
          |none=>cases oI<;>simp[Yr]at O<;>simp[KK,D8,F6]at R
          |some d=>
           simp only[KK]at R;cases hv:valOf oI σ with
           |some v=>exact⟨v,rfl⟩
           |none=>cases oI<;>simp[Yr]at O<;>simp[D8,F6,hv]at R
         obtain⟨u,hr⟩:=zE HZ hcop2 O hv;have W:Dt G n o.dst io.dst=true:=X.1.1;refine fU D lB hr (λF=> ?_) hK;replace F:=hLe.symm.trans F;obtain⟨b,oo,arr,E,j1,j2,j3⟩:=hJ F;have Gz:∀s,(match io.dst with|some d=>d.d≠s|none=>True)->(a.put o.dst u).tmps.getD s undef=a.tmps.getD s undef:=by
          intro s J;cases vM:o.dst with
          |none=>rfl
          |some t=>
           cases nZ:io.dst with
           |none=>rw[vM,nZ]at W;simp[Dt]at W
           |some d=>rw[vM,nZ]at W;rw[nZ]at J;simp only[Dt,AAH,AAV]at W;have ht:t=d.d:=W.1.1.1;simp only[Act.put,AAc,ABG];rw[AAO (by rw[ht];exact J)]
         refine⟨b,oo,arr,E,?_,j2,?_⟩
         . rw[Gz];exact j1;cases nZ:io.dst with
           |none=>trivial
           |some d=>rw[nZ]at hd;simp only[AAH,bne_iff_ne]at hd;exact hd.2
         . rw[Gz];exact j3;cases nZ:io.dst with
           |none=>trivial
           |some d=>rw[nZ]at hd;simp only[AAH,bne_iff_ne]at hd;exact hd.1
end Go.Abs
namespace Go.Abs
variable {w w':World} {S S':Nat->Prop} {G:Gi} {δ:Nat->DV} {Fr:Nat->Nat->Prop} {P:Program}
theorem uB {t e new:DV} (p:List Step) (d:DW t p new=some e):Ao e p=some new:=by
 induction p generalizing t e with
 |nil=>simp only[DW,AAG]at d;subst d;rfl
 |cons s p ih=>
  obtain⟨i0,j0,f⟩:=s;cases t with
  |lf a v=>simp[DW]at d
  |own hh b k1 JF=>
   simp only[DW]at d;cases hi:JF[i0]? with
   |none=>simp[hi]at d
   |some row1=>
    simp only[hi]at d;cases hj:row1[j0]? with
    |none=>simp[hj]at d
    |some c=>
     simp only[hj]at d;cases hc:DW c p new with
     |none=>simp[hc]at d
     |some c'=>simp only[hc,AAG]at d;subst d;simp only[Ao,AAK (AAI.1 hi).1,AAK (AAI.1 hj).1];exact ih hc
  |agg cs=>
   simp only[DW]at d;cases hj:cs[j0]? with
   |none=>simp[hj]at d
   |some c=>
    simp only[hj]at d;cases hc:DW c p new with
    |none=>simp[hc]at d
    |some c'=>simp only[hc,AAG]at d;subst d;simp only[Ao,AAK (AAI.1 hj).1];exact ih hc
  |BT cs=>
   simp only[DW]at d;cases hj:cs[j0]? with
   |none=>simp[hj]at d
   |some c=>
    simp only[hj]at d;cases hc:DW c p new with
    |none=>simp[hc]at d
    |some c'=>simp only[hc,AAG]at d;subst d;simp only[Ao,AAK (AAI.1 hj).1];exact ih hc
theorem T5 {t:DV} (n d:Nat) (q:List Step) {v:Value} (h:Ao t q=some (.lf .dead v)):Ao (Fj n d t) q=some (.lf .dead v):=by
 induction q generalizing t with
 |nil=>simp only[Ao,AAG]at h;subst h;rfl
 |cons s q ih=>
  obtain⟨i,j,e⟩:=s;cases t with
  |lf a v=>simp[Ao]at h
  |own hh b k1 JF=>rw[LG];exact h
  |agg cs=>
   simp only[Ao]at h;cases hj:cs[j]? with
   |none=>simp[hj]at h
   |some c=>simp only[hj]at h;simp only[Jw,Ao,AAR,hj,AAk];exact ih h
  |BT cs=>
   simp only[Ao]at h;cases hj:cs[j]? with
   |none=>simp[hj]at h
   |some c=>simp only[hj]at h;simp only[Jx,Ao,AAR,hj,AAk];exact ih h
theorem St.tkd (h:St G w S δ Fr) {r:Nat} {p:List Step} {a:AV} {τ:Sg} (g:Abs.aT G r p (λs=>(δ s).er)=some (a,τ)):
 ∃f l D Ff,St G w S f l/\(λs=>(f s).er)=τ/\(∀s,(f s).A0=(δ s).A0)/\Ok w S D Ff/\D.er=a/\Ao (δ r) p=some D/\(∀s x,l s x->¬Ff x)/\
  (∀x,BD l x∨Ff x->BD Fr x)/\Ao (f r) p=some (.lf .dead D.A0):=by
 unfold Abs.aT at g;split at g
 . rename_i b k rows J;split at g
   . rename_i t I;simp only[AAG,AAU]at g;obtain⟨rfl,rfl⟩:=g;obtain⟨D,q,z⟩:=Dj (h.ok r).KU J;obtain⟨B,H,m,C⟩:=h.eU r p q;obtain⟨L,l,j,v,n,y⟩:=C S (.lf .dead D.A0) (by simp) (.lf _ _ _ trivial (λ_ h=>h)) (λ_ h=>h) (λt b F _=>(h.ok t).Ek b F) (by simp) (DQ.dead _);have K:L.er=t:=(by obtain⟨M,o,E⟩:=Gr (d:=δ r) (p:=p) (a:=t) (.lf .dead D.A0) (h.ok r).KU (by simpa using I);rw[j]at o;obtain rfl:=AAJ o;exact E);refine⟨_,_,D,B,v,by rw[NL h,K],?_,H,z,q,?_,?_,by rw[BG];exact uB p j⟩
     . intro s;rw[MH h];split
       . rename_i e;rw[e,y]
       . rfl
     . intro s x c u;by_cases i:s=r
       . subst i;rw[BG]at c;exact((n x).1 c).2 u
       . rw[Ba _ _ i]at c;exact i (h.LX s r x c (m x u))
     . rintro x (⟨s,c⟩|c)
       . by_cases i:s=r
         . subst i;rw[BG]at c;exact⟨s,((n x).1 c).1⟩
         . rw[Ba _ _ i]at c;exact⟨s,c⟩
       . exact⟨r,m x c⟩
   . cases g
 . cases g
theorem OkL_two {l:List DV} {D E:DV} {F H:Nat->Prop} (e:Ok w S D F) (g:∀d∈l,Ok w S d (λ_=>False)) (f:Ok w S E H) (a:∀x,F x->¬H x):JH w S (D::(l++[E])) (λx=>F x∨H x):=by
 have c:JH w S [E] H:=⟨H,λ_=>False,f,Ca (by simp),λ_ _ h=>h,λx=>by simp⟩;have b:JH w S (l++[E]) H:=(K3 (Ca g) c (λ_ h=>h.elim)).congr λx=>by simp
 exact⟨F,H,e,b,a,λx=>ABb⟩
theorem lb_sound {n:Nat} {w0:World} {S0 U0:Nat->Prop} (hG:X0 w0 S0 U0) {a:Act} {σ:Sg} (h:Rel G n w0 S0 U0 a w σ) {o:Oper} {d:ABh Dw} {f:Nat} {x y:Ar} {gJ:List Ar} {K:Sg->Prop}
 (Of:JQ P o.op f (x::(gJ++[y])) 0=true) (bF:Dt G n o.dst d=true) (I:lbP P G d f x gJ y K σ) (Q:Exit->Act->World->Prop):
 o.wp P a w (λa' w'=>∃σ',Rel G n w0 S0 U0 a' w' σ'/\K σ') Q:=by
 obtain⟨S,δ,Fr,hn,EC,ha,rfl,CF,Ec,Cy⟩:=h;obtain⟨cc,fn,ho,Kv,hf,hfb,lA,hm3,Rz⟩:=Ks Of;have hd:=ES bF hn;obtain⟨x0,xs,y0,FW,hx0,hxs,hy0⟩:∃x0 xs y0,cc.args.toList=x0::(xs++[y0])/\CH x0 x=true/\GN xs gJ=true/\CH y0 y=true:=by
  generalize cc.args.toList=l at Rz;cases l with
  |nil=>simp[GN]at Rz
  |cons x0 l=>
   simp only[GN,AAH]at Rz;obtain⟨j,C⟩:=Rz;clear Of I;obtain⟨xs,y0,e,h3,h4⟩:∃xs y0,l=xs++[y0]/\GN xs gJ=true/\CH y0 y=true:=by
    induction gJ generalizing l with
    |nil=>
     cases l with
     |nil=>simp[GN]at C
     |cons y0 l=>
      simp only[ABB,GN,AAH]at C;cases l with
      |nil=>exact⟨[],y0,rfl,rfl,C.1⟩
      |cons=>simp[GN]at C
    |cons z gJ ih=>
     cases l with
     |nil=>simp[GN]at C
     |cons z0 l=>simp only[AAz,GN,AAH]at C;obtain⟨xs,y0,e,h3,h4⟩:=ih l C.2;exact⟨z0::xs,y0,by simp[e],by simp[GN,C.1,h3],h4⟩
   exact⟨x0,xs,y0,by rw[e],j,h3,h4⟩
 obtain⟨hxo,ex0⟩:=Ah hx0 ha;obtain⟨hyo,ey0⟩:=Ah hy0 ha;unfold lbP at I;split at I
 case h_2=>exact I.elim
 rename_i u F hp2;split at I
 case h_2=>exact I.elim
 rename_i v τ Xv;obtain⟨b2,k2,W,rfl,oB⟩:∃b2 k2 W,v= .own b2 k2 W/\sub (δ u).er F=some (.own b2 k2 W):=by
  unfold Abs.aT at Xv;split at Xv
  . rename_i b2 k2 W C;split at Xv
    . simp only[AAG,AAU]at Xv;exact⟨_,_,_,Xv.1.symm,C⟩
    . cases Xv
  . cases Xv
 obtain⟨m,V,DY,Ff,R,rfl,JS,hokY,hYe,hsubY,Yy,SD,QW⟩:=CF.tkd Xv;obtain⟨O,q1,q2⟩:=Tt CF (x:=y) hp2 oB;rw[hsubY]at q1;obtain rfl:=AAJ q1;have hargv:∀z,C0 m z=C0 δ z:=by
  intro z;cases z with
  |t s=>exact JS s
  |c c=>rfl
 have ha0:Rd m a:=λs=>(ha s).trans (JS s).symm;split at I
 case h_2=>exact I.elim
 rename_i r p ms hp hmid;split at I
 case h_2=>exact I.elim
 rename_i b k rows hs;unfold lbQ at I;obtain⟨Mj,res,out,JA,Oe,Gu,Gz⟩:=I;split at Gz
 case h_2=>exact Gz.elim
 rename_i t hput1;split at Gz
 case h_2=>exact Gz.elim
 rename_i t2 Z;have hK:=Gz;obtain⟨Ak,hD,E4⟩:=Tt R (x:=x) hp hs;obtain⟨Fo,YA,Bv,MJ⟩:=(R.ok r).replace p hD;obtain⟨Ds,p1,p3,p4⟩:=Q9 R ha0 gJ hxs hmid;have hFoF:∀x,Fo x->¬Ff x:=λx h=>Yy r x (Bv x h);have F9:=JA w S (.own (C0 m x) b k Ak::(Ds++[.own (C0 δ y) b2 k2 O])) (λx=>Fo x∨Ff x) (hG.now Ec) (by rw[AAb,AAv,p1,E4,List.map_singleton,hYe]) (BK.2 (OkL_two YA p4 hokY hFoF)) Cy;have WW:(List.map DV.A0 (.own (C0 m x) b k Ak::(Ds++[.own (C0 δ y) b2 k2 O])))=cc.args.toList.map a.eval:=by rw[FW];simp[p3,ex0,ey0,hargv]
 unfold Oper.wp;rw[TF ho Kv hf hfb lA,Oper.upon_enter,← WW];refine F9.mono ?_;rintro e w' ⟨rD,os,S',F',rfl,P2,hoe,vL,Co,EO,LY,nR,KP,WT⟩;obtain⟨Fa,Fb,hra',hosk,hdab,P0⟩:=BK.1 Co;obtain⟨oX,os1,M,rfl,H,hYe',hXa,hYa⟩:∃oX os1 M,os=oX::(os1++[M])/\oX.er=out/\M.er= .own b2 k2 W/\oX.A0=C0 m x/\M.A0=C0 δ y:=by
  cases os with
  |nil=>simp at hoe
  |cons oX l=>
   simp only[AAb,ABc]at hoe vL;obtain⟨e1,e2⟩:=hoe;obtain⟨l1,l2,rfl,e3,e4⟩:=List.map_eq_append_iff.1 e2;obtain⟨M,rfl,e5⟩:∃M,l2=[M]/\M.er= .own b2 k2 W:=by
    cases l2 with
    |nil=>simp at e4
    |cons M l3=>simp only[AAb,ABc,List.map_eq_nil_iff]at e4;exact⟨M,by rw[e4.2],e4.1⟩
   refine⟨oX,l1,M,rfl,e1,e5,by simpa using vL.1,?_⟩
   have:=vL.2;rw[AAv,AAv]at this
   have:=(List.append_inj' this rfl).2;simpa using this
 obtain⟨FX,FR,hoX,hoR,hdXR,QS⟩:=hosk;obtain⟨FY,hoY,X⟩:=wQ (l:=os1) (r:=[]) hoR;have Df:∀s x,V s x->x<w.heap.size:=λs x i=>(R.ok s).lt x i;have L:∀x,Fa x∨FX x∨FY x->(Fo x∨Ff x)∨w.heap.size≤x:=λx i=>WT x ((P0 x).2 (i.imp id λh=>(QS x).2 (h.imp id (X x))))
 -- what a slot owns meets nothing that the call has, but for the lent part
 have nW:∀s x,V s x->¬Fo x->¬(Fa x∨FX x∨FY x):=by
  intro s x i T hh;rcases L x hh with(j|j)|j
  . exact T j
  . exact Yy s x i j
  . have:=Df s x i;omega
 have oF:∀b,S b->w'.heap[b]? =w.heap[b]? :=λb D=>EO.block b (Cy b D) (λhf=>hf.elim (λh=>YA.Ek b h D) λh=>hokY.Ek b h D);have lF:∀s b,V s b->¬Fo b->w'.heap[b]? =w.heap[b]? :=λs b D T=>EO.block b (Df s b D) λhf=>hf.elim T (Yy s b D);have zT:∀s b,V s b->¬Fo b->¬S' b:=by
  intro s b D T h';rcases nR b h' with j| (j|j)|j
  . exact(R.ok s).Ek b D j
  . exact T j
  . exact Yy s b D j
  . have:=Df s b D;omega
 have SA:∀s,s≠r->∀x,V s x->¬Fo x:=λs B x i hf=>B (R.LX s r x i (Bv x hf));obtain⟨tD,F2,oE,hokt,HY,DU⟩:=MJ w' S' oX FX (by rw[hXa];simp) hoX (λx i I=>Classical.byContradiction λT=>nW r x I T (.inr (.inl i))) oF (λb D T=>lF r b D T) LY (λb D T=>zT r b D T);have r7:tD.er=t:=by obtain⟨t',j,C⟩:=Gr (d:=m r) (p:=p) (a:=t) oX (R.ok r).KU (by rw[H];exact hput1);rw[oE]at j;obtain rfl:=AAJ j;exact C
 have AAD:∀s,s≠r->∀x,F2 x->¬V s x:=by
  intro s B x i E;rcases(HY x).1 i with⟨j,_⟩|j
  . exact B (R.LX s r x E j)
  . exact nW s x E (SA s B x E) (.inr (.inl j))
 have hbX:Hl oX.er=true:=by rw[H];exact Oe
 generalize hN:SM out b k p=N at hK Z;have hab:∀q v' bx k' J,q.length<N->Ao (m r) q=some (.own v' bx k' J)->∃W,Ao tD q=some (.own v' bx k' W):=by
  intro q v' bx k' J hq hsq;subst hN;unfold SM at hq;split at hq
  . rename_i b1 k1 JF;split at hq
    . rename_i e;obtain⟨rfl,rfl⟩:=e;refine Mq q p (by omega) oE (λ_ v2 bx2 k2 W C=> ?_) hsq;rw[hD]at C;cases C;cases oX with
      |own hh b2 k2 W=>simp only[EN,AV.own.injEq]at H;obtain⟨rfl,rfl,_⟩:=H;simp only[KE]at hXa;exact⟨W,by rw[hXa]⟩
      |lf a v=>simp only[El]at H;subst H;cases hoX with|lf _ _ _ h=>exact h.elim
      |agg=>simp at H
      |BT=>simp at H
    . omega
  . omega
 have U:St G w' S' (DP (EP G N r m) r tD) (DP V r F2):=
  R.setn N r tD F2 oF (λs B x i=>lF s x i (SA s B x i)) LY (λs B x i=>zT s x i (SA s B x i)) hokt AAD (LO p oE (R.rt r) (NG hbX)) (Lv p oE (R.al r) (Te hbX)) hab
 have Qw:(λs=>(DP (EP G N r m) r tD s).er)=DP (Fk G N r λs=>(m s).er) r t:=by
  funext s;unfold DP;split
  . exact r7
  . exact R.Pg N r s
 have Lm:∀s,(DP (EP G N r m) r tD s).A0=(m s).A0:=by
  intro s;unfold DP;split
  . rename_i e;rw[e,DU]
  . exact R.LH N r s
 have VZ:Ao (DP (EP G N r m) r tD u) F=some (.lf .dead (C0 δ y)):=by
  rw[Ba _ _ (Ne.symm Mj)];unfold EP;have QW:Ao (m u) F=some (.lf .dead (C0 δ y)):=by simpa using QW
  split
  . exact T5 N r F QW
  . exact QW
 generalize hδ2:DP (EP G N r m) r tD=δ2 at U Qw Lm VZ;have WU:∀s x,DP V r F2 s x->¬(Fa x∨FY x):=by
  intro s x i E;have key:FX x->False:=λhX=>by
   rcases E with E|E
   . exact hdab x E ((QS x).2 (.inl hX))
   . exact hdXR x hX (X x E)
  by_cases B:s=r
  . subst B;rw[BG]at i;rcases(HY x).1 i with⟨j,C⟩|j
    . exact nW s x j C (E.imp id .inr)
    . exact key j
  . rw[Ba _ _ B]at i;exact nW s x i (SA s B x i) (E.imp id .inr)
 have hO2:∀s x,DP V r F2 s x->BD Fr x∨w.heap.size≤x:=by
  intro s x i;have up:V s x->BD Fr x∨w.heap.size≤x:=λh=>.inl (SD x (.inl ⟨s,h⟩));by_cases B:s=r
  . subst B;rw[BG]at i;rcases(HY x).1 i with⟨j,_⟩|j
    . exact up j
    . exact(L x (.inr (.inl j))).imp (λh=>SD x (h.imp (λh=>⟨s,Bv x h⟩) id)) id
  . rw[Ba _ _ B]at i;exact up i
 generalize DP V r F2=G2 at U WU hO2;obtain⟨Fd,hokd,hsubd,hrepd⟩:=(U.ok u).replace F VZ;obtain⟨tE,F3,htE,hokE,hiffE,hannE⟩:=hrepd w' S' M FY (by rw[hYa];simp) hoY (λx i I=>(WU _ x I (.inr i)).elim) (λ_ _=>rfl) (λ_ _ _=>rfl) (λ_ h=>h) (λb D _=>(U.ok u).Ek b D);have hteE:tE.er=t2:=by obtain⟨t',j,C⟩:=Gr (d:=δ2 u) (p:=F) (a:=t2) M (U.ok u).KU (by rw[hYe',← Z];exact congrArg (λg=>put (g u) F _) Qw);rw[htE]at j;obtain rfl:=AAJ j;exact C
 have hbY:Hl M.er=true:=by rw[hYe'];rfl
 have hF3:∀x,F3 x->G2 u x∨FY x:=λx i=>((hiffE x).1 i).imp (λh=>h.1) id;have hst3:St G w' S' (DP (EP G F.length u δ2) u tE) (DP G2 u F3):=
  U.setn F.length u tE F3 (λ_ _=>rfl) (λ_ _ _ _=>rfl) (λ_ h=>h) (λs _ x i=>(U.ok s).Ek x i) hokE
   (λs B x i E=>(hF3 x i).elim (λh=>B (U.LX s u x E h)) λh=>WU s x E (.inr h)) (LO F htE (U.rt u) (NG hbY)) (Lv F htE (U.al u) (Te hbY))
   λq v' bx k' J hq hsq=>Mq q F (by omega) htE (λe=>absurd e (by omega)) hsq
 have her3:(λs=>(DP (EP G F.length u δ2) u tE s).er)=DP (Fk G F.length u (DP (Fk G N r λs=>(m s).er) r t)) u t2:=by
  rw[← Qw];funext s;unfold DP;split
  . exact hteE
  . exact U.Pg F.length u s
 have hann3:∀s,(DP (EP G F.length u δ2) u tE s).A0=(δ s).A0:=by
  intro s;rw[← JS s,← Lm s];unfold DP;split
  . rename_i e;rw[e,hannE]
  . exact U.LH F.length u s
 have AAC:∀s x,DP G2 u F3 s x->¬Fa x:=by
  intro s x i E;by_cases B:s=u
  . subst B;rw[BG]at i;exact(hF3 x i).elim (λh=>WU s x h (.inl E)) λh=>hdab x E ((QS x).2 (.inr (X x h)))
  . rw[Ba _ _ B]at i;exact WU s x i (.inl E)
 have Dy:∀x,(Fo x∨Ff x)->BD Fr x:=λx h=>SD x (h.imp (λh=>⟨r,Bv x h⟩) id);have hOwn3:∀x,BD (DP G2 u F3) x->BD Fr x∨w.heap.size≤x:=by
  rintro x ⟨s,i⟩;by_cases B:s=u
  . subst B;rw[BG]at i;exact(hF3 x i).elim (hO2 s x) λh=>(L x (.inr (.inr h))).imp (Dy x) id
  . rw[Ba _ _ B]at i;exact hO2 s x i
 have Ge:∀F4:Nat->Nat->Prop,(∀x,BD F4 x->BD (DP G2 u F3) x∨Fa x)->Nx w0 S0 U0 w' S' (BD F4):=by
  intro F4 hF4;refine Ec.trans ⟨EO.os,EO.tape,EO.output,EO.size,λb D T=>EO.block b D λhf=>T (Dy b hf),LY,λb D=>(nR b D).imp id (Or.imp (Dy b) id),λ_=>KP,λx i=> ?_⟩;rcases hF4 x i with j|j
  . exact hOwn3 x j
  . exact(L x (.inl j)).imp (Dy x) id
 rw[← her3]at hK;have QT:Rd (DP (EP G F.length u δ2) u tE) a:=λs=>(ha s).trans (hann3 s).symm;simp only;cases d with
 |none=>
  have h0:o.dst=none:=hd;refine⟨_,⟨S',_,_,?_,?_,?_,rfl,hst3,Ge _ (λx i=>.inl i),KP⟩,hK⟩
  . rw[h0];exact hn
  . rw[h0];exact EC
  . rw[h0];exact QT
 |some d=>
  simp only[Cw]at hK;split at hK
  . rename_i τ' Lp;obtain⟨j,C,h3,h4⟩:=hd;rw[← P2]at Lp;obtain⟨δ',F5,Jt,Iu,QU,Wf⟩:=hst3.wr C h3 (λ_ _=>rfl) (λ_ _ _=>rfl) (λ_ h=>h) (λs x i=>(hst3.ok s).Ek x i) hra' AAC (WA hra' (by rw[P2];exact Gu)) Lp;refine⟨τ',⟨S',δ',F5,?_,?_,?_,Iu,Jt,Ge F5 Wf,KP⟩,hK⟩
    . rw[j];simpa[Act.put]using hn
    . rw[j];simpa[Act.put]using EC
    . intro s;rw[j,IJ a d.d rD.A0 h4 s,QU s];split
      . rfl
      . exact QT s
  . exact hK.elim
end Go.Abs
namespace Go.Abs
variable {w w':World} {S S':Nat->Prop} {G:Gi} {δ:Nat->DV} {Fr:Nat->Nat->Prop} {P:Program}
def cV (P:Program) (G:Gi) (n:Nat) (ops:Array Oper) (o:Oper):gC->Bool
 | .o io=>Gm P G n ops o io
 | .SU d neg x=>o.guard.isNone&&Dt G n o.dst (some d)&&jY P o.op neg x
 | .gld d g m=>o.guard.isNone&&Dt G n o.dst (some d)&&jW P o.op g m
 | .bxv d m s=>o.guard.isNone&&Dt G n o.dst (some d)&&jR P o.op m s
 | .lb d f x gJ y=>o.guard.isNone&&Dt G n o.dst d&&JQ P o.op f (x::(gJ++[y])) 0
 | .clo d f x args g=>KM n ops o.guard g&&Dt G n o.dst d&&jS P o.op f x args
def Yo (P:Program) (G:Gi) (n:Nat) (ops:Array Oper):List Oper->List gC->Bool
 |[],[]=>true
 |o::os,x::xs=>cV P G n ops o x&&Yo P G n ops os xs
 |_,_=>false
theorem cO {n:Nat} {t:World} {l p:Nat->Prop} (z:X0 t l p) {ops:Array Oper} {K:Sg->Prop} (Q:Exit->Act->World->Prop) {k:Nat} {o:Oper} (C:ops[k]? =some o) {x:gC} {B:List gC} {a:Act} {w:World} {σ:Sg}
 (h:Rel G n t l p a w σ) (c:cV P G n ops o x=true/\True) (b:K5 P G (x::B) K σ):wpOp P ops Q k (λq w'=>∃σ',Rel G n t l p q w' σ'/\K5 P G B K σ') a w:=by
 have u:o.guard.isNone=true->o.wp P a w (λq w'=>∃σ',Rel G n t l p q w' σ'/\K5 P G B K σ') Q->wpOp P ops Q k (λq w'=>∃σ',Rel G n t l p q w' σ'/\K5 P G B K σ') a w:=by
  intro O E;unfold wpOp;rw[C];have D:o.guard=none:=by simpa using O
  simp only;rw[AAP (by simp[Region.wanted,D])];exact .inl E
 cases x with
 |o io=>exact IA z h c.1 b Q C
 |SU d neg x=>
  simp only[cV,AAH]at c;obtain⟨⟨⟨i,e⟩,j⟩,_⟩:=c;refine u i ?_;simp only[K5]at b;split at b
  . rename_i U V R;split at b
    . rename_i rows J;exact lM h j e R J b Q
    . exact b.elim
  . exact b.elim
 |lb d f x gJ y=>simp only[cV,AAH]at c;obtain⟨⟨⟨i,e⟩,j⟩,_⟩:=c;exact u i (lb_sound z h j e b Q)
 |bxv d m s=>
  simp only[cV,AAH]at c;obtain⟨⟨⟨i,e⟩,j⟩,_⟩:=c;refine u i ?_;simp only[K5]at b;split at b
  . rename_i N S;exact qO h j e S b.1 b.2 Q
  . exact b.elim
 |clo d f x args g=>
  simp only[cV,AAH]at c;obtain⟨⟨⟨i,e⟩,j⟩,_⟩:=c;simp only[K5]at b;refine Od h e i Q (λb=> ?_) (λ_ _ r k=>⟨_,r,k⟩) b C;unfold kB at b;split at b
  . rename_i M I;obtain⟨T,H,b⟩:=b;split at b
    . rename_i v F;exact qW z h j e I H F b Q
    . exact b.elim
  . exact b.elim
 |gld d g m=>
  simp only[cV,AAH]at c;obtain⟨⟨⟨i,e⟩,j⟩,_⟩:=c;refine u i ?_;simp only[K5]at b;split at b
  . rename_i N L;exact rN z h j e L b Q
  . exact b.elim
theorem qL {n:Nat} {g:World} {e f:Nat->Prop} (s:X0 g e f) {ops:Array Oper} {K:Sg->Prop} (Q:Exit->Act->World->Prop) (t:∀a w σ,Rel G n g e f a w σ->K σ->Q .normal a w) (d:List gC):
 ∀(k:Nat) {a:Act} {w:World} {σ:Sg},Rel G n g e f a w σ->Yo P G n ops (ops.toList.drop k) d=true->K5 P G d K σ->wpOps P ops Q (List.range' k (ops.size-k)) a w:=by
 induction d with
 |nil=>
  intro k a w σ h b m;have p:ops.toList.drop k=[]:=by cases hd:ops.toList.drop k with|nil=>rfl|cons o os=>rw[hd]at b;simp[Yo]at b
  have q:ops.size≤k:=by simpa using p
  rw[show ops.size-k=0 from by omega];exact t a w σ h m
 |cons x d ih=>
  intro k a w σ h b m;cases hd:ops.toList.drop k with
  |nil=>rw[hd]at b;simp[Yo]at b
  |cons o os=>rw[hd]at b;simp only[Yo,AAH]at b;have p:k<ops.size:=(by have:(ops.toList.drop k).length=os.length+1:=(by rw[hd];rfl);simp at this;omega);have u:ops[k]? =some o:=(by have:(ops.toList.drop k)[0]? =some o:=(by rw[hd];rfl);simpa using this);have l:ops.toList.drop (k+1)=os:=(by have:(ops.toList.drop k).drop 1=os:=(by rw[hd];rfl);rw[List.drop_drop]at this;exact this);rw[show ops.size-k=(ops.size-(k+1))+1 from by omega,List.range'_succ,wpOps_cons];have c:∀i w',(∃σ',Rel G n g e f i w' σ'/\K5 P G d K σ')->wpOps P ops Q (List.range' (k+1) (ops.size-(k+1))) i w':=(by rintro i w' ⟨σ',r,j⟩;exact ih (k+1) r (by rw[l];exact b.2) j);exact wpOp_mono c (cO s Q u h ⟨b.1,trivial⟩ m)
def Gf (P:Program) (G:Gi) (n:Nat):Code->IC->Bool
 | .skip,.skip=>true
 |_,.bad=>true
 |c,.gz _ _ _ a=>Gf P G n c a
 |c,.pg _ _ _ a=>Gf P G n c a
 | .region _ ops false,.YS xs=>Yo P G n ops ops.toList xs
 | .region _ ops d,.OQ DZ=>LA P G n ops ops.toList DZ&&(!d||K8 G ops.toList DZ)
 | .region _ ops true,.flo f aZ9 bs=>jV P G n f ops (aZ9++bs)&&aZ9.length==f.i2+1
 | .region _ ops true,.bE fs DZ=>jU P G n fs ops DZ
 | .region _ ops true,.apd f DZ=>jQ P G n f ops DZ
 | .seq a b,.seq a' b'=>Gf P G n a a'&&Gf P G n b b'
 | .cond c a b,.cond c' a' b'=>CH c c'&&Gf P G n a a'&&Gf P G n b b'
 | .block id a,.block id' a'=>id==id'&&Gf P G n a a'
 | .loop a,.loop a'=>Gf P G n a a'
 | .exit id,.exit id'=>id==id'
 | .ret,.ret=>true
 | .label _,.skip=>true
 |_,_=>false
def Pu (m:Nat) (a0 a:Act):Prop:=∀i,i<m->a.tmps.getD i undef=a0.tmps.getD i undef
theorem Pu.refl (m:Nat) (a:Act):Pu m a a:=λ_ _=>rfl
def UE (m:Nat) (o:Oper):Bool:=match o.dst with
 |some d=>decide (m≤d)
 |none=>true
def Gg (m:Nat):Code->Bool
 | .region _ ops _=>ops.toList.all (UE m)
 | .seq a b=>Gg m a&&Gg m b
 | .cond _ a b=>Gg m a&&Gg m b
 | .block _ a=>Gg m a
 | .loop a=>Gg m a
 |_=>true
theorem Oa (c:Code):Gg 0 c=true:=by
 induction c with
 |region id ops d=>simp only[Gg,AAN];intro o _;unfold UE;split<;>simp
 |seq a b SE ihb=>simp[Gg,SE,ihb]
 |cond c a b SE ihb=>simp[Gg,SE,ihb]
 |block id a SE=>simp[Gg,SE]
 |loop a SE=>simp[Gg,SE]
 |_=>simp[Gg]
def Kept (m:Nat) (a0:Act) (Q:Exit->Act->World->Prop) (e:Exit) (a:Act) (w:World):Prop:=Q e a w/\(e= .outgrown∨Pu m a0 a)
theorem Pu.put {m:Nat} {a0 a:Act} (h:Pu m a0 a) {o:Oper} (b:UE m o=true) (v:Value):Pu m a0 (a.put o.dst v):=by
 intro i hi;unfold UE at b;split at b
 . rename_i d hd;simp only[AAZ]at b;rw[hd];simp only[Act.put,AAc,ABG];rw[AAO (by omega)]
   have:=h i hi;simpa[AAc]using this
 . rename_i hd;rw[hd];exact h i hi
theorem Xr {ops:Array Oper} {Q:Exit->Act->World->Prop} {m:Nat} {a0:Act} (n:ops.toList.all (UE m)=true) (l:List Nat):
 ∀(a:Act) (w:World),Pu m a0 a->wpOps P ops Q l a w->wpOps P ops (Kept m a0 Q) l a w:=by
 induction l with
 |nil=>intro a w b h;exact⟨h,.inr b⟩
 |cons i rest ih=>
  intro a w b h;simp only[wpOps]at h ⊢;cases ho:ops[i]? with
  |none=>simp only[ho]at h ⊢;exact ih a w b h
  |some o=>
   simp only[ho]at h ⊢;have g:UE m o=true:=(by rw[AAN]at n;exact n o (by rw[Array.mem_toList_iff];exact Array.mem_of_getElem? ho));have c:LetsOut Q->LetsOut (Kept m a0 Q):=λ⟨a,w,q⟩=>⟨a,w,q,.inl rfl⟩;by_cases p:Region.wanted o (yielded ops a.tmps)=true
   . simp only[p,AAo]at h ⊢;refine h.imp (λh=> ?_) (λh=>⟨h.1,c h.2⟩);unfold Oper.wp at*;generalize (execOp a.eval o).run P w=r at*;cases r with
     |ok x w'=>
      cases x with
      |value v=>exact ih _ _ (b.put g v) h
      |skip=>exact ih _ _ (b.put g undef) h
      |defer d=>exact ih _ _ (Pu.put (a:={a with defers:=d::a.defers}) (λi hi=>b i hi) g undef) h
      |enter f args=>
       simp only[Oper.upon]at h ⊢;refine Calls.mono h λe k j=> ?_;cases e with
       |returned v=>exact ih _ _ (b.put g v) j
       |panicked chain=>exact⟨j,.inr b⟩
       |outgrown=>exact c j
      |row row args=>simp only[Oper.upon]at h ⊢;exact Rows.mono h λv k j=>ih _ _ (b.put g v) j
      |_=>simp only[Oper.upon]at h
     |halt x w'=>
      cases x with
      |panic v=>simp only[Oper.upon]at h ⊢;exact⟨h,.inr b⟩
      |_=>simp only[Oper.upon]at h
   . simp only[p]at h ⊢;exact ih _ _ (b.put g undef) h
theorem PW {d:Nat} {ops:Array Oper} {Q:Exit->Act->World->Prop} {m:Nat} {a0 a:Act} {w:World} (b:ops.toList.all (UE m)=true) (c:Pu m a0 a)
 (h:wpOps P ops Q (List.range ops.size) a w):(Code.region d ops false).wp P (Kept m a0 Q) a w:=wp_region (Xr b _ a w c h)
theorem HT {e:Nat} {ops:Array Oper} {Q:Exit->Act->World->Prop} {m:Nat} {a0 a:Act} {w:World} (b:ops.toList.all (UE m)=true) (c:Pu m a0 a) (d:P.follows .mixedOrders=true)
 (h:wpAny P .any ops Q ops.size (Array.replicate ops.size false) a {w with drawn:=w.drawn+1}):(Code.region e ops true).wp P (Kept m a0 Q) a w:=
 wp_region_draw λt=>by simp only[Region.schedule,d,Bool.true_or,AAo];exact Xr b _ a _ c (wpAny_sound ops.size t _ a _ h)
def Vw (G:Gi) (n:Nat) (w0:World) (S0 U0:Nat->Prop) (Q:Exit->Sg->Prop) (e:Exit) (a:Act) (w:World):Prop:=∃σ,Rel G n w0 S0 U0 a w σ/\Q e σ
def Tied (G:Gi) (n:Nat) (w0:World) (S0 U0:Nat->Prop) (m:Nat) (a0:Act) (Q:Exit->Sg->Prop):Exit->Act->World->Prop:=Kept m a0 (Vw G n w0 S0 U0 Q)
theorem Rel.drew {n:Nat} {f:World} {d e:Nat->Prop} {a:Act} {σ:Sg} (h:Rel G n f d e a w σ):Rel G n f d e a {w with drawn:=w.drawn+1} σ:=by obtain⟨S,δ,Fr,hn,i,k,j,c,b,g⟩:=h;exact⟨S,δ,Fr,hn,i,k,j,c.world (λ_ _=>rfl) (λ_ _ _=>rfl) (λ_ h=>h) (λs x l=>(c.ok s).Ek x l),⟨b.os,b.tape,b.output,b.size,b.block,b.sub,b.sup,b.lt,b.own⟩,g⟩
theorem Rel.gz {n:Nat} {l:World} {i j:Nat->Prop} {a:Act} {σ τ:Sg} {r:Nat} {p:List Step} {v:AV} (h:Rel G n l i j a w σ) (F:Pz G r p σ=some (v,τ)):Rel G n l i j a w τ:=by
 obtain⟨S,δ,Fr,hn,q,D,rfl,f,u,o⟩:=h;obtain⟨e,y,z,v,bx,k,rows,C,B,m,_,_,_,I,g,_⟩:=f.Pz F;have c:∀x,z x->x<w.heap.size:=λx d=>by obtain⟨t,H⟩:=g x (.inr d);exact(f.ok t).lt x H
 exact⟨_,e,y,hn,q,λs=>(D s).trans (m s).symm,B,C,u.trans (Nx.I1 (λx d=>g x d) c),λb E=>E.elim (o b) (c b)⟩
theorem cz_tree {v:Value} {bx:Bool} {k:Nat} {rows:List (List DV)} {F:Nat->Prop} (h:Ok w S (.own v bx k rows) F):∃f r,f.map (·.map DV.er)=(rows.map (·.map DV.er)).map (·.map I1)/\(∀x,r x->F x)/\Ok w (λx=>S x∨(F x/\¬r x)) (.own v bx k f) r:=by
 cases h with
 |nil _ _ hF=>exact⟨[],F,rfl,λ_ h=>h,.nil k F hF⟩
 |own _ _ _ b c arr E Fs _ hb hk Dv Ku hv hr hd Bb Jf hF=>
  obtain⟨s,n,l⟩:=Kg rows (λi a (R:List DV)=>R.length=a.length/\∀(j:Nat) d,a[j]? =some d->∃D,R[j]? =some D/\(D.er=I1 d.er/\D.A0=d.A0/\Ok w (λx=>S x∨Fs i j x) D (λ_=>False))) (by intro i a hi;exact Kg a (λj d D=>D.er=I1 d.er/\D.A0=d.A0/\Ok w (λx=>S x∨Fs i j x) D (λ_=>False)) (by intro j d B;obtain⟨D,m,g,q,_⟩:=Qu (δ:=λ_=>default) (hr i j a d hi B);exact⟨D,m,g,q⟩));have e:s.map (·.map DV.er)=(rows.map (·.map DV.er)).map (·.map I1):=by refine map_mk n l _ _ (by simp) λi a R p y=> ?_;simp only[AAR,y,AAk,AAG];exact(map_mk p.1 p.2 _ _ (by simp) λj d D hd y=>by simp[y,hd.1]).symm
  refine⟨s,λx=>x=b,e,λx z=>(hF x).2 (.inl z),?_⟩;rw[← n];refine .own bx k s b c arr E (λ_ _ _=>False) _ hb ?_ (by rw[n];exact Dv) ?_ ?_ ?_ (λ_ _ _ _ _ h=>h.elim) (λ_ _ _ h=>h.elim) (λ_ _ h=>h) (λx=>by simp)
  . intro R o;obtain⟨i,hi⟩:=AAj o;obtain⟨a,m,g⟩:=mem_mk n l i R hi;rw[g.1];exact hk a (AAS m)
  . rintro(h|⟨_,h⟩)
    . exact Ku h
    . exact h rfl
  . intro i j R D o u;obtain⟨a,m,g⟩:=mem_mk n l i R o;obtain⟨d,q,t⟩:=mem_mk g.1 g.2 j D u;rw[t.2.1];exact hv i j a d m q
  . intro i j R D o u;obtain⟨a,m,g⟩:=mem_mk n l i R o;obtain⟨d,q,t⟩:=mem_mk g.1 g.2 j D u;exact t.2.2.mono (λ_ _=>rfl) (λ_ h=>h.elim) (λx z=>z.imp id λh=>⟨(hF x).2 (.inr ⟨i,j,h⟩),λe=>Jf i j (e▸h)⟩) (λ_ h=>h.elim)
theorem Rel.cz {n:Nat} {P:World} {F H:Nat->Prop} {a:Act} {σ τ:Sg} {r:Nat} {p:List Step} (h:Rel G n P F H a w σ) (j:czS G r p σ=some τ):Rel G n P F H a w τ:=by
 obtain⟨S,δ,Fr,hn,T,O,rfl,f,U,R⟩:=h;unfold czS at j;split at j
 . rename_i b k rows hs;split at j
   . rename_i t W;obtain rfl:=AAJ j;obtain⟨nD,N,i⟩:=Dj (f.ok r).KU hs;obtain⟨E,J,l,MJ⟩:=(f.ok r).replace p N;cases nD with
     |own v b2 k2 Ak=>
      simp only[EN,AV.own.injEq]at i;obtain⟨rfl,rfl,Jo⟩:=i;obtain⟨g,B,e1,K,e3⟩:=cz_tree J;obtain⟨tD,y,o,m,X,Q⟩:=MJ w (λx=>S x∨(E x/\¬B x)) (.own v b2 k2 g) B (by simp) e3 (λx c _=>K x c) (λ_ _=>rfl) (λ_ _ _=>rfl) (λ_ h=>.inl h)
       (λx c Z=>λh=>h.elim (λh=>(f.ok r).Ek x c h) λh=>Z h.1)
      have r7:tD.er=t:=(by obtain⟨t',L,h2⟩:=Gr (d:=δ r) (p:=p) (a:=t) (.own v b2 k2 g) (f.ok r).KU (by simp only[EN,e1,Jo,← VY];exact W);rw[o]at L;obtain rfl:=AAJ L;exact h2);have I:∀x,y x->Fr r x:=λx c=>((X x).1 c).elim (λh=>h.1) λh=>l x (K x h);have V:St G w (λx=>S x∨(E x/\¬B x)) (DP (EP G (p.length+1) r δ) r tD) (DP Fr r y):=
       f.setn (p.length+1) r tD y (λ_ _=>rfl) (λ_ _ _ _=>rfl) (λ_ h=>.inl h) (λs z x c h=>h.elim (λh=>(f.ok s).Ek x c h) λh=>z (f.LX s r x c (l x h.1)))
        m (λs z x c hy=>z (f.LX s r x hy (I x c))) (LO p o (f.rt r) (by simp)) (Lv p o (f.al r) (.own _ _ _ _))
        λq v' bx k' IV hq C=>Mq q p (by omega) o (λ_ v3 bx3 k3 D M=>by rw[N]at M;cases M;exact⟨_,rfl⟩) C
      refine⟨_,_,_,hn,T,λs=> ?_,?_,V,U.trans (Nx.I1 (λx c=> ?_) λx c=> ?_),?_⟩
      . rw[MH f];split
        . rename_i e;rw[e,Q];exact O r
        . exact O s
      . rw[NL f,r7]
      . rcases c with⟨s,c⟩|c
        . by_cases e:s=r
          . subst e;rw[BG]at c;exact⟨_,I x c⟩
          . rw[Ba _ _ e]at c;exact⟨s,c⟩
        . exact⟨r,l x c.1⟩
      . exact(f.ok r).lt x (l x c.1)
      . exactλx c=>c.elim (R x) λh=>(f.ok r).lt x (l x h.1)
     |lf a u=>simp only[El]at i;subst i;cases J with|lf _ _ _ h=>exact h.elim
     |agg=>simp at i
     |BT=>simp at i
   . cases j
 . cases j
theorem Rel.gzS {n:Nat} {f:World} {d e:Nat->Prop} {a:Act} {σ τ:Sg} {c:Bool} {r:Nat} {p:List Step} (h:Rel G n f d e a w σ) (b:gzS G c r p σ=some τ):Rel G n f d e a w τ:=by
 unfold Abs.gzS at b;split at b
 . exact h.cz b
 split at b
 . obtain rfl:=AAJ b;exact h
 . split at b
   . rename_i v i g;obtain rfl:=AAJ b;exact h.gz g
   . cases b
def isGz:IC->Bool
 | .gz .. =>true
 | .pg .. =>true
 |_=>false
theorem IF {n:Nat} {i:World} {f g:Nat->Prop} {m:Nat} {a0:Act} {c:Code} (h:∀ic,isGz ic=false->∀(Q:Exit->Sg->Prop) (a:Act) (w:World) (σ:Sg),Gf P G n c ic=true->Gg m c=true->Pu m a0 a->Rel G n i f g a w σ->HX P G ic Q σ->c.wp P (Tied G n i f g m a0 Q) a w):
 ∀(ic:IC) (Q:Exit->Sg->Prop) (a:Act) (w:World) (σ:Sg),Gf P G n c ic=true->Gg m c=true->Pu m a0 a->Rel G n i f g a w σ->HX P G ic Q σ->c.wp P (Tied G n i f g m a0 Q) a w:=by
 intro ic;induction ic with
 |gz _ r p x Z1=>
  intro Q a w σ o k j s b;have l:Gf P G n c x=true:=by cases c<;>simpa[Gf]using o
  simp only[HX]at b;split at b
  . rename_i τ q;exact Z1 Q a w τ l k j (s.gzS q) b
  . exact b.elim
 |pg _ r p x Z1=>
  intro Q a w σ o k j s b;have l:Gf P G n c x=true:=by cases c<;>simpa[Gf]using o
  refine wp_mono (Z1 _ a w σ l k j s b) ?_;rintro e y w' ⟨⟨τ,t,d⟩,u⟩;refine⟨?_,u⟩;cases e with
  |normal=>
   simp only[pgQ]at d;split at d
   . rename_i v q;exact⟨v,t.gzS q,d⟩
   . exact d.elim
  |_=>exact⟨τ,t,d⟩
 |_=>exact h _ rfl
theorem Yj {n:Nat} {v:World} {t u:Nat->Prop} (D:X0 v t u) (F:P.follows .mixedOrders=true) {m:Nat} {a0:Act} (c:Code):∀(ic:IC) (Q:Exit->Sg->Prop) (a:Act) (w:World) (σ:Sg),Gf P G n c ic=true->Gg m c=true->Pu m a0 a->Rel G n v t u a w σ->HX P G ic Q σ->c.wp P (Tied G n v t u m a0 Q) a w:=by
 induction c with
 |skip=>
  refine IF ?_;intro ic l Q a w σ g o p h j;cases ic with
  |skip=>exact wp_skip ⟨⟨σ,h,j⟩,.inr p⟩
  |bad=>exact j.elim
  |gz=>cases l
  |pg=>cases l
  |_=>simp[Gf]at g
 |region id ops d=>
  refine IF ?_;intro ic l Q a w σ g o p h j;cases ic with
  |OQ DZ=>
   simp only[Gf,AAH,AAp,ABT]at g;obtain⟨g,I9⟩:=g;cases d with
   |false=>
    refine PW o p ?_
    have:=iV D (P:=P) (G:=G) (ops:=ops) (K:=Q .normal) (Vw G n v t u Q) (λa w σ h r=>⟨σ,h,r⟩) DZ 0 h (by simpa using g) j;rw[List.range_eq_range'];simpa using this
   |true=>refine HT o p F ?_;replace I9:=I9.resolve_left (by simp);exact dB D (P:=P) (G:=G) (K:=Q .normal) (Vw G n v t u Q) (λa w σ h r=>⟨σ,h,r⟩) h.drew g I9 j
  |flo f aZ9 bs=>
   cases d with
   |false=>simp[Gf]at g
   |true=>simp only[Gf,AAH,AAV]at g;refine HT o p F ?_;obtain⟨q,q0,q1,q2,q3⟩:=floRun j;exact rB D (P:=P) (G:=G) (K:=Q .normal) (Vw G n v t u Q) (λa w σ h r=>⟨σ,h,r⟩) h.drew g.1 q q0 q1 q3 (λm F=>q2 m (by omega))
  |bE fs DZ=>
   cases d with
   |false=>simp[Gf]at g
   |true=>simp only[Gf]at g;refine HT o p F ?_;exact rA D (P:=P) (G:=G) (K:=Q .normal) (Vw G n v t u Q) (λa w σ h r=>⟨σ,h,r⟩) h.drew g j
  |apd f DZ=>
   cases d with
   |false=>simp[Gf]at g
   |true=>simp only[Gf]at g;refine HT o p F ?_;exact p5 D (P:=P) (G:=G) (K:=Q .normal) (Vw G n v t u Q) (λa w σ h r=>⟨σ,h,r⟩) h.drew g j
  |YS xs=>
   cases d with
   |true=>simp[Gf]at g
   |false=>
    simp only[Gf]at g;refine PW o p ?_
    have:=qL D (P:=P) (G:=G) (ops:=ops) (K:=Q .normal) (Vw G n v t u Q) (λa w σ h r=>⟨σ,h,r⟩) xs 0 h (by simpa using g) j;rw[List.range_eq_range'];simpa using this
  |bad=>exact j.elim
  |gz=>cases l
  |pg=>cases l
  |_=>simp[Gf]at g
 |seq x y Z1 ihy=>
  refine IF ?_;intro ic l Q a w σ g o p h j;cases ic with
  |seq x' y'=>
   simp only[Gf,AAH]at g;simp only[Gg,AAH]at o;refine wp_seq (wp_mono (Z1 x' _ a w σ g.1 o.1 p h j) ?_);rintro e J w' ⟨⟨σ',z,s⟩,B⟩;cases e with
   |normal=>exact ihy y' Q J w' σ' g.2 o.2 (B.resolve_left (by simp)) z s
   |_=>exact⟨⟨σ',z,s⟩,B⟩
  |bad=>exact j.elim
  |gz=>cases l
  |pg=>cases l
  |_=>simp[Gf]at g
 |cond c x y Z1 ihy=>
  refine IF ?_;intro ic l Q a w σ g o p h j;cases ic with
  |cond c' x' y'=>
   simp only[Gf,AAH]at g;obtain⟨⟨U,C⟩,V⟩:=g;simp only[Gg,AAH]at o;rw[cL]at j;split at j
   . rename_i b Z;have O:a.eval c= .bool b:=(by obtain⟨S,δ,Fr,hn,EC,X,rfl,R,_⟩:=h;obtain⟨hy,he⟩:=Ah U X;rw[he];exact(R.Ep hy Z).1);split at j
     . rename_i N;subst N;exact wp_cond_true O (Z1 x' Q a w σ C o.1 p h j)
     . rename_i M;obtain rfl:b=false:=(by simpa using M);exact wp_cond_false O (ihy y' Q a w σ V o.2 p h j)
   . exact j.elim
  |bad=>exact j.elim
  |gz=>cases l
  |pg=>cases l
  |_=>simp[Gf]at g
 |block id x Z1=>
  refine IF ?_;intro ic l Q a w σ g o p h j;cases ic with
  |block id' x'=>
   simp only[Gf,AAH,AAV]at g;obtain⟨rfl,C⟩:=g;simp only[Gg]at o;refine wp_block (wp_mono (Z1 x' _ a w σ C o p h j) ?_);rintro e J w' ⟨⟨σ',z,s⟩,B⟩;cases e with
   |exit i=>
    simp only[Exit.inBlock];rw[OX]at s;have E:=B.resolve_left (by simp);split
    . rename_i hi;rw[AAP hi]at s;exact⟨⟨σ',z,s⟩,.inr E⟩
    . rename_i hi;rw[AAO hi]at s;exact⟨⟨σ',z,s⟩,.inr E⟩
   |_=>exact⟨⟨σ',z,s⟩,B⟩
  |bad=>exact j.elim
  |gz=>cases l
  |pg=>cases l
  |_=>simp[Gf]at g
 |loop x Z1=>
  refine IF ?_;intro ic l Q a w σ g o p h j;cases ic with
  |loop x'=>
   simp only[Gf]at g;obtain⟨I,⟨n0,T⟩,lD⟩:=j;simp only[Gg]at o;refine wp_loop_ghost (λk a w=>(∃σ,Rel G n v t u a w σ/\I k σ)/\Pu m a0 a) n0 ⟨⟨σ,h,T⟩,p⟩ ?_;rintro k J w' ⟨⟨τ,z,W⟩,B⟩;refine wp_mono (Z1 x' _ J w' τ g o B z (lD k τ W)) ?_;rintro e a2 w2 ⟨⟨H,C,s⟩,E⟩;cases e with
   |normal=>obtain⟨k',r,L⟩:=s;exact⟨k',r,⟨H,C,L⟩,E.resolve_left (by simp)⟩
   |_=>exact⟨⟨H,C,s⟩,E⟩
  |bad=>exact j.elim
  |gz=>cases l
  |pg=>cases l
  |_=>simp[Gf]at g
 |exit id=>
  refine IF ?_;intro ic l Q a w σ g o p h j;cases ic with
  |exit id'=>simp only[Gf,AAV]at g;subst g;exact wp_exit ⟨⟨σ,h,j⟩,.inr p⟩
  |bad=>exact j.elim
  |gz=>cases l
  |pg=>cases l
  |_=>simp[Gf]at g
 |ret=>
  refine IF ?_;intro ic l Q a w σ g o p h j;cases ic with
  |ret=>exact wp_ret ⟨⟨σ,h,j⟩,.inr p⟩
  |bad=>exact j.elim
  |gz=>cases l
  |pg=>cases l
  |_=>simp[Gf]at g
 |rangeFunc=>refine IF ?_;intro ic l Q a w σ g o p h j;cases ic with|bad=>exact j.elim|gz=>cases l|pg=>cases l|_=>simp[Gf]at g
 |scope=>refine IF ?_;intro ic l Q a w σ g o p h j;cases ic with|bad=>exact j.elim|gz=>cases l|pg=>cases l|_=>simp[Gf]at g
 |label=>refine IF ?_;intro ic l Q a w σ g o p h j;cases ic with|skip=>exact wp_label ⟨⟨σ,h,j⟩,.inr p⟩|bad=>exact j.elim|gz=>cases l|pg=>cases l|_=>simp[Gf]at g
 |goto=>refine IF ?_;intro ic l Q a w σ g o p h j;cases ic with|bad=>exact j.elim|gz=>cases l|pg=>cases l|_=>simp[Gf]at g
 |refuse=>refine IF ?_;intro ic l Q a w σ g o p h j;cases ic with|bad=>exact j.elim|gz=>cases l|pg=>cases l|_=>simp[Gf]at g
end Go.Abs
namespace Go.Abs
variable {w w':World} {S S':Nat->Prop} {G:Gi} {δ:Nat->DV} {Fr:Nat->Nat->Prop} {P:Program}
def cU (P:Program):ResultVar->RV->Bool
 | .tmp t,.tmp t'=>t==t'
 | .cell a t,.cell a' agg n=>a==a'&&GD P t==some n&&I2 P t==some agg&&(agg||n==1)
 |_,_=>false
def OY (P:Program):List ResultVar->List RV->Bool
 |[],[]=>true
 |r::rs,v::vs=>cU P r v&&OY P rs vs
 |_,_=>false
def RJ (tmps:Array Value):ResultVar->Sem Value
 | .tmp t=>pure (tmps.getD t undef)
 | .cell a t=>do loadVar t (← asAddr (tmps.getD a undef))
theorem MT {a b:Type} (f:a->Sem b) (x:a) (l:List a) {v:b} {vs:List b} (c:(f x).run P w= .ok v w) (d:(l.mapM f).run P w= .ok vs w):((x::l).mapM f).run P w= .ok (v::vs) w:=by rw[List.mapM_cons];simp[c,d]
theorem Is {tmps:Array Value} (z:List ResultVar):∀{rs:List RV} {δ:Nat->DV} {Fr:Nat->Nat->Prop} {vs:List AV} {τ:Sg},St G w S δ Fr->(∀s,tmps.getD s undef=(δ s).A0)->OY P z rs=true->
 FU G rs (λs=>(δ s).er)=some (vs,τ)->∃(C:List DV) (FD:Nat->Prop),C.map DV.er=vs/\(z.mapM (RJ tmps)).run P w= .ok (C.map DV.A0) w/\JH w S C FD/\(∀x,FD x->BD Fr x)/\
  ∃(B:Nat->DV) (V:Nat->Nat->Prop),St G w S B V/\(λs=>(B s).er)=τ/\(∀s,(B s).A0=(δ s).A0)/\(∀s x,V s x->¬FD x)/\(∀x,BD V x->BD Fr x):=by
 induction z with
 |nil=>
  intro rs δ Fr vs τ h J O l;cases rs with
  |nil=>simp only[FU,AAG,AAU]at l;obtain⟨rfl,rfl⟩:=l;exact⟨[],λ_=>False,rfl,by simp,λ_ h=>h,λ_ h=>h.elim,δ,Fr,h,rfl,λ_=>rfl,λ_ _ _ h=>h,λ_ h=>h⟩
  |cons=>simp[OY]at O
 |cons rv z ih=>
  intro rs δ Fr vs τ h J O l;cases rs with
  |nil=>simp[OY]at O
  |cons r rs=>
   simp only[OY,AAH]at O;obtain⟨L,LC⟩:=O;cases r with
   |tmp t=>
    cases rv with
    |cell=>simp[cU]at L
    |tmp t'=>
     simp only[cU,AAV]at L;subst L;simp only[FU]at l;split at l
     . rename_i v τ1 Xv;split at l
       . rename_i vs' τ' rY;simp only[AAG,AAU]at l;obtain⟨rfl,rfl⟩:=l;obtain⟨B,V,D,Ff,u,Iu,E4,Qv⟩:=h.tk (x:=.t t') trivial Xv;subst Iu;obtain⟨C,FD,X,Z,g3,N,p,M,k1,k2,k3,T,k5⟩:=ih u.st (λs=>(J s).trans (u.A0 s).symm) LC rY;refine⟨D::C,λx=>Ff x∨FD x,by simp[E4,X],?_,⟨Ff,FD,u.ok,g3,?_,λx=>ABb⟩,?_,p,M,k1,k2,λs=>(k3 s).trans (u.A0 s),?_,λx f=>u.own x (.inl (k5 x f))⟩
         . refine MT _ _ _ ?_ Z;simp[RJ,J,Qv,C0]
         . intro x f m;obtain⟨s,g⟩:=N x m;exact u.LX s x g f
         . rintro x (f|f)
           . exact u.own x (.inr f)
           . exact u.own x (.inl (N x f))
         . rintro s x f (m|m)
           . obtain⟨s',F7⟩:=k5 x ⟨s,f⟩;exact u.LX s' x F7 m
           . exact T s x f m
       . cases l
     . cases l
   |cell a agg n=>
    cases rv with
    |tmp=>simp[cU]at L
    |cell a' t=>
     simp only[cU,AAH,AAV,AAp]at L;obtain⟨⟨⟨rfl,hn⟩,hg⟩,hg1⟩:=L;simp only[FU]at l;split at l
     . rename_i k row g;split at l
       . rename_i v o;split at l
         . rename_i vs' τ' rY;simp only[AAG,AAU]at l;obtain⟨rfl,rfl⟩:=l;obtain⟨Ak,hd,q⟩:=h.W0 g;have Co:=h.ok a';rw[hd]at Co
           match Ak,q with
           |[IL],q=>
            simp only[AAb,AAy,ABc,and_true]at q;generalize R:(δ a').A0=va at*;cases Co with
            |own _ _ _ b c arr E Fs _ hb hk Dv Ku hvv hr LZ Bb Jf hF=>
             have hkr:IL.length=k:=hk IL (by simp);simp only[AAo]at Dv;have I:JH w S IL (λx=>∃j,Fs 0 j x):=(by refine JM.2 ⟨λj=>Fs 0 j,λj d H=>hr 0 j IL d rfl H,λi i' x f m=>(LZ 0 i 0 i' x f m).2,λj x f=> ?_,λx=>ABb⟩;obtain⟨row',d,h1,h2⟩:=Bb 0 j x f;simp only[AAt,AAG]at h1;exact⟨d,h1▸h2⟩);have Q:IL.length=n:=by
              have:row.length=n:=by
               unfold IB at o;split at o
               . assumption
               . cases o
              rw[← this,← q];simp
             have CF:=h.set (w':=w) (S':=S) a' (.lf .dead (I9 true b 1 c)) (λ_=>False) (λ_ _=>rfl) (λ_ _ _ _=>rfl) (λ_ h=>h) (λs _ x f=>(h.ok s).Ek x f) (.lf _ _ _ trivial (λ_ h=>h)) (λ_ _ _ h=>h.elim) (by simp) (.lf _ _ trivial);have Iu:(λs=>(DP (Gy G a' δ) a' (.lf .dead (I9 true b 1 c)) s).er)=DP (JB G a' λs=>(δ s).er) a' .dead:=by
              funext s;simp only[DP];split
              . simp
              . exact h.dX a' s
             rw[← Iu]at rY;have DU:∀s,tmps.getD s undef=(DP (Gy G a' δ) a' (.lf .dead (I9 true b 1 c)) s).A0:=by
              intro s;simp only[DP];split
              . rename_i e;subst e;rw[J,R];simp
              . rw[J,h.Tp a' s]
             obtain⟨C,FD,X,Z,g3,N,p,M,q1,q2,q3,q4,q5⟩:=ih CF DU LC rY;have U:∀s,(p s).A0=(δ s).A0:=λs=>(by rw[q3 s,← DU s,J]);have y:∀x,BD M x->BD Fr x/\¬∃j,Fs 0 j x:=by
              intro x f;obtain⟨s,g⟩:=q5 x f;simp only[DP]at g;split at g
              . exact g.elim
              . rename_i Mj;exact⟨⟨s,g⟩,λ⟨j,H⟩=>Mj (h.LX s a' x g ((hF x).2 (.inr ⟨0,j,H⟩)))⟩
             have K:(loadVar t ⟨b,0,none⟩).run P w= .ok (if agg=true then .agg (IL.map DV.A0).toArray else(IL.map DV.A0).headD undef) w:=by
              refine KY hn hg hg1 (by simp[Q]) ?_;intro j v H;simp only[AAR]at H;cases hjd:IL[j]? with
              |none=>simp[hjd]at H
              |some d=>
               simp only[hjd,AAk,AAG]at H;subst H
               have:=hvv 0 j IL d rfl hjd;simp only[World.cell?,hb];simpa using this
             have W:(RJ tmps (.cell a' t)).run P w= .ok (if agg=true then .agg (IL.map DV.A0).toArray else(IL.map DV.A0).headD undef) w:=by simp only[RJ,J,R,I9,AAo];simpa[asAddr]using K
             have Uq:∀x,(∃j,Fs 0 j x)->BD Fr x:=λx ⟨j,f⟩=>⟨a',(hF x).2 (.inr ⟨0,j,f⟩)⟩;have C4:∀x,(∃j,Fs 0 j x)->¬FD x:=by
              intro x ⟨j,f⟩ m;obtain⟨s,g⟩:=N x m;simp only[DP]at g;split at g
              . exact g
              . rename_i Mj;exact Mj (h.LX s a' x g ((hF x).2 (.inr ⟨0,j,f⟩)))
             have F:∀x,FD x->BD Fr x:=by
              intro x f;obtain⟨s,g⟩:=N x f;simp only[DP]at g;split at g
              . exact g.elim
              . exact⟨s,g⟩
             unfold IB at o;split at o
             . cases agg with
               |true=>
                simp only[AAo,AAG]at o W;subst o;refine⟨.agg IL::C,λx=>(∃j,Fs 0 j x)∨FD x,by simp[q,X],?_,⟨_,FD,B0.2 I,g3,C4,λx=>ABb⟩,?_,p,M,q1,q2,U,?_,λx f=>(y x f).1⟩
                . have:=MT _ _ _ W Z;simpa using this
                . rintro x (f|f)
                  . exact Uq x f
                  . exact F x f
                . rintro s x f (m|m)
                  . exact(y x ⟨s,f⟩).2 m
                  . exact q4 s x f m
               |false=>
                simp only[AAQ,AAY]at o W;split at o
                . rename_i c0 hn1;simp only[AAG]at o;subst o
                  match IL,q with
                  |[D0],q=>
                   simp only[AAb,AAy,ABc,and_true]at q;obtain⟨F1,F2q,k1,k2,k3,T⟩:=I;refine⟨D0::C,λx=>F1 x∨FD x,by simp[q,X],?_,⟨_,FD,k1,g3,λx f=>C4 x ((T x).2 (.inl f)),λx=>ABb⟩,?_,p,M,q1,q2,U,?_,λx f=>(y x f).1⟩
                   . have:=MT _ _ _ W Z;simpa using this
                   . rintro x (f|f)
                     . exact Uq x ((T x).2 (.inl f))
                     . exact F x f
                   . rintro s x f (m|m)
                     . exact(y x ⟨s,f⟩).2 ((T x).2 (.inl m))
                     . exact q4 s x f m
                . cases o
             . cases o
         . cases l
       . cases l
     . cases l
def Zd:AV->Bool
 | .sc _| .sl .. | .dead| .fp _| .own .. | .kN .. =>true
 |_=>false
def Iq:AV->Bool
 | .agg cs=>cs.all Zd
 | .BT cs=>cs.all Zd
 |a=>Zd a
theorem V2 {L:List Nat} {a:AV} (h:Zd a=true):FM L a=true:=by cases a<;>simp_all [Zd,FM]
theorem Yg {L:List Nat} {a:AV} (h:Iq a=true):FM L a=true:=by
 cases a with
 |agg cs=>simp only[Iq,AAN]at h;rw[FM,Vd,AAN];exactλx b=>V2 (h x b)
 |BT cs=>simp only[Iq,AAN]at h;rw[FM,Vd,AAN];exactλx b=>V2 (h x b)
 |_=>exact V2 h
theorem Ze {d:DV} (b:Ya d) (h:Zd d.er=true):DQ δ d:=by
 cases b with
 |lf a v b=>refine .lf _ _ ?_;simp only[El]at h;cases a<;>simp_all [Zd,MF]
 |own=>exact .own _ _ _ _
 |agg=>simp[Zd]at h
 |BT=>simp[Zd]at h
theorem cG {d:DV} (b:Ya d) (h:Iq d.er=true):DQ δ d:=by
 cases b with
 |lf a v b=>exact Ze (.lf a v b) (by simp only[El]at h ⊢;cases a<;>simp_all [Iq,C3])
 |own=>exact .own _ _ _ _
 |agg cs hr=>simp only[G7,Iq,ABC,AAN,Function.comp]at h;exact .agg _ λi d hd=>Ze (hr i d hd) (h d (AAS hd))
 |BT cs hr=>simp only[I0,Iq,ABC,AAN,Function.comp]at h;exact .BT _ λi d hd=>Ze (hr i d hd) (h d (AAS hd))
structure FI where
 c:IC
 g:Gi
 r:List RV
def K9 (P:Program) (fn:Func) (I:FI):Bool:=
 (match fn.body with
 |some c=>Gf P I.g fn.ntmps c I.c
 |none=>false)&&OY P fn.results.toList I.r&&I.g.rt.all (λx=> !x.2.contains x.1)
theorem oV {G:Gi} (h:G.rt.all (λx=> !x.2.contains x.1)=true) (s:Nat):s∉G.Gc s:=by
 unfold Gi.Gc;split
 . rename_i x b;have c:=ABZ b;have a:=List.find?_some b;simp only[AAN]at h
   have:=h _ c;simp only[AAV]at a;rw[← a];simpa using this
 . simp
theorem WQ (ds:List DV) (n s:Nat):((ds.map DV.A0).toArray++Array.replicate (n-(ds.map DV.A0).toArray.size) undef).getD s undef=(ds.getD s (.lf .un undef)).A0:=by
 simp only[AAc,Array.getElem?_append,List.getD_eq_getElem?_getD];simp only[ABe,AAn];split
 . rename_i h;simp[h]
 . rename_i h;simp only[Array.getElem?_replicate];rw[ABE (by omega)];split<;>simp
def OH:List DV->DV
 |[d]=>d
 |ds=>.BT ds
theorem Sb (ds:List DV):(OH ds).er=one (ds.map DV.er):=by
 match ds with
 |[]=>simp[OH,one]
 |[d]=>simp[OH,one]
 |_::_::_=>simp[OH,one]
theorem NR {ds:List DV} {F:Nat->Prop} (h:JH w S ds F):Ok w S (OH ds) F:=by
 match ds with
 |[]=>exact BK.2 h
 |[d]=>obtain⟨c,i,e,f,j,b⟩:=h;have:F=c:=funext λx=>propext ⟨λa=>((b x).1 a).elim id λg=>absurd g (f x),λa=>(b x).2 (.inl a)⟩;exact this▸e
 |_::_::_=>exact BK.2 h
def W3:List Value->Value
 |[v]=>v
 |vs=>.tuple vs.toArray
theorem fB {a:Func} {tmps:Array Value} {vs:List Value} (h:(a.results.toList.mapM (RJ tmps)).run P w= .ok vs w):
 (results a tmps).run P w= .ok (W3 vs) w:=by
 have e:results a tmps=(do
  let vs ← a.results.mapM (RJ tmps)
  pure (if h:vs.size=1 then vs[0]else .tuple vs)):=by
  unfold results;congr 1
 rw[e,Array.mapM_eq_mapM_toList,map_eq_pure_bind,bind_assoc];have b:∀(m:Sem (List Value)) (k:List Value->Sem Value),m.run P w= .ok vs w->(m >>= k).run P w=(k vs).run P w:=by intro m k c;simp[c]
 rw[b _ _ h]
 match vs with
 |[]=>simp[W3]
 |[v]=>simp[W3]
 |_::_::_=>simp[W3]
theorem Pa {f m:Nat} {j:Func} {I:FI} {ds:List DV} {F:Nat->Prop} {Q:Exit->Sg->Prop} {R:Ending->World->Prop} (hm:P.follows .mixedOrders=true) (G:P.funcs[f]? =some j) (U:K9 P j I=true) (hn:ds.length≤j.ntmps) (M:(ds.map DV.er).all Iq=true)
 (Pd:∀c,j.body=some c->Gg m c=true) (Mi:GI w S) (K:Ok w S (.BT ds) F) (T:∀b,S b->b<w.heap.size) (h:HX P I.g I.c Q (start (ds.map DV.er)))
 (p:∀ex n S1 k q (tmps:Array Value),Q ex (λs=>(k s).er)->St I.g n S1 k q->Nx w S F n S1 (BD q)->(∀b,S1 b->b<n.heap.size)->(∀s,tmps.getD s undef=(k s).A0)->(ex= .outgrown∨∀i,i<m->tmps.getD i undef=(ds.getD i (.lf .un undef)).A0)->
  OY P j.results.toList I.r=true->(ex= .normal∨ex= .ret)/\∃v,(results j tmps).run P n= .ok v n/\R (.returned v) n):Calls P f (ds.map DV.A0).toArray w R:=by
 simp only[K9,AAH]at U;obtain⟨⟨B,LC⟩,D⟩:=U;split at B
 . rename_i c o;obtain⟨u,y,hd,z,C⟩:wS w S ds F:=(by cases K with|BT _ u _ y hd z C=>exact⟨u,y,hd,z,C⟩);have N:∀(i:Nat) d,ds[i]? =some d->Iq d.er=true:=λi d hi=>(by simp only[AAN]at M;exact M _ (ABK (AAS hi)));refine calls_of_wp G o ?_
   let δ:Nat->DV:=λs=>ds.getD s (.lf .un undef)
   have l:∀s,(∃d,ds[s]? =some d/\δ s=d)∨(ds[s]? =none/\δ s= .lf .un undef):=by
    intro s;cases a:ds[s]? with
    |some d=>exact .inl ⟨d,rfl,by simp[δ,a]⟩
    |none=>exact .inr ⟨rfl,by simp[δ,a]⟩
   have W:St I.g w S δ u:=by
    refine⟨λs=> ?_,λs t x=>hd s t x,λs=> ?_,λs=> ?_,oV D⟩
    . rcases l s with⟨d,a,e⟩|⟨a,e⟩
      . rw[e];exact y s d a
      . rw[e];exact .lf _ _ _ rfl λx H=>by obtain⟨d,hd⟩:=z s x H;rw[a]at hd;cases hd
    . rcases l s with⟨d,a,e⟩|⟨a,e⟩
      . rw[e];exact cG (y s d a).KU (N s d a)
      . rw[e];exact .lf _ _ trivial
    . rcases l s with⟨d,a,e⟩|⟨a,e⟩
      . rw[e];exact Yg (N s d a)
      . rw[e];simp
   have J:(λs=>(δ s).er)=start (ds.map DV.er):=by
    funext s;unfold start;rcases l s with⟨d,a,e⟩|⟨a,e⟩
    . simp[e,a]
    . simp[e,a]
   have HZ:Rel I.g j.ntmps w S F {tmps:=(ds.map DV.A0).toArray++Array.replicate (j.ntmps-(ds.map DV.A0).toArray.size) undef,defers:=[]} w (start (ds.map DV.er)):=(by refine⟨S,δ,u,by simp;omega,rfl,λs=>WQ ds j.ntmps s,J,W,Nx.less λx ⟨s,H⟩=>(C x).2 ⟨s,H⟩,T⟩);refine wp_mono (Yj ⟨Mi,λb o=>⟨λG=>K.Ek b G o,T b o⟩⟩ hm (m:=m) (a0:={tmps:=(ds.map DV.A0).toArray++Array.replicate (j.ntmps-(ds.map DV.A0).toArray.size) undef,defers:=[]}) c I.c _ _ w _ B (Pd c o) (Pu.refl _ _) HZ h) ?_;rintro e a' n ⟨⟨σ,⟨S1,k,q,hn1,L,QT,rfl,En,Z,X⟩,hq⟩,IU⟩;obtain⟨E,v,V,O⟩:=p e n S1 k q a'.tmps hq En Z X QT (IU.imp id λhk i hi=>(hk i hi).trans (WQ ds j.ntmps i)) LC;rcases E with rfl|rfl
   . exact⟨L,v,V,O⟩
   . exact⟨L,v,V,O⟩
 . cases B
theorem mU {rs:List RV} {a:AV} {e:Exit} {σ:Sg} (h:Ends G rs a e σ):e= .normal∨e= .ret:=by obtain⟨h,_⟩:=h;cases e<;>simp_all
theorem TG {b:Func} {tmps:Array Value} {a:List DV} (h:(b.results.toList.mapM (RJ tmps)).run P w= .ok (a.map DV.A0) w):(results b tmps).run P w= .ok (OH a).A0 w:=by
 rw[fB h]
 match a with
 |[]=>simp[OH,W3]
 |[d]=>simp[OH,W3]
 |_::_::_=>simp[OH,W3]
theorem Iw {f:Nat} {e:Func} {I:FI} {args:List AV} {b:AV} (J:P.follows .mixedOrders=true) (H:P.funcs[f]? =some e) (G:K9 P e I=true) (hn:args.length≤e.ntmps) (o:args.all Iq=true)
 (h:HX P I.g I.c (Ends I.g I.r b) (start args)):Says P f args b:=by
 intro w S ds F s p j E;subst p;refine Pa (m:=0) J H G (by simpa using hn) o (λc _=>Oa c) s j E h ?_;rintro O L S1 M N tmps i n a k t _ q;refine⟨mU i,?_⟩;obtain⟨_,vs,τ,v,u⟩:=i;obtain⟨l,FD,y,z,B,C,_⟩:=Is e.results.toList n t q v;have D:JH L S1 (ds.map λd=>DV.lf .dead d.A0) (λ_=>False):=by refine Ca λd hd=> ?_;obtain⟨x,_,rfl⟩:=ABR.1 hd;exact .lf _ _ _ trivial (λ_ h=>h)
 exact⟨_,TG z,OH l,ds.map λd=>DV.lf .dead d.A0,S1,FD,rfl,by rw[Sb,y,u],by simp,by simp,BK.2 ⟨FD,λ_=>False,NR B,D,λ_ _ h=>h,λx=>by simp⟩,⟨a.os,a.tape,a.output,a.size,a.block⟩,a.sub,a.sup,k,λx K=>a.own x (C x K)⟩
def Se (σ:Sg):Nat->List AV->Prop
 |_,[]=>True
 |i,o::os=>(match o with| .dead=>True|o=>σ i=o)/\Se σ (i+1) os
def Vp (G:Gi) (rs:List RV) (res:AV) (outs:List AV) (e:Exit) (σ:Sg):Prop:=
 (match e with| .normal=>True| .ret=>True|_=>False)/\∃vs τ,FU G rs σ=some (vs,τ)/\one vs=res/\Se τ 0 outs
def jT (fn:Func) (m:Nat):Bool:=match fn.body with
 |some c=>Gg m c
 |none=>false
theorem W4 {b:Nat->DV} {e:Nat->Nat->Prop} (g:St G w S b e) (a:List AV):∀(i:Nat),Se (λs=>(b s).er) i a->
 ∃os:List DV,os.map DV.er=a/\os.map DV.A0=(List.range' i a.length).map (λs=>(b s).A0)/\∃c,JH w S os c/\(∀x,c x->∃s,i≤s/\e s x):=by
 induction a with
 |nil=>intro i _;exact⟨[],rfl,rfl,λ_=>False,λ_ h=>h,λ_ h=>h.elim⟩
 |cons o a ih=>
  intro i h;obtain⟨p,q⟩:=h;obtain⟨os,l,m,c,n,j⟩:=ih (i+1) q;have key:∃(D:DV) (FD:Nat->Prop),D.er=o/\D.A0=(b i).A0/\Ok w S D FD/\∀x,FD x->e i x:=by
   by_cases hd:o= .dead
   . subst hd;exact⟨.lf .dead (b i).A0,λ_=>False,by simp,by simp,.lf _ _ _ trivial (λ_ h=>h),λ_ h=>h.elim⟩
   . refine⟨b i,e i,?_,rfl,g.ok i,λ_ h=>h⟩;cases o<;>first|exact p|exact absurd rfl hd
  obtain⟨D,FD,u,v,y,k⟩:=key;refine⟨D::os,by simp[u,l],by simp[v,m,List.range'_succ],λx=>FD x∨c x,⟨FD,c,y,n,?_,λx=>ABb⟩,?_⟩
  . intro x d t;obtain⟨s,r,f⟩:=j x t
    have:=g.LX i s x (k x d) f;omega
  . rintro x (d|d)
    . exact⟨i,AAr _,k x d⟩
    . obtain⟨s,r,f⟩:=j x d;exact⟨s,by omega,f⟩
theorem fH {f:Nat} {d:Func} {I:FI} {args:List AV} {k:AV} {a:List AV} (hm:P.follows .mixedOrders=true) (hf:P.funcs[f]? =some d) (hc:K9 P d I=true) (v:jT d args.length=true) (hn:args.length≤d.ntmps) (G:args.all Iq=true) (n:a.length=args.length)
 (h:HX P I.g I.c (Vp I.g I.r k a) (start args)):BM P f args k a:=by
 intro w S ds F L J z Z;subst J;refine Pa (m:=ds.length) hm hf hc (by simpa using hn) G (λc hb=>by simp only[jT,hb]at v;simpa using v) L z Z h ?_;rintro l w1 S1 δ1 F1 tmps y E b C q H K;have e:l= .normal∨l= .ret:=by obtain⟨h,_⟩:=y;cases l<;>simp_all
 refine⟨e,?_⟩;obtain⟨_,vs,τ,O,N,t⟩:=y;have M:=H.resolve_left (by rcases e with rfl|rfl<;>simp);obtain⟨D,FD,U,V,W,X,δ2,F2,k1,k2,k3,k4,k5⟩:=Is d.results.toList E q K O;rw[← k2]at t;obtain⟨os,Q,R,p,T,u⟩:=W4 k1 a 0 t;have B:os.map DV.A0=ds.map DV.A0:=by
  rw[R];have hl:a.length=ds.length:=by simpa using n
  rw[hl];apply ABU;intro i;simp only[AAR];by_cases hi:i<ds.length
  . rw[List.getElem?_range' (by simpa using hi),AAL hi];simp only[ABN,Nat.one_mul,AAk,AAG];rw[k3,← q,M i hi];simp[hi]
  . rw[ABE (by simp;omega),ABE (by omega)];rfl
 refine⟨_,TG V,OH D,os,S1,λx=>FD x∨p x,rfl,by rw[Sb,U,N],Q,B,BK.2 ⟨FD,p,NR W,T,?_,λx=>ABb⟩,⟨b.os,b.tape,b.output,b.size,b.block⟩,b.sub,b.sup,C,?_⟩
 . intro x j hy;obtain⟨s,_,o⟩:=u x hy;exact k4 s x o j
 . rintro x (j|j)
   . exact b.own x (X x j)
   . obtain⟨s,_,o⟩:=u x j;exact b.own x (k5 x ⟨s,o⟩)
end Go.Abs
namespace Go.Abs
open Go.Sort
variable {w w':World} {S S':Nat->Prop} {P:Program}
def ints (l:List Int):List (List AV):=l.map λz=>[AV.sc (.int .i64 z)]
theorem ints_get (l:List Int) (i:Nat):(ints l)[i]? =(l[i]?).map λz=>[AV.sc (.int .i64 z)]:=by simp[ints]
theorem W5 {d:DV} {F:Nat->Prop} {zs:List Int} (h:Ok w S d F) (f:d.er= .own false 1 (ints zs)):
 (d.A0= .slice none 0 0/\zs=[]/\∀x,¬F x)∨∃b c arr E,d.A0= .slice (some ⟨b,0,none⟩) zs.length c/\w.heap[b]? =some (.cells arr E (0,0))/\c=arr.size/\zs.length≤c/\¬S b/\
  (∀(i:Nat) (z:Int),zs[i]? =some z->arr[i]? =some (.int .i64 z))/\(∀x,F x↔x=b):=by
 cases h with
 |lf a v _ ha hF=>simp only[El]at f;subst f;exact ha.elim
 |agg=>simp at f
 |BT=>simp at f
 |nil k _ hF=>
  simp only[EN,AAy,AV.own.injEq,true_and]at f
  left
  refine⟨by simp,?_,hF⟩
  have:=congrArg List.length f.2;simpa[ints]using this.symm
 |own bx k rows b c arr E Fs _ hb hk Dv Ku hv hr hd Bb Jf hF=>
  simp only[EN,AV.own.injEq]at f;obtain⟨rfl,rfl,f⟩:=f
  right
  have g:rows.length=zs.length:=by have:=congrArg List.length f;simpa[ints]using this
  simp only[AAQ,AAY,Nat.mul_one]at Dv;have p:∀(i:Nat) (z:Int),zs[i]? =some z->∃d v,rows[i]? =some [d]/\d= .lf (.sc (.int .i64 z)) v/\v= .int .i64 z:=by
   intro i z n;have e:(rows.map (·.map DV.er))[i]? =some [AV.sc (.int .i64 z)]:=(by rw[f,ints_get,n];rfl);rw[AAR]at e;cases Ic:rows[i]? with
   |none=>simp[Ic]at e
   |some o=>
    simp only[Ic,AAk,AAG]at e;obtain⟨d,rfl,l⟩:=List.map_eq_singleton_iff.1 e;clear e;have e:=l;clear l;have m:=hr i 0 [d] d Ic rfl;cases m with
    |lf a v _ ha hF=>rw[El]at e;subst e;exact⟨_,v,rfl,rfl,ha.1⟩
    |nil=>simp at e
    |own=>simp at e
    |agg=>simp at e
    |BT=>simp at e
  refine⟨b,c,arr,E,by simp[I9,g],hb,Dv.1,by omega,Ku,?_,?_⟩
  . intro i z n;obtain⟨d,v,e,rfl,rfl⟩:=p i z n
    have:=hv i 0 _ _ e rfl;simpa using this
  . intro x;rw[hF x];constructor
    . rintro(h|⟨i,j,h⟩)
      . exact h
      . obtain⟨o,d,e,l⟩:=Bb i j x h;have hi:i<zs.length:=(by rw[← g];exact(AAI.1 e).1);obtain⟨s,v,q,rfl,_⟩:=p i zs[i] (AAL hi);rw[e]at q;obtain rfl:=AAJ q;have r:j=0:=(by have:=(AAI.1 l).1;simp at this;exact this);subst r;simp only[AAt,AAG]at l;subst l;have m:=hr i 0 _ _ e rfl;cases m with
        |lf _ _ _ _ WT=>exact absurd h (WT x)
    . exact .inl
theorem Z7 {b c:Nat} {arr:Array Value} {E:TypeId} {zs:List Int} (n:w.heap[b]? =some (.cells arr E (0,0))) (o:c=arr.size) (r:zs.length≤c) (m:¬S b) (q:∀(i:Nat) (z:Int),zs[i]? =some z->arr[i]? =some (.int .i64 z)):
 ∃d,d.er= .own false 1 (ints zs)/\d.A0= .slice (some ⟨b,0,none⟩) zs.length c/\Ok w S d (λx=>x=b):=by
 have g:∀(i j:Nat) a d,(zs.map λz=>[DV.lf (.sc (.int .i64 z)) (.int .i64 z)])[i]? =some a->a[j]? =some d->∃z,zs[i]? =some z/\j=0/\d= .lf (.sc (.int .i64 z)) (.int .i64 z):=by
  intro i j a d e f;rw[AAR]at e;cases hi:zs[i]? with
  |none=>simp[hi]at e
  |some z=>simp only[hi,AAk,AAG]at e;subst e;have p:j=0:=(by have:=(AAI.1 f).1;simp at this;exact this);subst p;simp only[AAt,AAG]at f;exact⟨z,rfl,rfl,f.symm⟩
 have l:=Ok.own (w:=w) (S:=S) false 1 (zs.map λz=>[DV.lf (.sc (.int .i64 z)) (.int .i64 z)]) b c arr E (λ_ _ _=>False) (λx=>x=b) n (by simp) (by simp[o];omega) m
  (by intro i j a d e f;obtain⟨z,k,rfl,rfl⟩:=g i j a d e f;simpa using q i z k)
  (by intro i j a d e f;obtain⟨z,k,rfl,rfl⟩:=g i j a d e f;exact .lf _ _ _ ⟨rfl,rfl⟩ (λ_ h=>h))
  (λ_ _ _ _ _ h=>h.elim) (λ_ _ _ h=>h.elim) (λ_ _ h=>h) (λx=>by simp)
 exact⟨_,by simp[ints],by simp[I9],l⟩
theorem Qy {b:Nat} {arr:Array Value} {E:TypeId} {zs:List Int} (c:w.heap[b]? =some (.cells arr E (0,0))) (e:∀(i:Nat) (z:Int),zs[i]? =some z->arr[i]? =some (.int .i64 z)):Holds (Value.int .i64) w b 0 zs.toArray:=by
 intro j d;have a:j<zs.length:=by simpa using d
 refine⟨?_,by simp[World.frozen?,c]⟩
 have:=e j zs[j] (AAL a);simp only[World.cell?,c,ABN];simp[this,a]
theorem WY {g n:Nat} {os:Array Obj} {a:Array Value} {e:TypeId} {b:Nat×Nat} (d:Array Int) (c:w.heap[g]? =some (.cells a e b)):
 (grow (putRow (Value.int .i64) (Sort.ahead w n) g 0 d) os).heap[g]? =some (.cells (putCells (Value.int .i64) 0 d a) e b):=by
 have f:g<w.heap.size:=(AAw.1 c).1;rw[heap_grow_old _ _ (by simpa using f)];simp[putRow,mapBlock,Sort.ahead,ABW,c,onCells]
theorem Zt {g n:Nat} {os:Array Obj} (d:Array Int) {F:Nat->Prop} (b:F g):Ext w (grow (putRow (Value.int .i64) (Sort.ahead w n) g 0 d) os) F:=by refine⟨rfl,rfl,rfl,by simp,λk c a=> ?_⟩;rw[heap_grow_old _ _ (by simpa using c)];have:g≠k:=λe=>a (e▸b);simp[putRow,mapBlock,Sort.ahead,ABW,this]
theorem lT {a:Array Value} (b:List Int) (h:b.length≤a.size):∀(i:Nat) (z:Int),b[i]? =some z->(putCells (Value.int .i64) 0 b.toArray a)[i]? =some (.int .i64 z):=by intro i z c;obtain⟨hi,rfl⟩:=AAI.1 c;simp[putCells,hi,show i<a.size by omega]
theorem mA {f:Nat}
 (a:∀(k off cap:Nat) (zs:List Int) (w:World),Holds (Value.int .i64) w k off zs.toArray->k<w.heap.size->zs.length<4611686018427387904->
  Calls P f #[.slice (some ⟨k,off,none⟩) zs.length cap] w λe w'=>e= .returned (.tuple #[])/\∃n os,w'=grow (putRow (Value.int .i64) (Sort.ahead w n) k off (zs.mergeSort λx y=>decide (x≤y)).toArray) os)
 (J:∀(p:ABh Addr) (cap:Nat) (w:World),Calls P f #[.slice p 0 cap] w λe w'=>e= .returned (.tuple #[])/\w'=w)
 (zs:List Int) (L:zs.length<4611686018427387904):BM P f [.own false 1 (ints zs)] (.BT []) [.own false 1 (ints (zs.mergeSort λx y=>decide (x≤y)))]:=by
 intro w S ds F _ j z v;obtain⟨d,rfl,G⟩:=List.map_eq_singleton_iff.1 j;replace j:=G;obtain⟨o,B,r,s,_,t⟩:=BK.1 z;have u:∀x,F x↔o x:=λx=>by rw[t x];exact⟨λh=>h.elim id λh=>absurd h (s x),.inl⟩
 rcases W5 r j with⟨l,rfl,C⟩|⟨b,c,arr,E,l,m,K,H,D,M,q⟩
 . simp only[AAb,AAy,l];refine(J none 0 w).mono ?_;rintro e w' ⟨rfl,rfl⟩;refine⟨.BT [],[d],S,F,by simp,by simp,by simpa using j,by simp[l],?_,⟨rfl,rfl,rfl,AAr _,λ_ _ _=>rfl⟩,λ_ h=>h,λ_ h=>.inl h,v,λ_ h=>.inl h⟩;exact BK.2 ⟨λ_=>False,F,BK.2 (λ_ h=>h),⟨o,B,r,s,λx i=>absurd i (C x),t⟩,λ_ h=>h.elim,λx=>by simp⟩
 . simp only[AAb,AAy,l];refine(a b 0 c zs w (Qy m M) (AAw.1 m).1 L).mono ?_;rintro e w' ⟨rfl,n,os,rfl⟩;have g:(zs.mergeSort λx y=>decide (x≤y)).length=zs.length:=(by simp);obtain⟨I,N,O,Q⟩:=Z7 (S:=S) (c:=c) (WY (n:=n) (os:=os) (zs.mergeSort λx y=>decide (x≤y)).toArray m) (by simp[putCells,K]) (by rw[g];exact H) D (lT _ (by rw[g];omega));refine⟨.BT [],[I],S,λx=>x=b,by simp,by simp,by simp[N],by simp[O],?_,Zt _ ((u b).2 ((q b).2 rfl)),λ_ h=>h,λ_ h=>.inl h,λx i=> ?_,λx i=>.inl ((u x).2 ((q x).2 i))⟩
   . exact BK.2 ⟨λ_=>False,λx=>x=b,BK.2 (λ_ h=>h),⟨_,λ_=>False,Q,λ_ h=>h,λ_ _ h=>h,λx=>by simp⟩,λ_ h=>h.elim,λx=>by simp⟩
   . have:=v x i;simp;omega
theorem X6 {f:Nat}
 (a:∀(o off cap:Nat) (zs:List Int) (w:World),Holds (Value.int .i64) w o off zs.toArray->zs.length≤9223372036854775807->zs.length≤cap->
  Calls P f #[.slice (some ⟨o,off,none⟩) zs.length cap] w λe w'=>e= .returned (.slice (some ⟨o,off,none⟩) (Lib.compact zs).length cap)/\∃q,w'=putRow (Value.int .i64) (Sort.ahead w q) o off (Lib.compact zs++List.replicate (zs.length-(Lib.compact zs).length) 0).toArray)
 (M:∀(p:ABh Addr) (cap:Nat) (w:World),Calls P f #[.slice p 0 cap] w λe w'=>e= .returned (.slice p 0 cap)/\w'=w)
 (zs:List Int) (hl:zs.length<4611686018427387904) (R:(Lib.compact zs).length≤zs.length) (l:Lib.compact ([]:List Int)=[]):BM P f [.own false 1 (ints zs)] (.own false 1 (ints (Lib.compact zs))) [.dead]:=by
 intro w S ds F _ m G y;obtain⟨d,rfl,J⟩:=List.map_eq_singleton_iff.1 m;replace m:=J;obtain⟨r,X,v,N,_,O⟩:=BK.1 G;have s:∀x,F x↔r x:=λx=>by rw[O x];exact⟨λh=>h.elim id λh=>absurd h (N x),.inl⟩
 have u:∀w',JH w' S [DV.lf .dead d.A0] (λ_=>False):=λw'=>Ca λx k=>by simp at k;subst k;exact .lf _ _ _ trivial (λ_ h=>h)
 rcases W5 v m with⟨j,rfl,Z⟩|⟨b,c,arr,E,j,B,Q,K,I,T,t⟩
 . simp only[AAb,AAy,j];refine(M none 0 w).mono ?_;rintro e w' ⟨rfl,rfl⟩;refine⟨d,[.lf .dead d.A0],S,r,by rw[j],by rw[m,l],by simp,by simp[j],?_,⟨rfl,rfl,rfl,AAr _,λ_ _ _=>rfl⟩,λ_ h=>h,λ_ h=>.inl h,y,λx h=>.inl ((s x).2 h)⟩;exact BK.2 ⟨r,λ_=>False,v,u _,λ_ _ h=>h,λx=>by simp⟩
 . simp only[AAb,AAy,j];refine(a b 0 c zs w (Qy B T) (by omega) K).mono ?_;rintro e w' ⟨rfl,n,rfl⟩;have H:(Lib.compact zs++List.replicate (zs.length-(Lib.compact zs).length) (0:Int)).length=zs.length:=(by simp;omega);have D:=WY (n:=n) (os:= #[]) (Lib.compact zs++List.replicate (zs.length-(Lib.compact zs).length) 0).toArray B;have C:=Zt (w:=w) (n:=n) (os:= #[]) (g:=b) (F:=F) (Lib.compact zs++List.replicate (zs.length-(Lib.compact zs).length) 0).toArray ((s b).2 ((t b).2 rfl));rw[grow_empty]at D C;obtain⟨L,U,V,W⟩:=Z7 (S:=S) (c:=c) (zs:=Lib.compact zs) D (by simp[putCells,Q]) (by omega) I (λi z hi=>lT (Lib.compact zs++List.replicate (zs.length-(Lib.compact zs).length) 0) (by rw[H];omega) i z (by rw[AAf (AAI.1 hi).1];exact hi));refine⟨L,[.lf .dead d.A0],S,λx=>x=b,by rw[V],U,by simp,by simp[j],?_,C,λ_ h=>h,λ_ h=>.inl h,λx k=> ?_,λx k=>.inl ((s x).2 ((t x).2 k))⟩
   . exact BK.2 ⟨_,λ_=>False,W,u _,λ_ _ h=>h,λx=>by simp⟩
   . have:=y x k;simpa using this
end Go.Abs
namespace Go.Abs
variable {P:Program} {G:Gi}
theorem Gw {d:ABh Dw} {v:AV} {K b:Sg->Prop} {τ:Sg} (h:∀σ,K σ->b σ) (a:Cw d v K τ):Cw d v b τ:=by
 unfold Cw at*;split at a
 . split at a
   . exact h _ a
   . exact a.elim
 . exact h _ a
theorem OU {o:BP} {K a:Sg->Prop} {σ:Sg} (h:∀σ,K σ->a σ) (d:KK P G o K σ):KK P G o a σ:=by obtain⟨τ,b,c⟩:=OV.1 d;exact OV.2 ⟨τ,b,h _ c⟩
theorem PZ {K a:Sg->Prop} (h:∀σ,K σ->a σ):∀{os:List BP} {σ:Sg},ND P G os K σ->ND P G os a σ
 |[],_,ht=>h _ ht
 |_::_,_,ht=>OU (λ_ b=>PZ h b) ht
theorem KL {K k:Sg->Prop} (h:∀σ,K σ->k σ):∀{c:List gC} {σ:Sg},K5 P G c K σ->K5 P G c k σ
 |[],_,a=>h _ a
 | .o _::_,_,a=>OU (λ_ i=>KL h i) a
 | .SU d neg x::c,σ,a=>by
  simp only[K5]at a ⊢;split at a
  . split at a
    . exactλb B=>Gw (λ_ i=>KL h i) (a b B)
    . exact a.elim
  . exact a.elim
 | .gld d g n::c,σ,a=>by
  simp only[K5]at a ⊢;split at a
  . exact Gw (λ_ i=>KL h i) a
  . exact a.elim
 | .bxv d n s::c,σ,a=>by
  simp only[K5]at a ⊢;split at a
  . exact⟨a.1,λD C=>Gw (λ_ i=>KL h i) (a.2 D C)⟩
  . exact a.elim
 | .lb d f x gJ y::c,σ,a=>by
  have q:∀τ,K5 P G c K τ->K5 P G c k τ:=λ_ i=>KL h i;simp only[K5,lbP]at a ⊢;split at a
  case h_2=>exact a.elim
  split at a
  case h_2=>exact a.elim
  split at a
  case h_2=>exact a.elim
  split at a
  case h_2=>exact a.elim
  unfold lbQ at a ⊢;obtain⟨r,j,out,w,l,z,m⟩:=a;refine⟨r,j,out,w,l,z,?_⟩;split at m
  case h_2=>exact m.elim
  split at m
  case h_2=>exact m.elim
  exact Gw q m
 | .clo d f x args g::c,σ,a=>by
  have q:∀τ,K5 P G c K τ->K5 P G c k τ:=λ_ i=>KL h i;have t:kB P d f x args (K5 P G c K) σ->kB P d f x args (K5 P G c k) σ:=by
   unfold kB;intro a;split at a
   . obtain⟨j,r,l⟩:=a;refine⟨j,r,?_⟩;split at l
     . exact Gw q l
     . exact l.elim
   . exact a.elim
  have u:Xi d (K5 P G c K) σ->Xi d (K5 P G c k) σ:=by cases d<;>exact q _
  show gdP g _ _ σ;have a:gdP g _ _ σ:=a;cases g with
  |none=>exact t a
  |some g=>
   obtain⟨g,p⟩:=g;simp only[gdP]at a ⊢;cases hg:σ g with
   |sc v=>
    cases v with
    |bool b=>
     rw[hg]at a;by_cases e:b=p
     . simp only[AAP e]at a ⊢;exact t a
     . simp only[AAO e]at a ⊢;exact u a
    |_=>rw[hg]at a;exact a.elim
   |un=>rw[hg]at a;exact u a
   |_=>rw[hg]at a;exact a.elim
theorem Vz {f:uU} {K a:Sg->Prop} (h:∀σ,K σ->a σ):∀{os:List BP} {m:Nat} {σ:Sg},Nl P G f m os K σ->Nl P G f m os a σ
 |[],_,_,ht=>⟨ht.1,h _ ht.2⟩
 |_::_,_,_,ht=>⟨ht.1,OU (λ_ b=>Vz h b) ht.2⟩
theorem Vy {f:uV} {K a:Sg->Prop} (h:∀σ,K σ->a σ):∀{os:List BP} {σ:Sg},QP P G f os K σ->QP P G f os a σ
 |[],_,ht=>h _ ht
 |_::_,_,ht=>⟨ht.1,OU (λ_ b=>Vy h b) ht.2⟩
theorem cM {ic:IC}:∀{Q j:Exit->Sg->Prop} {σ:Sg},(∀e σ,Q e σ->j e σ)->HX P G ic Q σ->HX P G ic j σ:=by
 induction ic with
 |skip=>exactλh d=>h _ _ d
 |bad=>exactλ_ d=>d
 |YS xs=>exactλh d=>KL (h .normal) d
 |OQ ops=>exactλh d=>PZ (h .normal) d
 |bE fs ops=>exactλh d=>PZ (h .normal) d
 |flo f a b=>exactλh d=>Vy (λ_ k=>PZ (h .normal) k) d
 |apd f ops=>intro Q j σ h d;exact Vz (λ_ k=>OU (h .normal) k) d
 |pg _ r p a SE=>
  intro Q j σ h d;refine SE (λe σ' g=> ?_) d;cases e with
  |normal=>
   simp only[pgQ]at g ⊢;split at g
   . exact h _ _ g
   . exact g.elim
  |_=>exact h _ _ g
 |gz _ r p a SE=>
  intro Q j σ h d;simp only[HX]at d ⊢;split at d
  . exact SE h d
  . exact d.elim
 |seq a b SE ihb=>
  intro Q j σ h d;refine SE (λe σ' g=> ?_) d;cases e with
  |normal=>exact ihb h g
  |_=>exact h _ _ g
 |cond c a b SE ihb=>
  intro Q j σ h d;rw[cL]at d ⊢;split at d
  . split at d
    . rename_i k;simp only[k,AAo];exact SE h d
    . rename_i k;simp only[k];exact ihb h d
  . exact d.elim
 |block id a SE=>
  intro Q j σ h d;refine SE (λe σ' g=> ?_) d;cases e with
  |exit i=>
   rw[OX]at g ⊢;split
   . rename_i hi;rw[AAP hi]at g;exact h _ _ g
   . rename_i hi;rw[AAO hi]at g;exact h _ _ g
  |_=>exact h _ _ g
 |loop a SE=>
  intro Q j σ h d;obtain⟨I,l,o⟩:=d;refine⟨I,l,λn τ m=>SE (λe σ' g=> ?_) (o n τ m)⟩;cases e with
  |normal=>exact g
  |_=>exact h _ _ g
 |exit id=>exactλh d=>h _ _ d
 |ret=>exactλh d=>h _ _ d
abbrev si (n:Int):AV:=.sc (.int .i64 n)
abbrev sb (b:Bool):AV:=.sc (.bool b)
def resIs (x:ABh (List AV×Sg)) (res:AV):Prop:=match x with
 |some (vs,_)=>one vs=res
 |none=>False
theorem lX (vs:List AV) (τ:Sg) (a:AV):resIs (some (vs,τ)) a=(one vs=a):=(rfl)
theorem wH (G:Gi) (rs:List RV) (a:AV) (σ:Sg):Ends G rs a .ret σ=resIs (FU G rs σ) a:=by
 unfold Ends resIs;cases FU G rs σ with
 |none=>simp
 |some x=>obtain⟨vs,τ⟩:=x;simp
theorem one_one (v:AV):one [v]=v:=(rfl)
theorem one_two (v u:AV) (l:List AV):one (v::u::l)= .BT (v::u::l):=(rfl)
end Go.Abs
namespace Go.Abs
variable {P:Program} {G:Gi}
theorem sI (d:Nat) (σ:Sg):JC [] d σ=σ:=(rfl)
theorem sE (G:Gi) (n d:Nat) (σ:Sg) (s:Nat):Fk G n d σ s=if s∈G.Nk d then Ex n d (σ s)else σ s:=(rfl)
theorem killS_at (G:Gi) (d:Nat) (σ:Sg) (s:Nat):JB G d σ s=if s∈G.Nk d then DT d (σ s)else σ s:=(rfl)
theorem start_at (args:List AV) (s:Nat):start args s=args.getD s .un:=(rfl)
def bK (x:ABh Sg) (K:Sg->Prop):Prop:=match x with
 |some τ=>K τ
 |none=>False
theorem bK_some (τ:Sg) (K:Sg->Prop):bK (some τ) K=K τ:=(rfl)
theorem bK_none (K:Sg->Prop):bK none K=False:=(rfl)
theorem awp_apd (f:uU) (ops:List BP) (Q:Exit->Sg->Prop) (σ:Sg):HX P G (.apd f ops) Q σ=Nl P G f 0 ops (KK P G ⟨none,.st 1 (.t f.ap) (.t f.s),none⟩ (Q .normal)) σ:=(rfl)
theorem pY (f:uU) (m:Nat) (K:Sg->Prop) (σ:Sg):Nl P G f m [] K σ=bK (if sY f m σ=true then some σ else none) K:=by by_cases h:sY f m σ=true<;>simp[Nl,bK,h]
theorem iT (f:uU) (m:Nat) (o:BP) (os:List BP) (K:Sg->Prop) (σ:Sg):Nl P G f m (o::os) K σ=bK (if sY f m σ=true then some σ else none) (KK P G o (Nl P G f (m+1) os K)):=by by_cases h:sY f m σ=true<;>simp[Nl,bK,h]
theorem x7 (d:ABh Dw) (x:Ar) (g:ABh (Nat×Bool)) (K:Sg->Prop) (σ:Sg):D8 P G ⟨d,.std x,g⟩ K σ=bK (F6 G (.std x) d σ) K:=(rfl)
theorem awp_pg (P:Program) (G:Gi) (c:Bool) (r:Nat) (p:List Step) (a:IC) (Q:Exit->Sg->Prop) (σ:Sg):HX P G (.pg c r p a) Q σ=HX P G a (pgQ G c r p Q) σ:=(rfl)
theorem lR (G:Gi) (c:Bool) (r:Nat) (p:List Step) (Q:Exit->Sg->Prop) (σ:Sg):pgQ G c r p Q .normal σ=bK (gzS G c r p σ) (Q .normal):=(rfl)
theorem awp_gz (P:Program) (G:Gi) (c:Bool) (r:Nat) (p:List Step) (a:IC) (Q:Exit->Sg->Prop) (σ:Sg):HX P G (.gz c r p a) Q σ=bK (gzS G c r p σ) (HX P G a Q):=(rfl)
def Rm (x:AV) (a b:Sg->Prop) (σ:Sg):Prop:=match x with
 | .sc (.bool x)=>if x=true then a σ else b σ
 |_=>False
theorem nJ (a b:Sg->Prop) (σ:Sg):Rm (.sc (.bool true)) a b σ=a σ:=by simp[Rm]
theorem nI (a b:Sg->Prop) (σ:Sg):Rm (.sc (.bool false)) a b σ=b σ:=by simp[Rm]
theorem qJ (P:Program) (G:Gi) (c:Ar) (a b:IC) (Q:Exit->Sg->Prop) (σ:Sg):HX P G (.cond c a b) Q σ=Rm (ar σ c) (HX P G a Q) (HX P G b Q) σ:=(rfl)
def o0 (d:ABh Dw) (K:Sg->Prop) (σ:Sg):Prop:=match d with
 |some d=>K (DP (JC d.kl d.d σ) d.d .un)
 |none=>K σ
theorem skipK_s (d:Dw) (K:Sg->Prop) (σ:Sg):o0 (some d) K σ=K (DP (JC d.kl d.d σ) d.d .un):=(rfl)
theorem skipK_n (K:Sg->Prop) (σ:Sg):o0 none K σ=K σ:=(rfl)
def gK (x:AV) (want:Bool) (a b:Sg->Prop) (σ:Sg):Prop:=match x with
 | .sc (.bool x)=>if x=want then a σ else b σ
 | .un=>b σ
 |_=>False
theorem gK_tt (a b:Sg->Prop) (σ:Sg):gK (.sc (.bool true)) true a b σ=a σ:=by simp[gK]
theorem gK_tf (a b:Sg->Prop) (σ:Sg):gK (.sc (.bool true)) false a b σ=b σ:=by simp[gK]
theorem gK_ft (a b:Sg->Prop) (σ:Sg):gK (.sc (.bool false)) true a b σ=b σ:=by simp[gK]
theorem gK_ff (a b:Sg->Prop) (σ:Sg):gK (.sc (.bool false)) false a b σ=a σ:=by simp[gK]
theorem gK_un (c:Bool) (a b:Sg->Prop) (σ:Sg):gK .un c a b σ=b σ:=(rfl)
theorem aop_n (d:ABh Dw) (op:Xu) (K:Sg->Prop) (σ:Sg):KK P G ⟨d,op,none⟩ K σ=D8 P G ⟨d,op,none⟩ K σ:=(rfl)
theorem aop_g (d:ABh Dw) (op:Xu) (g:Nat) (a:Bool) (K:Sg->Prop) (σ:Sg):KK P G ⟨d,op,some (g,a)⟩ K σ=gK (σ g) a (D8 P G ⟨d,op,some (g,a)⟩ K) (o0 d K) σ:=(rfl)
theorem awp_flc (a:List (Nat×Nat×Nat×Nat)) (ops:List BP) (Q:Exit->Sg->Prop) (σ:Sg):HX P G (.bE a ops) Q σ=ND P G ops (Q .normal) σ:=(rfl)
theorem awp_flo (f:uV) (a b:List BP) (Q:Exit->Sg->Prop) (σ:Sg):HX P G (.flo f a b) Q σ=QP P G f a (ND P G b (Q .normal)) σ:=(rfl)
theorem pX (f:uV) (K:Sg->Prop) (σ:Sg):QP P G f [] K σ=K σ:=(rfl)
theorem iR (f:uV) (o:BP) (os:List BP) (K:Sg->Prop) (σ:Sg):QP P G f (o::os) K σ=bK (if Z2 f.kb f.off (σ f.r)=true then some σ else none) (KK P G o (QP P G f os K)):=by
 show(_/\_)=_;by_cases h:Z2 f.kb f.off (σ f.r)=true
 . simp[h,bK]
 . simp[h,bK]
theorem xF (K:Sg->Prop) (σ:Sg):ND P G [] K σ=K σ:=(rfl)
theorem pZ (o:BP) (os:List BP) (K:Sg->Prop) (σ:Sg):ND P G (o::os) K σ=KK P G o (ND P G os K) σ:=(rfl)
theorem toDst_s (d:Dw) (v:AV) (K:Sg->Prop) (τ:Sg):Cw (some d) v K τ=bK (wr d v τ) K:=(rfl)
theorem toDst_n (v:AV) (K:Sg->Prop) (τ:Sg):Cw none v K τ=K τ:=(rfl)
def lY (x:ABh AV) (d:ABh Dw) (K:Sg->Prop) (τ:Sg):Prop:=match x with
 |some v=>Cw d v K τ
 |none=>False
theorem tJ (v:AV) (d:ABh Dw) (K:Sg->Prop) (τ:Sg):lY (some v) d K τ=Cw d v K τ:=(rfl)
def callK (P:Program) (x:ABh (List AV×Sg)) (f m:Nat) (d:ABh Dw) (K:Sg->Prop):Prop:=match x with
 |some (Hj,τ)=>∃res,Says P f Hj res/\lY (RK m res) d K τ
 |none=>False
theorem jI (b:List AV) (τ:Sg) (f m:Nat) (d:ABh Dw) (K:Sg->Prop):callK P (some (b,τ)) f m d K=∃a,Says P f b a/\lY (RK m a) d K τ:=(rfl)
theorem p8 (d:ABh Dw) (f:Nat) (args:List Ar) (m:Nat) (g:ABh (Nat×Bool)) (K:Sg->Prop) (σ:Sg):D8 P G ⟨d,.call f args m,g⟩ K σ=callK P (Fw G m args σ) f m d K:=(rfl)
theorem axs_nil (K:Sg->Prop) (σ:Sg):K5 P G [] K σ=K σ:=(rfl)
theorem axs_o (o:BP) (a:List gC) (K:Sg->Prop) (σ:Sg):K5 P G (.o o::a) K σ=KK P G o (K5 P G a K) σ:=(rfl)
def nilK (x:ABh (AV×ABh (Nat×List Step))) (d:Dw) (neg:Bool) (K:Sg->Prop) (σ:Sg):Prop:=match x with
 |some (a,_)=>(match rowsOf a with
  |some rows=>∀b:Bool,(b=true->rows=[])->Cw (some d) (.sc (.bool (if neg=true then !b else b))) K σ
  |none=>False)
 |none=>False
theorem nilK_sl (e:Bool) (k:Nat) (rows:List (List AV)) (c:ABh (Nat×List Step)) (d:Dw) (a:Bool) (K:Sg->Prop) (σ:Sg):nilK (some (.sl e k rows,c)) d a K σ=∀b:Bool,(b=true->rows=[])->Cw (some d) (.sc (.bool (if a=true then !b else b))) K σ:=(rfl)
theorem yE (d:Dw) (a:Bool) (x:Ar) (b:List gC) (K:Sg->Prop) (σ:Sg):K5 P G (.SU d a x::b) K σ=nilK (hd σ x) d a (K5 P G b K) σ:=(rfl)
def gldK (x:ABh (List Value)) (d:Dw) (K:Sg->Prop) (σ:Sg):Prop:=match x with
 |some cs=>Cw (some d) (.agg (cs.map .sc)) K σ
 |none=>False
theorem rM (a:List Value) (d:Dw) (K:Sg->Prop) (σ:Sg):gldK (some a) d K σ=Cw (some d) (.agg (a.map .sc)) K σ:=(rfl)
theorem axs_gld (d:Dw) (g n:Nat) (a:List gC) (K:Sg->Prop) (σ:Sg):K5 P G (.gld d g n::a) K σ=gldK (dG g n) d (K5 P G a K) σ:=(rfl)
def bxvK (x:AV) (d:Dw) (n s:Nat) (K:Sg->Prop) (σ:Sg):Prop:=match x with
 | .agg cs=>cs.length=n/\∀us:List Value,us.length=n->Cw (some d) (.vb s 0 us) K σ
 |_=>False
theorem yK (a:List AV) (d:Dw) (n s:Nat) (K:Sg->Prop) (σ:Sg):bxvK (.agg a) d n s K σ=(a.length=n/\∀b:List Value,b.length=n->Cw (some d) (.vb s 0 b) K σ):=(rfl)
theorem axs_bxv (d:Dw) (n s:Nat) (a:List gC) (K:Sg->Prop) (σ:Sg):K5 P G (.bxv d n s::a) K σ=bxvK (σ s) d n s (K5 P G a K) σ:=(rfl)
def cloK (P:Program) (x:ABh (List AV)) (f:Nat) (d:ABh Dw) (K:Sg->Prop) (σ:Sg):Prop:=match x with
 |some Hj=>∃res,Says P f Hj res/\lY (RK 0 res) d K σ
 |none=>False
theorem qV (f:Nat) (b:List AV) (d:ABh Dw) (K:Sg->Prop) (σ:Sg):cloK P (some b) f d K σ=∃a,Says P f b a/\lY (RK 0 a) d K σ:=(rfl)
theorem yD (d:ABh Dw) (f:Nat) (x:Ar) (args:List Ar) (g:Nat) (b:Bool) (a:List gC) (K:Sg->Prop) (σ:Sg):K5 P G (.clo d f x args (some (g,b))::a) K σ=gK (σ g) b (kB P d f x args (K5 P G a K)) (o0 d (K5 P G a K)) σ:=(rfl)
theorem cloP_at (d:ABh Dw) (f:Nat) (x:Ar) (args:List Ar) (K:Sg->Prop) (σ:Sg):kB P d f x args K σ=cloK P (yM σ f x args) f d K σ:=(rfl)
theorem xY (d:ABh Dw) (f:Nat) (a:List Ar) (g:ABh (Nat×Bool)) (K:Sg->Prop) (σ:Sg):D8 P G ⟨d,.mkf f a,g⟩ K σ=bK (F6 G (.mkf f a) d σ) K:=(rfl)
def lndK (P:Program) (G:Gi) (x:ABh (Nat×List Step)) (Hj bs:ABh (List AV)) (a:AV->AV) (c:ABh Nat) (f:Nat) (d:ABh Dw) (K:Sg->Prop) (σ:Sg):Prop:=match x,Hj,bs with
 |some (r,p),some Hj,some bs=>(match sub (σ r) p with
  |some (.own b k rows)=>∃res out o,BM P f (Hj++a (.own b k rows)::bs) res ((Hj.map λ_=>.dead)++out::bs.map λ_=>.dead)/\Rf c out=some o/\Hl o=true/\clean res=true/\(match put (σ r) p o with
   |some t=>Cw d res K (DP (Fk G (SM o b k p) r σ) r t)
   |none=>False)
  |_=>False)
 |_,_,_=>False
theorem xX (d:ABh Dw) (f:Nat) (b:List Ar) (x:Ar) (c:ABh Nat) (a:List Ar) (g:ABh (Nat×Bool)) (K:Sg->Prop) (σ:Sg):D8 P G ⟨d,.Ww f b x c a,g⟩ K σ=lndK P G (O5 σ x c) (OI σ b) (OI σ a) (SL σ x c) c f d K σ:=(rfl)
theorem arun_cp (d:ABh Dw) (x:Ar) (g:ABh (Nat×Bool)) (K:Sg->Prop) (σ:Sg):D8 P G ⟨d,.cp x,g⟩ K σ=bK (F6 G (.cp x) d σ) K:=(rfl)
theorem arun_mv (d:ABh Dw) (x:Ar) (g:ABh (Nat×Bool)) (K:Sg->Prop) (σ:Sg):D8 P G ⟨d,.mv x,g⟩ K σ=bK (F6 G (.mv x) d σ) K:=(rfl)
theorem qB (d:ABh Dw) (c:Ar) (a:Ar) (b:Ar) (g:ABh (Nat×Bool)) (K:Sg->Prop) (σ:Sg):D8 P G ⟨d,.pick c a b,g⟩ K σ=bK (F6 G (.pick c a b) d σ) K:=(rfl)
theorem arun_bx (d:ABh Dw) (n:Nat) (x:Ar) (g:ABh (Nat×Bool)) (K:Sg->Prop) (σ:Sg):D8 P G ⟨d,.bx n x,g⟩ K σ=bK (F6 G (.bx n x) d σ) K:=(rfl)
theorem xN (d:ABh Dw) (z:List AV) (a:List (Nat×Nat×Ar)) (g:ABh (Nat×Bool)) (K:Sg->Prop) (σ:Sg):D8 P G ⟨d,.TY z a,g⟩ K σ=bK (F6 G (.TY z a) d σ) K:=(rfl)
theorem xO (d:ABh Dw) (n:Nat) (z:List (List AV)) (a:List (Nat×Ar)) (g:ABh (Nat×Bool)) (K:Sg->Prop) (σ:Sg):D8 P G ⟨d,.NH n z a,g⟩ K σ=bK (F6 G (.NH n z a) d σ) K:=(rfl)
theorem arun_ld (d:ABh Dw) (ag:Bool) (n:Nat) (x:Ar) (g:ABh (Nat×Bool)) (K:Sg->Prop) (σ:Sg):D8 P G ⟨d,.ld ag n x,g⟩ K σ=bK (F6 G (.ld ag n x) d σ) K:=(rfl)
theorem arun_st (d:ABh Dw) (n:Nat) (x:Ar) (y:Ar) (g:ABh (Nat×Bool)) (K:Sg->Prop) (σ:Sg):D8 P G ⟨d,.st n x y,g⟩ K σ=bK (F6 G (.st n x y) d σ) K:=(rfl)
theorem xR (d:ABh Dw) (n:Nat) (x:Ar) (g:ABh (Nat×Bool)) (K:Sg->Prop) (σ:Sg):D8 P G ⟨d,.UG n x,g⟩ K σ=bK (F6 G (.UG n x) d σ) K:=(rfl)
theorem xT (d:ABh Dw) (n:Nat) (x:Ar) (y:Ar) (g:ABh (Nat×Bool)) (K:Sg->Prop) (σ:Sg):D8 P G ⟨d,.Va n x y,g⟩ K σ=bK (F6 G (.Va n x y) d σ) K:=(rfl)
theorem xJ (d:ABh Dw) (n:Nat) (m:Nat) (x:Ar) (y:Ar) (g:ABh (Nat×Bool)) (K:Sg->Prop) (σ:Sg):D8 P G ⟨d,.aad n m x y,g⟩ K σ=bK (F6 G (.aad n m x y) d σ) K:=(rfl)
theorem xU (d:ABh Dw) (ag:Bool) (n:Nat) (m:Nat) (x:Ar) (y:Ar) (g:ABh (Nat×Bool)) (K:Sg->Prop) (σ:Sg):D8 P G ⟨d,.idx ag n m x y,g⟩ K σ=bK (F6 G (.idx ag n m x y) d σ) K:=(rfl)
theorem xM (d:ABh Dw) (a:BinOp) (x:Ar) (y:Ar) (g:ABh (Nat×Bool)) (K:Sg->Prop) (σ:Sg):D8 P G ⟨d,.bin a x y,g⟩ K σ=bK (F6 G (.bin a x y) d σ) K:=(rfl)
theorem xL (d:ABh Dw) (ag:Bool) (x:Ar) (y:Ar) (g:ABh (Nat×Bool)) (K:Sg->Prop) (σ:Sg):D8 P G ⟨d,.beq ag x y,g⟩ K σ=bK (F6 G (.beq ag x y) d σ) K:=(rfl)
theorem arun_un (d:ABh Dw) (a:UnOp) (x:Ar) (g:ABh (Nat×Bool)) (K:Sg->Prop) (σ:Sg):D8 P G ⟨d,.un a x,g⟩ K σ=bK (F6 G (.un a x) d σ) K:=(rfl)
theorem xP (d:ABh Dw) (a:IntKind) (x:Ar) (g:ABh (Nat×Bool)) (K:Sg->Prop) (σ:Sg):D8 P G ⟨d,.cvt a x,g⟩ K σ=bK (F6 G (.cvt a x) d σ) K:=(rfl)
theorem xW (d:ABh Dw) (x:Ar) (g:ABh (Nat×Bool)) (K:Sg->Prop) (σ:Sg):D8 P G ⟨d,.len x,g⟩ K σ=bK (F6 G (.len x) d σ) K:=(rfl)
theorem qD (d:ABh Dw) (x y:Ar) (g:ABh (Nat×Bool)) (K:Sg->Prop) (σ:Sg):D8 P G ⟨d,.fL x y,g⟩ K σ=bK (F6 G (.fL x y) d σ) K:=(rfl)
theorem arun_mm (d:ABh Dw) (mx:Bool) (x y:Ar) (g:ABh (Nat×Bool)) (K:Sg->Prop) (σ:Sg):D8 P G ⟨d,.mm mx x y,g⟩ K σ=bK (F6 G (.mm mx x y) d σ) K:=(rfl)
theorem qC (d:ABh Dw) (a:Bool) (b:List Nat) (x y:Ar) (g:ABh (Nat×Bool)) (K:Sg->Prop) (σ:Sg):D8 P G ⟨d,.fK a b x y,g⟩ K σ=bK (F6 G (.fK a b x y) d σ) K:=(rfl)
theorem qE (d:ABh Dw) (x:Ar) (g:ABh (Nat×Bool)) (K:Sg->Prop) (σ:Sg):D8 P G ⟨d,.YU x,g⟩ K σ=bK (F6 G (.YU x) d σ) K:=(rfl)
theorem xK (d:ABh Dw) (n:Nat) (m:Nat) (x:Ar) (y:Ar) (g:ABh (Nat×Bool)) (K:Sg->Prop) (σ:Sg):D8 P G ⟨d,.app n m x y,g⟩ K σ=bK (F6 G (.app n m x y) d σ) K:=(rfl)
theorem xZ (d:ABh Dw) (n:Nat) (ag:Bool) (x:Ar) (lo:ABh Ar) (hi:ABh Ar) (mx:ABh Ar) (g:ABh (Nat×Bool)) (K:Sg->Prop) (σ:Sg):D8 P G ⟨d,.vV n ag x lo hi mx,g⟩ K σ=bK (F6 G (.vV n ag x lo hi mx) d σ) K:=(rfl)
theorem xQ (d:ABh Dw) (x:Ar) (n:Nat) (g:ABh (Nat×Bool)) (K:Sg->Prop) (σ:Sg):D8 P G ⟨d,.ext x n,g⟩ K σ=bK (F6 G (.ext x n) d σ) K:=(rfl)
theorem arun_mk (d:ABh Dw) (n:Nat) (m:Nat) (z:List AV) (l:Ar) (c:Ar) (g:ABh (Nat×Bool)) (K:Sg->Prop) (σ:Sg):D8 P G ⟨d,.mk n m z l c,g⟩ K σ=bK (F6 G (.mk n m z l c) d σ) K:=(rfl)
theorem arun_fl (d:ABh Dw) (g:ABh (Nat×Bool)) (K:Sg->Prop) (σ:Sg):D8 P G ⟨d,.fl,g⟩ K σ=bK (F6 G .fl d σ) K:=(rfl)
theorem xS (d:ABh Dw) (x:Ar) (k:Nat) (g:ABh (Nat×Bool)) (K:Sg->Prop) (σ:Sg):D8 P G ⟨d,.flk x k,g⟩ K σ=bK (F6 G (.flk x k) d σ) K:=(rfl)
theorem p9 (d:ABh Dw) (r off kb k:Nat) (i:Ar) (g:ABh (Nat×Bool)) (K:Sg->Prop) (σ:Sg):D8 P G ⟨d,.dT r off kb k i,g⟩ K σ=bK (F6 G (.dT r off kb k i) d σ) K:=(rfl)
theorem xV (d:ABh Dw) (x:Ar) (g:ABh (Nat×Bool)) (K:Sg->Prop) (σ:Sg):D8 P G ⟨d,.Wv x,g⟩ K σ=bK (F6 G (.Wv x) d σ) K:=(rfl)
theorem x8 (d:ABh Dw) (x y:Ar) (g:ABh (Nat×Bool)) (K:Sg->Prop) (σ:Sg):D8 P G ⟨d,.Vg x y,g⟩ K σ=bK (F6 G (.Vg x y) d σ) K:=(rfl)
theorem qA (d:ABh Dw) (x:Ar) (g:ABh (Nat×Bool)) (K:Sg->Prop) (σ:Sg):D8 P G ⟨d,.JW x,g⟩ K σ=bK (F6 G (.JW x) d σ) K:=(rfl)
end Go.Abs
namespace Go.Abs
variable {w w':World} {S S':Nat->Prop} {G:Gi} {δ:Nat->DV} {Fr:Nat->Nat->Prop} {P:Program}
def mS (G:Gi) (rs:List RV) (res:AV) (e:Exit) (σ:Sg):Prop:=
 (match e with| .normal=>True| .ret=>True|_=>False)/\∃vs τ,FU G rs σ=some (vs,τ)/\one (vs.map vI)=res
def lV (x:ABh (List AV×Sg)) (res:AV):Prop:=match x with
 |some (vs,_)=>one (vs.map vI)=res
 |none=>False
theorem eV (vs:List AV) (τ:Sg) (a:AV):lV (some (vs,τ)) a=(one (vs.map vI)=a):=(rfl)
theorem pG (G:Gi) (rs:List RV) (a:AV) (σ:Sg):mS G rs a .ret σ=lV (FU G rs σ) a:=by
 unfold mS lV;cases FU G rs σ with
 |none=>simp
 |some x=>obtain⟨vs,τ⟩:=x;simp
theorem Yt (ds:List DV):∀{F:Nat->Prop},JH w S ds F->∃a:List DV,a.map DV.er=(ds.map DV.er).map vI/\a.map DV.A0=ds.map DV.A0/\JH w (λx=>S x∨F x) a (λ_=>False):=by
 induction ds with
 |nil=>intro F h;exact⟨[],rfl,rfl,λ_ h=>h⟩
 |cons d ds ih=>
  rintro F ⟨n,o,l,m,p,e⟩;obtain⟨D,i,j,k⟩:=dF l;obtain⟨a,d1,f,g⟩:=ih m;refine⟨D::a,by simp[i,d1],by simp[j,f],⟨λ_=>False,λ_=>False,?_,?_,λ_ h=>h.elim,λx=>by simp⟩⟩
  . exact k.mono (λ_ _=>rfl) (λ_ h=>h.elim) (λb c=>c.imp id λh=>(e b).2 (.inl h)) (λ_ h=>h.elim)
  . exact g.mono (λ_ _=>rfl) (λ_ h=>h.elim) (λb c=>c.imp id λh=>(e b).2 (.inr h)) (λ_ h=>h.elim)
theorem Sa (ds:List DV):(OH ds).A0=W3 (ds.map DV.A0):=by
 match ds with
 |[]=>simp[OH,W3]
 |[d]=>simp[OH,W3]
 |_::_::_=>simp[OH,W3]
theorem fF {f:Nat} {j:Func} {I:FI} {args:List AV} {i:AV} (M:P.follows .mixedOrders=true) (L:P.funcs[f]? =some j) (K:K9 P j I=true) (hn:args.length≤j.ntmps) (t:args.all Iq=true)
 (h:HX P I.g I.c (mS I.g I.r i) (start args)):Says P f args i:=by
 intro w S ds F y u p J;subst u;refine Pa (m:=0) M L K (by simpa using hn) t (λc _=>Oa c) y p J h ?_;rintro k T S1 U W tmps o s e q z _ v;have l:k= .normal∨k= .ret:=by obtain⟨h,_⟩:=o;cases k<;>simp_all
 refine⟨l,?_⟩;obtain⟨_,vs,τ,C,B⟩:=o;obtain⟨V,FD,D,E,n,G,_⟩:=Is j.results.toList s z v C;obtain⟨Ds',O,Q,R⟩:=Yt _ n;have H:JH T (λx=>S1 x∨FD x) (ds.map λd=>DV.lf .dead d.A0) (λ_=>False):=by refine Ca λd hd=> ?_;obtain⟨x,_,rfl⟩:=ABR.1 hd;exact .lf _ _ _ trivial (λ_ h=>h)
 refine⟨_,TG E,OH Ds',ds.map λd=>DV.lf .dead d.A0,λx=>S1 x∨FD x,λ_=>False,by rw[Sa,Sa,Q],by rw[Sb,O,D,B],by simp,by simp,BK.2 ⟨λ_=>False,λ_=>False,NR R,H,λ_ h=>h.elim,λx=>by simp⟩,⟨e.os,e.tape,e.output,e.size,e.block⟩,λb a=>.inl (e.sub b a),?_,?_,λx N=>N.elim⟩
 . rintro b (a|a)
   . exact e.sup b a
   . exact .inr (e.own b (G b a))
 . rintro b (a|a)
   . exact q b a
   . exact(NR n).lt b a
def XY (x:ABh (List AV×Sg)) (res:AV) (outs:List AV):Prop:=match x with
 |some (vs,τ)=>one vs=res/\Se τ 0 outs
 |none=>False
theorem eW (vs:List AV) (τ:Sg) (b:AV) (a:List AV):XY (some (vs,τ)) b a=(one vs=b/\Se τ 0 a):=(rfl)
theorem pH (G:Gi) (rs:List RV) (b:AV) (a:List AV) (σ:Sg):Vp G rs b a .ret σ=XY (FU G rs σ) b a:=by
 unfold Vp XY;cases FU G rs σ with
 |none=>simp
 |some x=>obtain⟨vs,τ⟩:=x;simp only[AAG,AAU,true_and,eq_iff_iff];exact⟨λ⟨_,_,⟨c,d⟩,h⟩=>by subst c;subst d;exact h,λh=>⟨_,_,⟨rfl,rfl⟩,h⟩⟩
theorem ZT (G:Gi) (rs:List RV) (b:AV) (a:List AV) (σ:Sg):Vp G rs b a .normal σ=XY (FU G rs σ) b a:=by
 unfold Vp XY;cases FU G rs σ with
 |none=>simp
 |some x=>obtain⟨vs,τ⟩:=x;simp only[AAG,AAU,true_and,eq_iff_iff];exact⟨λ⟨_,_,⟨c,d⟩,h⟩=>by subst c;subst d;exact h,λh=>⟨_,_,⟨rfl,rfl⟩,h⟩⟩
end Go.Abs
namespace Go.Abs
attribute [go_sem] nA awp_reg awp_rex qI yC yA awp_ret awp_gz awp_pg awp_apd pY iT x7 sY Om Qz lR gzS czS qJ nJ nI xF pZ aop_n aop_g gK_tt gK_tf gK_ft gK_ff
attribute [go_sem] gK_un skipK_s skipK_n bK_some bK_none toDst_s toDst_n tJ jI p8 axs_nil axs_o nilK_sl yE arun_cp arun_mv
attribute [go_sem] qB arun_bx xN xO arun_ld arun_st xR xT xJ xU xM xL arun_un xP xW qE xK xZ
attribute [go_sem] arun_mm qC q9 Pc qD axs_gld rM Qi xQ arun_mk awp_flc awp_flo pX iR Z2 arun_fl xS p9 xV x8 qA F6 tk aT wr valOf binF binI unF view PR PQ ME vC vF IB I3
attribute [go_sem] G9 FB cellsOf C3 ar hd iY D9 sI SJ killS_at sE Ex Tm DT Oq DP FM PK Ul Um aN stC
attribute [go_sem] sub put Pz I1 Rn Mp vT Uj V0 Fw JX eN Sj vU MZ gN vI fzl RK Ys
attribute [go_sem] fresh Ob Qs plc rowsOf Hl fI tV seqA_ret X3 OX jG Gi.Nk start_at if_true ite_true ite_false if_false Option.map_some
attribute [go_sem] Bool.false_eq_true List.getD_cons_zero List.getD_cons_succ true_and and_true and_self false_and and_false Int.natCast_nonneg Int.toNat_natCast List.take_succ_cons List.take_zero List.drop_zero List.drop_succ_cons List.map_cons List.map_nil List.length_cons List.length_nil Nat.zero_add decide_eq_true_eq
attribute [go_sem] List.getElem?_cons_zero List.getElem?_cons_succ List.all_cons List.all_nil Bool.and_true Bool.true_and Nat.le_refl List.nil_append List.append_nil beq_self_eq_true bne_self_eq_false beq_iff_eq bne_iff_ne ne_eq not_true_eq_false not_false_eq_true wH pG
attribute [go_sem] eV FU lX one_one one_two AV.sc.injEq Value.bool.injEq Value.int.injEq AV.BT.injEq AV.agg.injEq List.cons.injEq AV.own.injEq AV.sl.injEq Option.some.injEq Prod.mk.injEq exists_and_left exists_eq_left exists_eq_left' exists_eq
attribute [go_sem] List.contains_nil List.filter_nil List.flatMap_nil List.not_mem_nil List.filter_cons Bool.not_true Bool.not_false Int.toNat_zero Nat.lt_irrefl Nat.sub_zero List.isEmpty_nil List.contains_cons Bool.or_false Bool.false_or Bool.or_true Bool.true_or List.mem_cons or_false false_or
attribute [go_sem] or_true true_or or_self Nat.lt_add_one Nat.zero_lt_one List.set_cons_zero List.set_cons_succ X8 Mg List.cons_append List.drop_nil List.take_nil Bool.not_eq_true Bool.and_false Bool.false_and Bool.and_self List.any_cons List.any_nil decide_true decide_false
attribute [go_sem] eq_self VM V7 axs_bxv yK yD cloP_at qV yM qP Rg xY xX Q8 rdF OI O5 SL Rf clean Jq pH ZT eW Se
theorem zH (a:List (List AV)) (i:Nat) (x:List AV):Mg (a.set i x)=(Mg a).set i (X8 x):=by simp[VY,VX,List.map_set]
attribute [go_sem] zH List.isEmpty_cons
end Go.Abs
namespace Go.Abs
variable {w w':World} {S S':Nat->Prop} {G:Gi} {δ:Nat->DV} {Fr:Nat->Nat->Prop} {P:Program}
inductive MO where
 |mp (es:List (ABi×Value))
 |it (s:ABi) (pos:Nat)
def MO.is:MO->Obj->Prop
 | .mp es,o=>∃arr c,o= .map arr c/\arr.toList.map (λe=>(e.key,e.val))=es.map λx=>(Value.string x.1,x.2)
 | .it s p,o=>o= .stringIter s p
abbrev Mu:=Nat->ABh MO
def JI (G:Gi) (n:Nat) (w0:World) (S0 U0:Nat->Prop) (a:Act) (w:World) (σ:Sg) (μ:Mu):Prop:=
 ∃(w1:World) (S1 U1:Nat->Prop),Nx w0 S0 U0 w1 S1 U1/\X0 w1 S1 U1/\
  (∀b o,μ b=some o->b<w1.heap.size/\¬S1 b/\¬U1 b/\w0.heap.size≤b/\∃ob,w1.heap[b]? =some ob/\o.is ob)/\Rel G n w1 S1 U1 a w σ
variable {n:Nat} {w0:World} {S0 U0:Nat->Prop} {a:Act} {σ:Sg} {μ:Mu}
theorem JI.start (b:X0 w0 S0 U0) (h:Rel G n w0 S0 U0 a w σ):JI G n w0 S0 U0 a w σ (λ_=>none):=
 ⟨w0,S0,U0,Nx.refl _ _ _,b,λ_ _ h=>by(cases h),h⟩
theorem JI.toRel (h:JI G n w0 S0 U0 a w σ μ):Rel G n w0 S0 U0 a w σ:=by obtain⟨m,S1,U1,j,l,k,S,δ,F,b,c,d,e,f,g,i⟩:=h;exact⟨S,δ,F,b,c,d,e,f,j.trans g,i⟩
theorem JI.obj (h:JI G n w0 S0 U0 a w σ μ) {b:Nat} {o:MO} (j:μ b=some o):∃ob,w.heap[b]? =some ob/\o.is ob:=by obtain⟨x,S1,U1,v,u,c,S,δ,F,m,p,q,r,s,i,t⟩:=h;obtain⟨d,k,e,l,ob,f,g⟩:=c b o j;exact⟨ob,by rw[i.block b d e];exact f,g⟩
theorem JI.fresh (h:JI G n w0 S0 U0 a w σ μ):μ w.heap.size=none:=by
 cases hb:μ w.heap.size with
 |none=>rfl
 |some o=>
  obtain⟨ob,b,_⟩:=h.obj hb
  have:=(AAw.1 b).1;omega
theorem JI.turn (h:JI G n w0 S0 U0 a w σ μ) {b:Nat} {o':MO} {ob':Obj} (L:(∃o,μ b=some o)∨b=w.heap.size) (N:w'.os=w.os) (P:w'.tape=w.tape) (O:w'.output=w.output) (u:w.heap.size≤w'.heap.size)
 (g:∀c,c<w.heap.size->c≠b->w'.heap[c]? =w.heap[c]?) (W:w'.heap[b]? =some ob') (M:o'.is ob'):JI G n w0 S0 U0 a w' σ (DP μ b (some o')):=by
 obtain⟨w1,S1,U1,Q,hG,T,S,δ,F,Z,h2,h3,rfl,y,m,z⟩:=h;have v:∀c o,μ c=some o->c<w.heap.size/\¬S c/\¬BD F c/\w0.heap.size≤c/\∃ob,w.heap[c]? =some ob/\o.is ob:=by
  intro c o d;obtain⟨C,D,p,H,ob,I,J⟩:=T c o d;have B:=m.size;refine⟨by omega,?_,?_,H,ob,by rw[m.block c C p];exact I,J⟩
  . intro hS;rcases m.sup c hS with k|k|k
    . exact D k
    . exact p k
    . omega
  . intro K;rcases m.own c K with k|k
    . exact p k
    . omega
 have i:∀x,BD F x->x<w.heap.size:=λx ⟨s,B⟩=>(y.ok s).lt x B;have q:¬S b:=by
  rcases L with⟨o,t⟩|rfl
  . exact(v b o t).2.1
  . intro k;have:=z _ k;omega
 have U:¬BD F b:=by
  rcases L with⟨o,t⟩|rfl
  . exact(v b o t).2.2.1
  . intro k;have:=i _ k;omega
 have e:=Q.trans m;have rQ:w0.heap.size≤b:=by
  rcases L with⟨o,t⟩|rfl
  . exact(v b o t).2.2.2.1
  . exact e.size
 have r:b<w'.heap.size:=(AAw.1 W).1;have f:∀c,S c->w'.heap[c]? =w.heap[c]? :=λc d=>g c (z c d) (by rintro rfl;exact q d);have j:∀s x,F s x->w'.heap[x]? =w.heap[x]? :=λs x d=>g x (i x ⟨s,d⟩) (by rintro rfl;exact U ⟨s,d⟩);have X:St G w' S δ F:=y.world f j (λ_ h=>h) (λs x Q=>(y.ok s).Ek x Q);refine⟨w',S,BD F,?_,?_,?_,S,δ,F,Z,h2,h3,rfl,X,Nx.refl _ _ _,λc d=>ABI (z c d) u⟩
 . refine⟨N.trans e.os,P.trans e.tape,O.trans e.output,ABF e.size u,?_,e.sub,e.sup,λhl c d=>ABI (e.lt hl c d) u,e.own⟩;intro c d K;rw[g c (ABI d e.size) (by omega),e.block c d K]
 . refine⟨?_,λc d=>⟨λ⟨s,B⟩=>(y.ok s).Ek c B d,ABI (z c d) u⟩⟩;intro x R;obtain⟨V,arr,E,fz,k2,k3⟩:=(hG.now m) x R;exact⟨V,arr,E,fz,by rw[f _ V];exact k2,k3⟩
 . intro c o d;by_cases l:c=b
   . subst l;rw[BG]at d;obtain rfl:=AAJ d;exact⟨r,q,U,rQ,ob',W,M⟩
   . rw[Ba _ _ l]at d;obtain⟨C,D,p,H,ob,I,J⟩:=v c o d;exact⟨by omega,D,p,H,ob,by rw[g c C l];exact I,J⟩
theorem Rel.DW (h:Rel G n w0 S0 U0 a w σ) {o:Oper} {dst:ABh Dw} (g:Dt G n o.dst dst=true) {D:DV} {K:Sg->Prop} (i:∀w S,Ok w S D (λ_=>False)) (f:∀δ,DQ δ D) (j:Cw dst D.er K σ):
 ∃σ',Rel G n w0 S0 U0 (a.put o.dst D.A0) w σ'/\K σ':=by
 obtain⟨S,δ,Fr,hn,d,k,rfl,c,e,b⟩:=h;have hd:=ES g hn;exact K6 (S2:=S) (D:=D) (FD:=λ_=>False) (v:=D.er) (K:=K) c hn d k hd rfl (λ_ _=>rfl) b (λ_ h=>h) (λ_ h=>.inl h) b (i w S) (λ_ h=>h.elim) (f δ) e rfl rfl rfl (AAr _) j
theorem JI.DW (h:JI G n w0 S0 U0 a w σ μ) {o:Oper} {dst:ABh Dw} (d:Dt G n o.dst dst=true) {D:DV} {K:Sg->Prop} (g:∀w S,Ok w S D (λ_=>False)) (c:∀δ,DQ δ D) (j:Cw dst D.er K σ):
 ∃σ',JI G n w0 S0 U0 (a.put o.dst D.A0) w σ' μ/\K σ':=by
 obtain⟨m,S1,U1,l,i,b,k⟩:=h;obtain⟨σ',e,f⟩:=k.DW d g c j;exact⟨σ',⟨m,S1,U1,l,i,b,e⟩,f⟩
theorem JI.Ep (h:JI G n w0 S0 U0 a w σ μ) {x:Operand} {y:Ar} (d:CH x y=true) {v:Value} (f:ar σ y= .sc v):a.eval x=v/\Fl v=true:=by obtain⟨S,δ,Fr,hn,j,c,rfl,b,k,i⟩:=h.toRel;obtain⟨g,e⟩:=Ah d c;rw[e];exact b.Ep g f
def Lq (es:List (ABi×Value)) (s:ABi) (z:Value):Value:=match es.find? (λx=>x.1==s)with
 |some x=>x.2
 |none=>z
def iM (es:List (ABi×Value)) (s:ABi) (v:Value):List (ABi×Value):=es++[(s,v)]
inductive iD where
 |x (o:gC)
 |mkm (d:Dw)
 |lkp (g:ABh (Nat×Bool)) (d:Dw) (m k:Ar)
 |mup (m k v:Ar)
 |rng (d:Dw) (x:Ar)
 |nxt (d:Dw) (x:Ar)
def gM (g:ABh (Nat×Bool)) (d:Dw) (A:Sg->Prop) (K:Sg->Prop) (σ:Sg):Prop:=match g with
 |none=>A σ
 |some (s,want)=>gK (σ s) want A (λσ=>K (DP (JC d.kl d.d σ) d.d .un)) σ
theorem gM_gd {g:ABh (Nat×Bool)} {d:Dw} {A K:Sg->Prop} {σ:Sg} (h:gM g d A K σ):gdP g A (Xi (some d) K) σ:=by cases g<;>exact h
def lkpK (m k:AV) (μ:Mu) (d:Dw) (K:Sg->Prop) (σ:Sg):Prop:=match m,k with
 | .sc (.map (some b)),.sc (.string s)=>match μ b with
  |some (.mp es)=>Fl (Lq es s (.bool false))=true/\Cw (some d) (.sc (Lq es s (.bool false))) K σ
  |_=>False
 |_,_=>False
def mupK (m k v:AV) (μ:Mu) (K:Mu->Prop):Prop:=match m,k,v with
 | .sc (.map (some b)),.sc (.string s),.sc u=>match μ b with
  |some (.mp es)=>es.all (λx=> !(x.1==s))=true/\K (DP μ b (some (.mp (iM es s u))))
  |_=>False
 |_,_,_=>False
def rngK (x:AV) (d:Dw) (K:Sg->Mu->Prop) (σ:Sg) (μ:Mu):Prop:=match x with
 | .sc (.string s)=>∀b,μ b=none->Cw (some d) (.sc (.pointer (some ⟨b,0,none⟩))) (λσ'=>K σ' (DP μ b (some (.it s 0)))) σ
 |_=>False
def nxtK (x:AV) (d:Dw) (K:Sg->Mu->Prop) (σ:Sg) (μ:Mu):Prop:=match x with
 | .sc (.pointer (some ⟨b,0,none⟩))=>match μ b with
  |some (.it s pos)=>if pos<s.size then Cw (some d) (.BT [.sc (.bool true),.sc (.int .i64 pos),.sc (.int .i32 (Utf8.decode s pos).1)]) (λσ'=>K σ' (DP μ b (some (.it s (pos+(Utf8.decode s pos).2))))) σ
   else Cw (some d) (.BT [.sc (.bool false)]) (λσ'=>K σ' μ) σ
  |_=>False
 |_=>False
def OA (P:Program) (G:Gi):List iD->(Sg->Mu->Prop)->Sg->Mu->Prop
 |[],K,σ,μ=>K σ μ
 | .x o::l,K,σ,μ=>K5 P G [o] (λσ'=>OA P G l K σ' μ) σ
 | .mkm d::l,K,σ,μ=>∀b,μ b=none->Cw (some d) (.sc (.map (some b))) (λσ'=>OA P G l K σ' (DP μ b (some (.mp [])))) σ
 | .lkp g d m k::l,K,σ,μ=>gM g d (λσ=>lkpK (ar σ m) (ar σ k) μ d (λσ'=>OA P G l K σ' μ) σ) (λσ'=>OA P G l K σ' μ) σ
 | .mup m k v::l,K,σ,μ=>mupK (ar σ m) (ar σ k) (ar σ v) μ (λν=>OA P G l K σ ν)
 | .rng d x::l,K,σ,μ=>rngK (ar σ x) d (OA P G l K) σ μ
 | .nxt d x::l,K,σ,μ=>nxtK (ar σ x) d (OA P G l K) σ μ
def VV (P:Program) (t:TypeId) (zb:Bool):Bool:=match P.underlying t with
 |some (.map kt et)=>(match P.underlying kt with|some .string=>true|_=>false)&&(!zb||(match(P.info? et).bind (·.zero)with|some (.bool false)=>true|_=>false))
 |_=>false
def jX (P:Program) (G:Gi) (n:Nat) (ops:Array Oper) (o:Oper):iD->Bool
 | .x io=>cV P G n ops o io
 | .mkm d=>o.guard.isNone&&Dt G n o.dst (some d)&&(match o.op with| .makeMap _ none=>true|_=>false)
 | .lkp g d m k=>KM n ops o.guard g&&Dt G n o.dst (some d)&&(match o.op with| .lookup t m' k' false=>CH m' m&&CH k' k&&VV P t true|_=>false)
 | .mup m k v=>o.guard.isNone&&Dt G n o.dst none&&(match o.op with| .mapUpdate t m' k' v'=>CH m' m&&CH k' k&&CH v' v&&VV P t false|_=>false)
 | .rng d x=>o.guard.isNone&&Dt G n o.dst (some d)&&(match o.op with| .range t x'=>CH x' x&&(match P.underlying t with|some .string=>true|_=>false)|_=>false)
 | .nxt d x=>o.guard.isNone&&Dt G n o.dst (some d)&&(match o.op with| .next x' true=>CH x' x|_=>false)
end Go.Abs
namespace Go.Abs
open Go.MapKept
variable {w w':World} {S S':Nat->Prop} {G:Gi} {δ:Nat->DV} {Fr:Nat->Nat->Prop} {P:Program}
variable {n:Nat} {w0:World} {S0 U0:Nat->Prop} {a:Act} {σ:Sg} {μ:Mu}
theorem okSc (v:Value) (a:Fl v=true) (w:World) (S:Nat->Prop):Ok w S (.lf (.sc v) v) (λ_=>False):=.lf _ _ _ ⟨rfl,a⟩ (λ_ h=>h)
theorem okTup (l:List Value) (b:∀v∈l,Fl v=true) (w:World) (S:Nat->Prop):Ok w S (.BT (l.map λv=>.lf (.sc v) v)) (λ_=>False):=by refine BK.2 (Ca λD a=> ?_);obtain⟨v,c,rfl⟩:=ABR.1 a;exact okSc v (b v c) w S
theorem alTup (l:List Value) (δ:Nat->DV):DQ δ (.BT (l.map λv=>.lf (.sc v) v)):=by refine .BT _ λi D a=> ?_;obtain⟨v,b,rfl⟩:=ABR.1 (AAS a);exact .lf _ _ trivial
theorem Rq {b:List (ABi×Value)} {arr:List MapEntry} (h:arr.map (λe=>(e.key,e.val))=b.map λx=>(Value.string x.1,x.2)) (s:ABi) (i:Nat):
 (b.find? (λx=>x.1==s)=none/\Instr.findNow .string (.string s) arr i=some none)∨∃x j,b.find? (λx=>x.1==s)=some x/\Instr.findNow .string (.string s) arr i=some (some (j,x.2)):=by
 induction b generalizing arr i with
 |nil=>cases arr with
  |nil=>exact .inl ⟨rfl,rfl⟩
  |cons e r=>simp at h
 |cons x b ih=>
  cases arr with
  |nil=>simp at h
  |cons e r=>
   simp only[AAb,ABc,AAU]at h;obtain⟨⟨d,g⟩,k⟩:=h;by_cases a:(s==x.1)=true
   . have c:(x.1==s)=true:=(by rw[bytes_beq]at a ⊢;exact a.symm);exact .inr ⟨x,i,by simp[List.find?,c],by simp[Instr.findNow,d,Instr.sameNow,a,g]⟩
   . have c:(x.1==s)=false:=(by rw[← Bool.not_eq_true,bytes_beq];rw[bytes_beq]at a;exactλe=>a e.symm);have f:(s==x.1)=false:=(by simpa using a);rcases ih k (i+1)with⟨k1,k2⟩|⟨y,j,k1,k2⟩
     . exact .inl ⟨by simp[List.find?,c,k1],by simp[Instr.findNow,d,Instr.sameNow,f,k2]⟩
     . exact .inr ⟨y,j,by simp[List.find?,c,k1],by simp[Instr.findNow,d,Instr.sameNow,f,k2]⟩
theorem run_look {t l o:TypeId} {b:Nat} {arr:Array MapEntry} {c:Nat} {n:List (ABi×Value)} {i:TypeInfo} (p:P.underlying t=some (.map l o)) (d:P.underlying l=some .string) (r:P.info? o=some i) (u:i.zero=some (.bool false))
 (q:w.heap[b]? =some (.map arr c)) (v:arr.toList.map (λe=>(e.key,e.val))=n.map λx=>(Value.string x.1,x.2)) (s:ABi):
 (Instr.lookup t (.map (some b)) (.string s) false).run P w= .ok (Lq n s (.bool false)) w:=by
 have m:∀a,(Instr.checkKey a 10000 l (.string s)).run P w= .ok () w:=λa=>MapKept.run_checkKey d (k:=.string s) (by simp[IsKey]) a 9999;rcases Rq v s 0 with⟨g,h⟩|⟨x,j,g,h⟩
 . have f:=run_findKey (w:=w) d h;simp[Instr.lookup,run_underlying p,MapKept.run_getObj_map q,m,f,Lq,g,zeroValue,typeInfo,r,u]
 . have f:=run_findKey (w:=w) d h;simp[Instr.lookup,run_underlying p,MapKept.run_getObj_map q,m,f,Lq,g]
theorem run_upd {t d n:TypeId} {b:Nat} {arr:Array MapEntry} {c:Nat} {g:List (ABi×Value)} (o:P.underlying t=some (.map d n)) (h:P.underlying d=some .string)
 (i:w.heap[b]? =some (.map arr c)) (p:arr.toList.map (λe=>(e.key,e.val))=g.map λx=>(Value.string x.1,x.2)) (s:ABi) (v:Value) (f:g.all (λx=> !(x.1==s))=true):
 (Instr.mapUpdate t (.map (some b)) (.string s) v).run P w= .ok () {w with heap:=w.heap.setIfInBounds b (.map (arr.push {key:=.string s,val:=v,born:=c}) (c+1))}:=by
 have m:(Instr.checkKey false 10000 d (.string s)).run P w= .ok () w:=MapKept.run_checkKey h (k:=.string s) (by simp[IsKey]) false 9999;rcases Rq p s 0 with⟨a,l⟩|⟨x,j,a,l⟩
 . have q:=run_findKey (w:=w) h l;simp[Instr.mapUpdate,run_underlying o,MapKept.run_getObj_map i,m,q,MapKept.run_setObj_map _ i]
 . have r:=ABZ a;have u:=List.find?_some a;rw[AAN]at f
   have:=f x r;simp only[u]at this;cases this
end Go.Abs
namespace Go.Abs
variable {w w':World} {S S':Nat->Prop} {G:Gi} {δ:Nat->DV} {Fr:Nat->Nat->Prop} {P:Program}
variable {n:Nat} {w0:World} {S0 U0:Nat->Prop} {a:Act} {σ:Sg} {μ:Mu}
theorem JI.base (h:JI G n w0 S0 U0 a w σ μ):∃(b:World) (S1 U1:Nat->Prop),X0 b S1 U1/\Rel G n b S1 U1 a w σ/\∀c w' σ',Rel G n b S1 U1 c w' σ'->JI G n w0 S0 U0 c w' σ' μ:=by obtain⟨b,S1,U1,i,e,d,g⟩:=h;exact⟨b,S1,U1,e,g,λc w' σ' f=>⟨b,S1,U1,i,e,d,f⟩⟩
theorem run_mkm (t:TypeId) (w:World):(Instr.makeMap t none).run P w= .ok (.map (some w.heap.size)) (w.alloc (.map #[] 0)):=rfl
theorem xD {ops:Array Oper} {K:Sg->Mu->Prop} (Q:Exit->Act->World->Prop) {k:Nat} {o:Oper} (ho:ops[k]? =some o) {x:iD} {xs:List iD}
 (h:JI G n w0 S0 U0 a w σ μ) (p:jX P G n ops o x=true) (e:OA P G (x::xs) K σ μ):wpOp P ops Q k (λI w'=>∃σ' l,JI G n w0 S0 U0 I w' σ' l/\OA P G xs K σ' l) a w:=by
 have W:o.guard.isNone=true->o.wp P a w (λI w'=>∃σ' l,JI G n w0 S0 U0 I w' σ' l/\OA P G xs K σ' l) Q->wpOp P ops Q k (λI w'=>∃σ' l,JI G n w0 S0 U0 I w' σ' l/\OA P G xs K σ' l) a w:=by
  intro hg hwp;unfold wpOp;rw[ho];have hog:o.guard=none:=by simpa using hg
  simp only;rw[AAP (by simp[Region.wanted,hog])];exact .inl hwp
 cases x with
 |x io=>obtain⟨w1,S1,U1,hG,HZ,Oe⟩:=h.base;refine wpOp_mono ?_ (cO hG Q ho HZ ⟨p,trivial⟩ e);rintro I w' ⟨σ',J,L⟩;exact⟨σ',μ,Oe _ _ _ J,L⟩
 |mkm d=>
  simp only[jX,AAH]at p;obtain⟨⟨B,y⟩,f⟩:=p;refine W B ?_;split at f
  . rename_i t z;have q:(execOp a.eval o).run P w= .ok (.value (.map (some w.heap.size))) (w.alloc (.map #[] 0)):=(by simp only[execOp,z,Option.map_none,Sem.run_bind,run_mkm,Result.andThen_ok,Sem.run_pure]);unfold Oper.wp;rw[q,Oper.upon_value];have J:=h.turn (w':=w.alloc (.map #[] 0)) (b:=w.heap.size) (o':=.mp []) (ob':=.map #[] 0) (.inr rfl) rfl rfl rfl (by show w.heap.size≤(w.heap.push _).size;rw[Array.size_push];omega) (λc p _=>(MapKept.heap_alloc w _).2 c p) (MapKept.heap_alloc w _).1 ⟨#[],0,rfl,rfl⟩;obtain⟨σ',E,F⟩:=J.DW (o:=o) y (D:=.lf (.sc (.map (some w.heap.size))) (.map (some w.heap.size))) (okSc _ rfl) (λ_=>.lf _ _ trivial) (by simpa using e w.heap.size h.fresh);exact⟨σ',_,by simpa using E,F⟩
  . cases f
 |lkp g d m k=>
  simp only[jX,AAH]at p;obtain⟨⟨B,y⟩,f⟩:=p;obtain⟨w1,S1,U1,hG,HZ,Oe⟩:=h.base;refine Od HZ y B Q ?_ (λI _ Vl L=>⟨_,μ,Oe _ _ _ Vl,L⟩) (gM_gd e) ho;intro H;split at f
  . rename_i t m' k' z;simp only[AAH]at f;obtain⟨⟨O,M⟩,r⟩:=f;unfold lkpK at H;split at H
    . rename_i b s hm L;split at H
      . rename_i T C;obtain⟨hp,H⟩:=H;obtain⟨ob,j,arr,c,rfl,X⟩:=h.obj C;unfold VV at r;split at r
        . rename_i kt et V;simp only[AAH,Bool.not_true,Bool.false_or]at r;obtain⟨R,c5⟩:=r;have Tb:P.underlying kt=some .string:=by split at R<;>first|assumption|cases R
          obtain⟨i,hi,N⟩:∃i,P.info? et=some i/\i.zero=some (.bool false):=by
           split at c5
           . rename_i N;cases hi:P.info? et with
             |none=>rw[hi]at N;cases N
             |some i=>rw[hi]at N;exact⟨i,rfl,N⟩
           . cases c5
          have q:(execOp a.eval o).run P w= .ok (.value (Lq T s (.bool false))) w:=(by simp only[execOp,z,(h.Ep O hm).1,(h.Ep M L).1,Sem.run_bind,run_look V Tb hi N j X s,Result.andThen_ok,Sem.run_pure]);unfold Oper.wp;rw[q,Oper.upon_value];obtain⟨σ',E,F⟩:=h.DW (o:=o) y (D:=.lf (.sc (Lq T s (.bool false))) (Lq T s (.bool false))) (okSc _ hp) (λ_=>.lf _ _ trivial) (by simpa using H);exact⟨σ',μ,by simpa using E,F⟩
        . cases r
      . exact H.elim
    . exact H.elim
  . cases f
 |mup m k v=>
  simp only[jX,AAH]at p;obtain⟨⟨B,y⟩,f⟩:=p;refine W B ?_;split at f
  . rename_i t m' k' v' z;simp only[AAH]at f;obtain⟨⟨⟨O,M⟩,c2'⟩,r⟩:=f;simp only[OA]at e;unfold mupK at e;split at e
    . rename_i b s u hm L hu;split at e
      . rename_i T C;obtain⟨Jl,e⟩:=e;obtain⟨ob,j,arr,c,rfl,X⟩:=h.obj C;unfold VV at r;split at r
        . rename_i kt et V;simp only[AAH]at r;have Tb:P.underlying kt=some .string:=by have R:=r.1;split at R<;>first|assumption|cases R
          have q:(execOp a.eval o).run P w= .ok .skip {w with heap:=w.heap.setIfInBounds b (.map (arr.push {key:=.string s,val:=u,born:=c}) (c+1))}:=(by simp only[execOp,z,(h.Ep O hm).1,(h.Ep M L).1,(h.Ep c2' hu).1,Sem.run_bind,run_upd V Tb j X s u Jl,Result.andThen_ok,Sem.run_pure]);unfold Oper.wp;rw[q,Oper.upon_skip];have hd:o.dst=none:=(by obtain⟨S,δ,Fr,hn,_⟩:=h.toRel;exact ES y hn);rw[hd];refine⟨σ,_,h.turn (b:=b) (o':=.mp (iM T s u)) (ob':=.map (arr.push {key:=.string s,val:=u,born:=c}) (c+1)) (.inl ⟨_,C⟩) rfl rfl rfl (by simp) (λc' _ Mj=>(MapKept.heap_set j).2 c' Mj) (MapKept.heap_set j).1 ⟨_,_,rfl,?_⟩,e⟩;simp[iM,X]
        . cases r
      . exact e.elim
    . exact e.elim
  . cases f
 |rng d x=>
  simp only[jX,AAH]at p;obtain⟨⟨B,y⟩,f⟩:=p;refine W B ?_;split at f
  . rename_i t x' z;simp only[AAH]at f;obtain⟨O,M⟩:=f;have V:P.underlying t=some .string:=by split at M<;>first|assumption|cases M
    simp only[OA]at e;unfold rngK at e;split at e
    . rename_i s Z;have q:(execOp a.eval o).run P w= .ok (.value (.pointer (some ⟨w.heap.size,0,none⟩))) (w.iter s 0):=(by simp only[execOp,z,(h.Ep O Z).1,Sem.run_bind,run_range_string w t s V,Result.andThen_ok,Sem.run_pure]);unfold Oper.wp;rw[q,Oper.upon_value];have J:=h.turn (w':=w.iter s 0) (b:=w.heap.size) (o':=.it s 0) (ob':=.stringIter s 0) (.inr rfl) rfl rfl rfl (by show w.heap.size≤(w.heap.push _).size;rw[Array.size_push];omega) (λc p _=>(MapKept.heap_alloc w _).2 c p) (MapKept.heap_alloc w _).1 rfl;obtain⟨σ',E,F⟩:=J.DW (o:=o) y (D:=.lf (.sc (.pointer (some ⟨w.heap.size,0,none⟩))) (.pointer (some ⟨w.heap.size,0,none⟩))) (okSc _ rfl) (λ_=>.lf _ _ trivial) (by simpa using e w.heap.size h.fresh);exact⟨σ',_,by simpa using E,F⟩
    . exact e.elim
  . cases f
 |nxt d x=>
  simp only[jX,AAH]at p;obtain⟨⟨B,y⟩,f⟩:=p;refine W B ?_;split at f
  . rename_i x' z;simp only[OA]at e;unfold nxtK at e;split at e
    . rename_i b Z;split at e
      . rename_i s pos U;obtain⟨ob,j,rfl⟩:=h.obj U;split at e
        . rename_i Df;have q:(execOp a.eval o).run P w= .ok (.value (.tuple #[.bool true,.int .i64 pos,.int .i32 (Utf8.decode s pos).1])) (w.iterAt b s (pos+(Utf8.decode s pos).2)):=(by simp only[execOp,z,(h.Ep f Z).1,Sem.run_bind,Lib.run_next_any_at w b s pos o.type j Df,Result.andThen_ok,Sem.run_pure]);unfold Oper.wp;rw[q,Oper.upon_value];have J:=h.turn (w':=w.iterAt b s (pos+(Utf8.decode s pos).2)) (b:=b) (o':=.it s (pos+(Utf8.decode s pos).2)) (ob':=.stringIter s (pos+(Utf8.decode s pos).2)) (.inl ⟨_,U⟩) rfl rfl rfl (by simp[World.iterAt]) (λc p Mj=>(MapKept.heap_set j).2 c Mj) (MapKept.heap_set j).1 rfl;obtain⟨σ',E,F⟩:=J.DW (o:=o) y (D:=.BT ([.bool true,.int .i64 pos,.int .i32 (Utf8.decode s pos).1].map λv=>.lf (.sc v) v)) (okTup _ (by simp[Fl])) (alTup _) (by simpa using e);exact⟨σ',_,by simpa using E,F⟩
        . rename_i Df;have q:(execOp a.eval o).run P w= .ok (.value (.tuple #[.bool false])) w:=(by simp only[execOp,z,(h.Ep f Z).1,Sem.run_bind,Lib.run_next_end_at w b s pos o.type j Df,Result.andThen_ok,Sem.run_pure]);unfold Oper.wp;rw[q,Oper.upon_value];obtain⟨σ',E,F⟩:=h.DW (o:=o) y (D:=.BT ([.bool false].map λv=>.lf (.sc v) v)) (okTup _ (by simp[Fl])) (alTup _) (by simpa using e);exact⟨σ',_,by simpa using E,F⟩
      . exact e.elim
    . exact e.elim
  . cases f
def Yn (P:Program) (G:Gi) (n:Nat) (ops:Array Oper):List Oper->List iD->Bool
 |[],[]=>true
 |o::os,x::xs=>jX P G n ops o x&&Yn P G n ops os xs
 |_,_=>false
theorem pW {ops:Array Oper} {K:Sg->Mu->Prop} (Q:Exit->Act->World->Prop) (l:∀a w σ μ,JI G n w0 S0 U0 a w σ μ->K σ μ->Q .normal a w) (c:List iD):
 ∀(k:Nat) {a:Act} {w:World} {σ:Sg} {μ:Mu},JI G n w0 S0 U0 a w σ μ->Yn P G n ops (ops.toList.drop k) c=true->OA P G c K σ μ->wpOps P ops Q (List.range' k (ops.size-k)) a w:=by
 induction c with
 |nil=>
  intro k a w σ μ h b f;have g:ops.toList.drop k=[]:=by cases hd:ops.toList.drop k with|nil=>rfl|cons o os=>rw[hd]at b;simp[Yn]at b
  have i:ops.size≤k:=by simpa using g
  rw[show ops.size-k=0 from by omega];exact l a w σ μ h f
 |cons x c ih=>
  intro k a w σ μ h b f;cases hd:ops.toList.drop k with
  |nil=>rw[hd]at b;simp[Yn]at b
  |cons o os=>rw[hd]at b;simp only[Yn,AAH]at b;have g:k<ops.size:=(by have:(ops.toList.drop k).length=os.length+1:=(by rw[hd];rfl);simp at this;omega);have m:ops[k]? =some o:=(by have:(ops.toList.drop k)[0]? =some o:=(by rw[hd];rfl);simpa using this);have e:ops.toList.drop (k+1)=os:=(by have:(ops.toList.drop k).drop 1=os:=(by rw[hd];rfl);rw[List.drop_drop]at this;exact this);rw[show ops.size-k=(ops.size-(k+1))+1 from by omega,List.range'_succ,wpOps_cons];refine wpOp_mono ?_ (xD Q m h b.1 f);rintro q w' ⟨σ',p,j,d⟩;exact ih (k+1) j (by rw[e];exact b.2) d
inductive X1 where
 |ic (c:IC)
 |YH (xs:List iD)
 |seq (a b:X1)
 |cond (c:Ar) (a b:X1)
 |block (id:Nat) (a:X1)
 |loop (a:X1)
def HG (P:Program) (G:Gi) (n:Nat):Code->X1->Bool
 |c,.ic c'=>Gf P G n c c'
 | .region _ ops false,.YH xs=>Yn P G n ops ops.toList xs
 | .seq a b,.seq a' b'=>HG P G n a a'&&HG P G n b b'
 | .cond c a b,.cond c' a' b'=>CH c c'&&HG P G n a a'&&HG P G n b b'
 | .block id a,.block id' a'=>id==id'&&HG P G n a a'
 | .loop a,.loop a'=>HG P G n a a'
 |_,_=>false
def Exit.Xd (next:Sg->Mu->Prop) (Q:Exit->Sg->Mu->Prop):Exit->Sg->Mu->Prop
 | .normal,σ,μ=>next σ μ
 |e,σ,μ=>Q e σ μ
def Exit.Tf (id:Nat) (Q:Exit->Sg->Mu->Prop):Exit->Sg->Mu->Prop
 | .exit i,σ,μ=>if i=id then Q .normal σ μ else Q (.exit i) σ μ
 |e,σ,μ=>Q e σ μ
def nK (x:AV) (a b:Sg->Mu->Prop) (σ:Sg) (μ:Mu):Prop:=match x with
 | .sc (.bool x)=>if x=true then a σ μ else b σ μ
 |_=>False
def IX (P:Program) (G:Gi):X1->(Exit->Sg->Mu->Prop)->Sg->Mu->Prop
 | .ic c,Q,σ,μ=>HX P G c (λe σ'=>Q e σ' μ) σ
 | .YH xs,Q,σ,μ=>OA P G xs (Q .normal) σ μ
 | .seq a b,Q,σ,μ=>IX P G a (Exit.Xd (IX P G b Q) Q) σ μ
 | .cond c a b,Q,σ,μ=>nK (ar σ c) (IX P G a Q) (IX P G b Q) σ μ
 | .block id a,Q,σ,μ=>IX P G a (Exit.Tf id Q) σ μ
 | .loop a,Q,σ,μ=>∃I:Nat->Sg->Mu->Prop,(∃n,I n σ μ)/\∀n τ ν,I n τ ν->IX P G a (Exit.Xd (λτ' ν'=>∃n',n'<n/\I n' τ' ν') Q) τ ν
def wX (G:Gi) (n:Nat) (w0:World) (S0 U0:Nat->Prop) (Q:Exit->Sg->Mu->Prop) (e:Exit) (a:Act) (w:World):Prop:=∃σ μ,JI G n w0 S0 U0 a w σ μ/\Q e σ μ
theorem jF (R:P.follows .mixedOrders=true) (c:Code):∀(ic:X1) (Q:Exit->Sg->Mu->Prop) (a:Act) (w:World) (σ:Sg) (μ:Mu),HG P G n c ic=true->JI G n w0 S0 U0 a w σ μ->IX P G ic Q σ μ->c.wp P (wX G n w0 S0 U0 Q) a w:=by
 have g:∀(c:Code) (ic:IC) (Q:Exit->Sg->Mu->Prop) (a:Act) (w:World) (σ:Sg) (μ:Mu),Gf P G n c ic=true->JI G n w0 S0 U0 a w σ μ->HX P G ic (λe σ'=>Q e σ' μ) σ->c.wp P (wX G n w0 S0 U0 Q) a w:=by intro c ic Q a w σ μ f h j;obtain⟨W,S1,U1,M,E,F⟩:=h.base;refine wp_mono (Yj M R (m:=0) (a0:=a) c ic _ a w σ f (Oa c) (Pu.refl _ _) E j) ?_;rintro e r w' ⟨⟨σ',p,l⟩,_⟩;exact⟨σ',μ,F _ _ _ p,l⟩
 induction c with
 |region id ops d=>
  intro ic Q a w σ μ f h j;cases ic with
  |ic c'=>exact g _ c' Q a w σ μ (by simpa[HG]using f) h j
  |YH xs=>
   cases d with
   |true=>simp[HG]at f
   |false=>
    simp only[HG]at f;refine wp_region ?_
    have:=pW (P:=P) (G:=G) (ops:=ops) (K:=Q .normal) (wX G n w0 S0 U0 Q) (λa w σ μ h B=>⟨σ,μ,h,B⟩) xs 0 h (by simpa using f) j;rw[List.range_eq_range'];simpa using this
  |_=>simp[HG]at f
 |seq x y Z1 ihy=>
  intro ic Q a w σ μ f h j;cases ic with
  |ic c'=>exact g _ c' Q a w σ μ (by simpa[HG]using f) h j
  |seq x' y'=>
   simp only[HG,AAH]at f;refine wp_seq (wp_mono (Z1 x' _ a w σ μ f.1 h j) ?_);rintro e r w' ⟨σ',o,p,l⟩;cases e with
   |normal=>exact ihy y' Q r w' σ' o f.2 p l
   |_=>exact⟨σ',o,p,l⟩
  |_=>simp[HG]at f
 |cond c x y Z1 ihy=>
  intro ic Q a w σ μ f h j;cases ic with
  |ic c'=>exact g _ c' Q a w σ μ (by simpa[HG]using f) h j
  |cond c' x' y'=>
   simp only[HG,AAH]at f;obtain⟨⟨J,q⟩,L⟩:=f;simp only[IX]at j;unfold nK at j;split at j
   . rename_i b O;have C:a.eval c= .bool b:=(h.Ep J O).1;split at j
     . rename_i z;subst z;exact wp_cond_true C (Z1 x' Q a w σ μ q h j)
     . rename_i v;obtain rfl:b=false:=(by simpa using v);exact wp_cond_false C (ihy y' Q a w σ μ L h j)
   . exact j.elim
  |_=>simp[HG]at f
 |block id x Z1=>
  intro ic Q a w σ μ f h j;cases ic with
  |ic c'=>exact g _ c' Q a w σ μ (by simpa[HG]using f) h j
  |block id' x'=>
   simp only[HG,AAH,AAV]at f;obtain⟨rfl,q⟩:=f;refine wp_block (wp_mono (Z1 x' _ a w σ μ q h j) ?_);rintro e r w' ⟨σ',o,p,l⟩;cases e with
   |exit i=>
    simp only[Exit.inBlock];simp only[Exit.Tf]at l;split
    . rename_i hi;rw[AAP hi]at l;exact⟨σ',o,p,l⟩
    . rename_i hi;rw[AAO hi]at l;exact⟨σ',o,p,l⟩
   |_=>exact⟨σ',o,p,l⟩
  |_=>simp[HG]at f
 |loop x Z1=>
  intro ic Q a w σ μ f h j;cases ic with
  |ic c'=>exact g _ c' Q a w σ μ (by simpa[HG]using f) h j
  |loop x'=>
   simp only[HG]at f;obtain⟨I,⟨U,H⟩,T⟩:=j;refine wp_loop_ghost (λk a w=>∃σ μ,JI G n w0 S0 U0 a w σ μ/\I k σ μ) U ⟨σ,μ,h,H⟩ ?_;rintro k r w' ⟨τ,D,p,N⟩;refine wp_mono (Z1 x' _ r w' τ D f p (T k τ D N)) ?_;rintro e V X ⟨t,s,q,l⟩;cases e with
   |normal=>obtain⟨S,B,u⟩:=l;exact⟨S,B,t,s,q,u⟩
   |_=>exact⟨t,s,q,l⟩
  |_=>simp[HG]at f
 |_=>
  intro ic Q a w σ μ f h j;cases ic with
  |ic c'=>exact g _ c' Q a w σ μ (by simpa[HG]using f) h j
  |_=>simp[HG]at f
structure FIM where
 c:X1
 g:Gi
 r:List RV
def nG (P:Program) (fn:Func) (I:FIM):Bool:=
 (match fn.body with
 |some c=>HG P I.g fn.ntmps c I.c
 |none=>false)&&OY P fn.results.toList I.r&&I.g.rt.all (λx=> !x.2.contains x.1)
theorem fG {f:Nat} {j:Func} {I:FIM} {args:List AV} {n:AV} (hm:P.follows .mixedOrders=true) (H:P.funcs[f]? =some j) (U:nG P j I=true) (hn:args.length≤j.ntmps) (O:args.all Iq=true)
 (h:IX P I.g I.c (λe σ _=>Ends I.g I.r n e σ) (start args) (λ_=>none)):Says P f args n:=by
 intro w S ds F Mi JT L T;subst JT;simp only[nG,AAH]at U;obtain⟨⟨B,LC⟩,E⟩:=U;split at B
 . rename_i c u;obtain⟨q,y,hd,z,D⟩:wS w S ds F:=(by cases L with|BT _ q _ y hd z D=>exact⟨q,y,hd,z,D⟩);have Q:∀(i:Nat) d,ds[i]? =some d->Iq d.er=true:=λi d hi=>(by simp only[AAN]at O;exact O _ (ABK (AAS hi)));refine calls_of_wp H u ?_
   let δ:Nat->DV:=λs=>ds.getD s (.lf .un undef)
   have k:∀s,(∃d,ds[s]? =some d/\δ s=d)∨(ds[s]? =none/\δ s= .lf .un undef):=by
    intro s;cases a:ds[s]? with
    |some d=>exact .inl ⟨d,rfl,by simp[δ,a]⟩
    |none=>exact .inr ⟨rfl,by simp[δ,a]⟩
   have X:St I.g w S δ q:=by
    refine⟨λs=> ?_,λs t x=>hd s t x,λs=> ?_,λs=> ?_,oV E⟩
    . rcases k s with⟨d,a,e⟩|⟨a,e⟩
      . rw[e];exact y s d a
      . rw[e];exact .lf _ _ _ rfl λx p=>by obtain⟨d,hd⟩:=z s x p;rw[a]at hd;cases hd
    . rcases k s with⟨d,a,e⟩|⟨a,e⟩
      . rw[e];exact cG (y s d a).KU (Q s d a)
      . rw[e];exact .lf _ _ trivial
    . rcases k s with⟨d,a,e⟩|⟨a,e⟩
      . rw[e];exact Yg (Q s d a)
      . rw[e];simp
   have K:(λs=>(δ s).er)=start (ds.map DV.er):=by
    funext s;unfold start;rcases k s with⟨d,a,e⟩|⟨a,e⟩
    . simp[e,a]
    . simp[e,a]
   have rU:ds.length≤j.ntmps:=(by simpa using hn);have HZ:Rel I.g j.ntmps w S F {tmps:=(ds.map DV.A0).toArray++Array.replicate (j.ntmps-(ds.map DV.A0).toArray.size) undef,defers:=[]} w (start (ds.map DV.er)):=(by refine⟨S,δ,q,by simp;omega,rfl,λs=>WQ ds j.ntmps s,K,X,Nx.less λx ⟨s,p⟩=>(D x).2 ⟨s,p⟩,T⟩);have m:=JI.start ⟨Mi,λb u=>⟨λH=>L.Ek b H u,T b u⟩⟩ HZ;refine wp_mono (jF hm c I.c _ _ w _ _ B m h) ?_;rintro e a' o ⟨σ,μ,J,V⟩;obtain⟨S1,δ1,F1,hn1,M,QT,rfl,En,l,Z⟩:=J.toRel;have G:=mU V;obtain⟨_,vs,τ,Xv,SC⟩:=V;obtain⟨Ds,FD,g1,g2,g3,g4,_⟩:=Is j.results.toList En QT LC Xv;have hO:JH o S1 (ds.map λd=>DV.lf .dead d.A0) (λ_=>False):=(by refine Ca λd hd=> ?_;obtain⟨x,_,rfl⟩:=ABR.1 hd;exact .lf _ _ _ trivial (λ_ h=>h));have C:∃v,(results j a'.tmps).run P o= .ok v o/\∃(r:DV) (os:List DV) (S' N:Nat->Prop),Ending.returned v= .returned r.A0/\r.er=n/\os.map DV.er=((ds.map DV.er).map λ_=>AV.dead)/\os.map DV.A0=ds.map DV.A0/\
    Ok o S' (.BT (r::os)) N/\Ext w o F/\(∀b,S b->S' b)/\(∀b,S' b->S b∨F b∨w.heap.size≤b)/\(∀b,S' b->b<o.heap.size)/\(∀x,N x->F x∨w.heap.size≤x):=
    ⟨_,TG g2,OH Ds,ds.map λd=>DV.lf .dead d.A0,S1,FD,rfl,by rw[Sb,g1,SC],by simp,by simp,BK.2 ⟨FD,λ_=>False,NR g3,hO,λ_ _ h=>h,λx=>by simp⟩,⟨l.os,l.tape,l.output,l.size,l.block⟩,l.sub,l.sup,Z,λx p=>l.own x (g4 x p)⟩
   obtain⟨v,W,R⟩:=C;rcases G with rfl|rfl
   . exact⟨M,v,W,R⟩
   . exact⟨M,v,W,R⟩
 . cases B
end Go.Abs
namespace Go.Abs
variable {P:Program} {G:Gi}
theorem awpM_ic (c:IC) (Q:Exit->Sg->Mu->Prop) (σ:Sg) (a:Mu):IX P G (.ic c) Q σ a=HX P G c (λe σ'=>Q e σ' a) σ:=(rfl)
theorem qH (a:List iD) (Q:Exit->Sg->Mu->Prop) (σ:Sg) (b:Mu):IX P G (.YH a) Q σ b=OA P G a (Q .normal) σ b:=(rfl)
theorem cK (a b:X1) (Q:Exit->Sg->Mu->Prop) (σ:Sg) (c:Mu):IX P G (.seq a b) Q σ c=IX P G a (Exit.Xd (IX P G b Q) Q) σ c:=(rfl)
theorem V4 (c:Ar) (a b:X1) (Q:Exit->Sg->Mu->Prop) (σ:Sg) (d:Mu):IX P G (.cond c a b) Q σ d=nK (ar σ c) (IX P G a Q) (IX P G b Q) σ d:=(rfl)
theorem jD (b:Nat) (a:X1) (Q:Exit->Sg->Mu->Prop) (σ:Sg) (c:Mu):IX P G (.block b a) Q σ c=IX P G a (Exit.Tf b Q) σ c:=(rfl)
theorem fJ (next:Sg->Mu->Prop) (Q:Exit->Sg->Mu->Prop) (σ:Sg) (a:Mu):Exit.Xd next Q .normal σ a=next σ a:=(rfl)
theorem tW (next:Sg->Mu->Prop) (Q:Exit->Sg->Mu->Prop) (a:Nat) (σ:Sg) (b:Mu):Exit.Xd next Q (.exit a) σ b=Q (.exit a) σ b:=(rfl)
theorem seqM_ret (next:Sg->Mu->Prop) (Q:Exit->Sg->Mu->Prop) (σ:Sg) (a:Mu):Exit.Xd next Q .ret σ a=Q .ret σ a:=(rfl)
theorem X4 (b:Nat) (Q:Exit->Sg->Mu->Prop) (σ:Sg) (a:Mu):Exit.Tf b Q .normal σ a=Q .normal σ a:=(rfl)
theorem UB (b i:Nat) (Q:Exit->Sg->Mu->Prop) (σ:Sg) (a:Mu):Exit.Tf b Q (.exit i) σ a=if i=b then Q .normal σ a else Q (.exit i) σ a:=(rfl)
theorem jH (b:Nat) (Q:Exit->Sg->Mu->Prop) (σ:Sg) (a:Mu):Exit.Tf b Q .ret σ a=Q .ret σ a:=(rfl)
theorem ams_nil (K:Sg->Mu->Prop) (σ:Sg) (a:Mu):OA P G [] K σ a=K σ a:=(rfl)
theorem ams_x (o:gC) (l:List iD) (K:Sg->Mu->Prop) (σ:Sg) (a:Mu):OA P G (.x o::l) K σ a=K5 P G [o] (λσ'=>OA P G l K σ' a) σ:=(rfl)
theorem ams_mkm (d:Dw) (l:List iD) (K:Sg->Mu->Prop) (σ:Sg) (a:Mu):OA P G (.mkm d::l) K σ a=∀b,a b=none->Cw (some d) (.sc (.map (some b))) (λσ'=>OA P G l K σ' (DP a b (some (.mp [])))) σ:=(rfl)
theorem ams_lkp (g:ABh (Nat×Bool)) (d:Dw) (m k:Ar) (l:List iD) (K:Sg->Mu->Prop) (σ:Sg) (a:Mu):OA P G (.lkp g d m k::l) K σ a=gM g d (λσ=>lkpK (ar σ m) (ar σ k) a d (λσ'=>OA P G l K σ' a) σ) (λσ'=>OA P G l K σ' a) σ:=(rfl)
theorem ams_mup (m k v:Ar) (l:List iD) (K:Sg->Mu->Prop) (σ:Sg) (a:Mu):OA P G (.mup m k v::l) K σ a=mupK (ar σ m) (ar σ k) (ar σ v) a (λb=>OA P G l K σ b):=(rfl)
theorem ams_rng (d:Dw) (x:Ar) (l:List iD) (K:Sg->Mu->Prop) (σ:Sg) (a:Mu):OA P G (.rng d x::l) K σ a=rngK (ar σ x) d (OA P G l K) σ a:=(rfl)
theorem ams_nxt (d:Dw) (x:Ar) (l:List iD) (K:Sg->Mu->Prop) (σ:Sg) (a:Mu):OA P G (.nxt d x::l) K σ a=nxtK (ar σ x) d (OA P G l K) σ a:=(rfl)
theorem gM_some (s:Nat) (a:Bool) (d:Dw) (A K:Sg->Prop) (σ:Sg):gM (some (s,a)) d A K σ=gK (σ s) a A (λσ=>K (DP (JC d.kl d.d σ) d.d .un)) σ:=(rfl)
def lkpV (x:ABh MO) (s:ABi) (d:Dw) (K:Sg->Prop) (σ:Sg):Prop:=match x with
 |some (.mp es)=>Fl (Lq es s (.bool false))=true/\Cw (some d) (.sc (Lq es s (.bool false))) K σ
 |_=>False
theorem lkpK_at (b:Nat) (s:ABi) (a:Mu) (d:Dw) (K:Sg->Prop) (σ:Sg):lkpK (.sc (.map (some b))) (.sc (.string s)) a d K σ=lkpV (a b) s d K σ:=(rfl)
theorem lkpV_mp (a:List (ABi×Value)) (s:ABi) (d:Dw) (K:Sg->Prop) (σ:Sg):lkpV (some (.mp a)) s d K σ=(Fl (Lq a s (.bool false))=true/\Cw (some d) (.sc (Lq a s (.bool false))) K σ):=(rfl)
def mupV (x:ABh MO) (b:Nat) (s:ABi) (u:Value) (μ:Mu) (K:Mu->Prop):Prop:=match x with
 |some (.mp es)=>es.all (λx=> !(x.1==s))=true/\K (DP μ b (some (.mp (iM es s u))))
 |_=>False
theorem mupK_at (b:Nat) (s:ABi) (u:Value) (a:Mu) (K:Mu->Prop):mupK (.sc (.map (some b))) (.sc (.string s)) (.sc u) a K=mupV (a b) b s u a K:=(rfl)
theorem mupV_mp (a:List (ABi×Value)) (b:Nat) (s:ABi) (u:Value) (c:Mu) (K:Mu->Prop):mupV (some (.mp a)) b s u c K=(a.all (λx=> !(x.1==s))=true/\K (DP c b (some (.mp (iM a s u))))):=(rfl)
theorem rngK_s (s:ABi) (d:Dw) (K:Sg->Mu->Prop) (σ:Sg) (a:Mu):rngK (.sc (.string s)) d K σ a=∀b,a b=none->Cw (some d) (.sc (.pointer (some ⟨b,0,none⟩))) (λσ'=>K σ' (DP a b (some (.it s 0)))) σ:=(rfl)
def nxtV (x:ABh MO) (b:Nat) (d:Dw) (K:Sg->Mu->Prop) (σ:Sg) (μ:Mu):Prop:=match x with
 |some (.it s pos)=>if pos<s.size then Cw (some d) (.BT [.sc (.bool true),.sc (.int .i64 pos),.sc (.int .i32 (Utf8.decode s pos).1)]) (λσ'=>K σ' (DP μ b (some (.it s (pos+(Utf8.decode s pos).2))))) σ
  else Cw (some d) (.BT [.sc (.bool false)]) (λσ'=>K σ' μ) σ
 |_=>False
theorem nxtK_at (b:Nat) (d:Dw) (K:Sg->Mu->Prop) (σ:Sg) (a:Mu):nxtK (.sc (.pointer (some ⟨b,0,none⟩))) d K σ a=nxtV (a b) b d K σ a:=(rfl)
theorem Gq {s:ABi} {pos:Nat} (b:Nat) (d:Dw) (K:Sg->Mu->Prop) (σ:Sg) (a:Mu) (h:pos<s.size):nxtV (some (.it s pos)) b d K σ a=Cw (some d) (.BT [.sc (.bool true),.sc (.int .i64 pos),.sc (.int .i32 (Utf8.decode s pos).1)]) (λσ'=>K σ' (DP a b (some (.it s (pos+(Utf8.decode s pos).2))))) σ:=by simp[nxtV,h]
theorem FZ {s:ABi} {pos:Nat} (b:Nat) (d:Dw) (K:Sg->Mu->Prop) (σ:Sg) (a:Mu) (h:¬pos<s.size):nxtV (some (.it s pos)) b d K σ a=Cw (some d) (.BT [.sc (.bool false)]) (λσ'=>K σ' a) σ:=by simp[nxtV,h]
theorem qF {a:X1} {Q:Exit->Sg->Mu->Prop} {σ:Sg} {f:Mu} (I:Nat->Sg->Mu->Prop) (n:Nat) (h:I n σ f)
 (b:∀n τ g,I n τ g->IX P G a (Exit.Xd (λd c=>∃e,e<n/\I e d c) Q) τ g):IX P G (.loop a) Q σ f:=⟨I,⟨n,h⟩,b⟩
attribute [go_sem] awpM_ic qH cK V4 jD fJ tW seqM_ret X4 UB jH ams_nil ams_x ams_mkm ams_lkp ams_mup ams_rng ams_nxt gM_some lkpK_at lkpV_mp mupK_at mupV_mp rngK_s nxtK_at
end Go.Abs
namespace Go.Abs
open Go.Proofs Go.Sort Go.RowKit
variable {P:Program}
theorem Zn {f g:Nat} {q:Int->Int->Bool}
 (B:∀(lb:Array Value) (p:Int->Bool) (s off cap:Nat) (d:Array Int) (w:World),PredAt P g lb (Value.int .i64) p w->PredOver P g lb (Value.int .i64) p s off d.size w->Holds (Value.int .i64) w s off d->d.size≤9223372036854775807->d.size≤cap->
  Calls P f #[.slice (some ⟨s,off,none⟩) d.size cap,.func (.func g) #[] lb] w λe w'=>e= .returned (.slice (some ⟨s,off,none⟩) (d.toList.filter λx=> !p x).length cap)/\∃q,w'=putRow (Value.int .i64) (Sort.ahead w q) s off ((d.toList.filter λx=> !p x)++List.replicate (d.size-(d.toList.filter λx=> !p x).length) (0:Int)).toArray)
 (o:∀(b off:Nat) (n x:Int) (W:World),W.cell? ⟨b,off,none⟩=some (.int .i64 n)->FnGives P g #[.pointer (some ⟨b,off,none⟩)] #[.int .i64 x] (.bool (q n x)) W)
 (zs:List Int) (n:Int) (Mj:zs≠[]) (hl:zs.length<4611686018427387904):Says P f [.own false 1 (ints zs),.kN g [[si n]]] (.own false 1 (ints (zs.filter λx=> !q n x))):=by
 intro w S ds F _ G L R;obtain⟨d,e,rfl⟩:∃d e,ds=[d,e]:=by
  have D:ds.length=2:=by simpa using congrArg List.length G
  clear G L
  match ds,D with
  |[d,e],_=>exact⟨d,e,rfl⟩
 simp only[AAb,AAy,ABc,and_true]at G;obtain⟨hd,C⟩:=G;obtain⟨F1,F2,h1,⟨F3,F4,h3,h4,_,h6⟩,C4,h5⟩:=BK.1 L;obtain⟨v,rfl⟩:∃v,e= .lf (.kN g [[si n]]) v:=by
  cases e with
  |lf a v=>rw[El]at C;exact⟨v,by rw[C]⟩
  |own=>simp at C
  |agg=>simp at C
  |BT=>simp at C
 cases h3 with
 |lf _ _ _ bH hF3=>
 obtain⟨vs,rfl,K,I⟩:=bH;obtain⟨u,rfl⟩:∃u,vs=[u]:=by
  match vs,K with
  |[u],_=>exact⟨u,rfl⟩
 obtain⟨j,k,rfl,l,Z⟩:=I 0 [si n] u rfl rfl;obtain⟨u',X,My⟩:=Z 0 (si n) rfl;cases My;have O:=R j l;rcases W5 h1 hd with⟨H,rfl,Jl⟩|⟨b,c,arr,E,H,T,hc,QY,M,hz,N⟩
 . exact absurd rfl Mj
 . have t:j≠b:=λe=>M (e▸l);have Q:∀x,F x↔F1 x:=λx=>by
    rw[h5 x];refine⟨λh=>h.elim id λh=> ?_,.inl⟩;rcases(h6 x).1 h with h|h
    . exact absurd h (hF3 x)
    . exact absurd h (h4 x)
   simp only[AAb,AAy,H,Ke];have hp:PredAt P g #[.pointer (some ⟨j,k,none⟩)] (Value.int .i64) (q n) w:=λW x hB=>o j k n x W (by rw[hB.cell (p:=⟨j,k,none⟩) O];exact X);have J:PredOver P g #[.pointer (some ⟨j,k,none⟩)] (Value.int .i64) (q n) b 0 zs.toArray.size w:=λm os dk x hdk=>o j k n x _ (by rw[World.cell?_of_block (w:=w) (a:=⟨j,k,none⟩) (by show(sortWorld _ w b 0 m dk os).heap[j]? =w.heap[j]?;unfold sortWorld;rw[heap_grow_old _ _ (by simpa[putRow,mapBlock,Sort.ahead]using O)];simp[putRow,mapBlock,Sort.ahead,ABW,Ne.symm t])];exact X);refine(B #[.pointer (some ⟨j,k,none⟩)] (q n) b 0 c zs.toArray w hp J (Qy T hz) (by simpa using by omega) (by simpa using QY)).mono ?_;rintro e w' ⟨rfl,m,rfl⟩;simp only[ABe]at*;have hle:(zs.filter λx=> !q n x).length≤zs.length:=List.length_filter_le ..;have Gu:((zs.filter λx=> !q n x)++List.replicate (zs.length-(zs.filter λx=> !q n x).length) (0:Int)).length=zs.length:=(by simp;omega);have U:=WY (n:=m) (os:= #[]) ((zs.filter λx=> !q n x)++List.replicate (zs.length-(zs.filter λx=> !q n x).length) 0).toArray T;have r:=Zt (w:=w) (n:=m) (os:= #[]) (g:=b) (F:=F) ((zs.filter λx=> !q n x)++List.replicate (zs.length-(zs.filter λx=> !q n x).length) 0).toArray ((Q b).2 ((N b).2 rfl));rw[grow_empty]at U r;obtain⟨d',k1,k2,k3⟩:=Z7 (S:=S) (c:=c) (zs:=zs.filter λx=> !q n x) U (by simp[putCells,hc]) (by omega) M (λi z hi=>lT ((zs.filter λx=> !q n x)++List.replicate (zs.length-(zs.filter λx=> !q n x).length) 0) (by rw[Gu];omega) i z (by rw[AAf (AAI.1 hi).1];exact hi));refine⟨d',[.lf .dead d.A0,.lf .dead (.func (.func g) #[] #[.pointer (some ⟨j,k,none⟩)])],S,λx=>x=b,by rw[k2],k1,by simp,by simp[H],?_,r,λ_ h=>h,λ_ h=>.inl h,λx r=> ?_,λx r=>.inl ((Q x).2 ((N x).2 r))⟩
   . refine BK.2 ⟨_,λ_=>False,k3,Ca λy V=> ?_,λ_ _ h=>h,λx=>by simp⟩;simp only[AAg,ABJ,ABQ]at V;rcases V with rfl|rfl<;>exact .lf _ _ _ trivial (λ_ h=>h)
   . have:=R x r;simpa[putRow,mapBlock,Sort.ahead]using this
end Go.Abs
