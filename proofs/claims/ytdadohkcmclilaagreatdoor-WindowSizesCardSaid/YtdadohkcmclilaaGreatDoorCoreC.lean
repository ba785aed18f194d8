/- A calculus of abstract states of Go memory, and that it is sound. -/
import Derived.Test.YtdadohkcmclilaaGreatDoorCoreB
import Derived.Laws.Sem
import Derived.Sort.Grow
import Derived.Lib.SlicesCompact
import Derived.IntWalk
import Derived.MapKept
import Derived.Lib.OthersKept
import Derived.Shelf.GgClosure.Gives
import Derived.Shelf.Slices.SearchI
set_option linter.unusedSimpArgs false
set_option linter.unusedVariables false
namespace Go.Abs
variable {G:Gi} {P:Program} {w:World}
def sC (l:List Nat):Nat:=l.foldr (λs m=>m |||2^s) 0
theorem lL {l:List Nat} {s:Nat} (h:s∈l):(sC l).testBit s=true:=by
 induction l with
 |nil=>cases h
 |cons a l ih=>
  simp only[sC,List.foldr_cons,Nat.testBit_or,AAx]
  simp only[AAp]at h
  rcases h with rfl|h
  . exact .inr (by simp)
  . exact .inl (ih h)
theorem Yg {a b:List Nat} (h:sC a &&& sC b=0) {s:Nat} (ha:s∈a) (hb:s∈b):False:=by
 have:(sC a &&& sC b).testBit s=true:=by rw[Nat.testBit_and,lL ha,lL hb];rfl
 rw[h]at this
 simp at this
def bef (M:List Nat) (o:Oper):Nat:=o.after.toList.foldr (λe s=>if Region.binds .any e=true then s |||2^e.on |||M.getD e.on 0 else s) 0
theorem bef_bit {M:List Nat} {o:Oper} {i:Nat} (h:(bef M o).testBit i=true):∃e∈o.after.toList,Region.binds .any e=true/\(e.on=i∨(M.getD e.on 0).testBit i=true):=by
 unfold bef at h
 generalize o.after.toList=l at h
 induction l with
 |nil=>simp at h
 |cons e l ih=>
  simp only[List.foldr_cons]at h
  split at h
  . rename_i hb
    simp only[Nat.testBit_or,AAx]at h
    rcases h with(h|h)|h
    . obtain⟨e',h1,h2⟩:=ih h;exact⟨e',by simp[h1],h2⟩
    . exact⟨e,by simp,hb,.inl (by simpa[Nat.testBit_two_pow]using h)⟩
    . exact⟨e,by simp,hb,.inr h⟩
  . obtain⟨e',h1,h2⟩:=ih h;exact⟨e',by simp[h1],h2⟩
def UK:List Oper->List Nat->List Nat
 |[],M=>M
 |o::os,M=>UK os (M++[bef M o])
def RN (M Ws Rs:List Nat) (j:Nat):Nat->Bool
 |0=>true
 |i+1=>((Ws.getD i 0 &&& Rs.getD j 0==0&&Rs.getD i 0 &&& Ws.getD j 0==0)||(M.getD j 0).testBit i)&&RN M Ws Rs j i
theorem Xd {M Ws Rs:List Nat} {j n:Nat} (h:RN M Ws Rs j n=true):∀i,i<n->(Ws.getD i 0 &&& Rs.getD j 0=0/\Rs.getD i 0 &&& Ws.getD j 0=0)∨(M.getD j 0).testBit i=true:=by
 induction n with
 |zero=>intro i hi;omega
 |succ n ih=>
  simp only[RN,AAP,AAx,AAd]at h
  intro i hi
  by_cases e:i=n
  . subst e;exact h.1
  . exact ih h.2 i (by omega)
def VB (M Ws Rs:List Nat):Nat->List Oper->Bool
 |_,[]=>true
 |j,o::os=>M.getD j 0==bef M o&&(o.after.toList.all λe=> !Region.binds .any e||decide (e.on<j))&&RN M Ws Rs j j&&VB M Ws Rs (j+1) os
theorem ZP {M Ws Rs:List Nat} (os:List Oper):∀{j0:Nat},VB M Ws Rs j0 os=true->∀i o,os[i]? =some o->M.getD (j0+i) 0=bef M o/\(∀e∈o.after.toList,Region.binds .any e=true->e.on<j0+i)/\∀x,x<j0+i->(Ws.getD x 0 &&& Rs.getD (j0+i) 0=0/\Rs.getD x 0 &&& Ws.getD (j0+i) 0=0)∨(M.getD (j0+i) 0).testBit x=true:=by
 induction os with
 |nil=>intro j0 _ i o h;simp at h
 |cons o os ih=>
  intro j0 h i o' ho
  simp only[VB,AAP,AAd,AAU,AAx,ABU,AAf]at h
  obtain⟨⟨⟨h1,h2⟩,h3⟩,h4⟩:=h
  cases i with
  |zero=>
   simp only[AAw,AAN]at ho
   subst ho
   refine⟨h1,λe he hb=>(h2 e he).resolve_left (by simp[hb]),Xd h3⟩
  |succ i=>
   simp only[ABA]at ho
   have:=ih h4 i o' ho
   rw[show j0+1+i=j0+(i+1)from by omega]at this
   exact this
def wOf (G:Gi) (DE:List BH) (j:Nat):List Nat:=match DE[j]? with|some o=>RC G o|none=>[]
theorem nM {n:Nat} {all:Array Oper} (os:List Oper):∀{DE:List BH},K1 P G n all os DE=true->os.length=DE.length/\∀(i:Nat) o io,os[i]? =some o->DE[i]? =some io->Ga P G n all o io=true:=by
 induction os with
 |nil=>intro DE h;cases DE<;>simp[K1]at h ⊢
 |cons o os ih=>
  intro DE h
  cases DE with
  |nil=>simp[K1]at h
  |cons io DE=>
   simp only[K1,AAP]at h
   obtain⟨g1,g2⟩:=ih h.2
   refine⟨by simp[g1],?_⟩
   intro i o' io' h1 h2
   cases i with
   |zero=>simp only[AAw,AAN]at h1 h2;subst h1;subst h2;exact h.1
   |succ i=>exact g2 i o' io' h1 h2
theorem nQ {p p':Nat->Bool} (h:∀j,p' j=true->p j=true) {i:Nat} (h1:p i=true) (h2:p' i=false):∀N,i<N->(List.range N).countP p'<(List.range N).countP p:=by
 have le:∀N,(List.range N).countP p'≤(List.range N).countP p:=λN=>List.countP_mono_left (λj _=>h j)
 intro N
 induction N with
 |zero=>intro h;omega
 |succ N ih=>
  intro hi
  rw[List.range_succ,List.countP_append,List.countP_append]
  by_cases e:i=N
  . subst e
    have:=le i
    simp[h1,h2]
    omega
  . have h3:=ih (by omega)
    have:(List.countP p' [N])≤List.countP p [N]:=List.countP_mono_left (λj _=>h j)
    omega
theorem Vg {n:Nat} {all:Array Oper} {o:Oper} {io:BH} (h:Ga P G n all o io=true):∀d,io.dst=some d->d.rs=G.GJ d.d:=by
 intro d hd
 simp only[Ga,AAP]at h
 have h1:=h.1.1
 rw[hd]at h1
 cases ho:o.dst with
 |none=>rw[ho]at h1;simp[DX]at h1
 |some t=>rw[ho]at h1;simp only[DX,AAP,AAd]at h1;exact h1.1.2
mutual
def NL:AV->AV
 | .sc _=>.un
 | .own b k rows=>.own b k (qN rows)
 | .agg cs=>.agg (iX cs)
 | .BJ cs=>.BJ (iX cs)
 |a=>a
def iX:List AV->List AV
 |[]=>[]
 |a::r=>NL a::iX r
def qN:List (List AV)->List (List AV)
 |[]=>[]
 |a::r=>iX a::qN r
end
theorem iY (l:List AV):iX l=l.map NL:=by
 induction l with
 |nil=>rfl
 |cons a r ih=>simp[iX,ih]
theorem Zb (l:List (List AV)):qN l=l.map iX:=by
 induction l with
 |nil=>rfl
 |cons a r ih=>simp[qN,ih]
def Hs:AV->AV
 | .sc v=>.sc v
 |a=>NL a
theorem Ss {a a':AV} (h:Hs a'=Hs a):NL a'=NL a:=by
 cases a<;>cases a'<;>simp only[Hs,NL]at h ⊢ <;>first|rfl|exact h|cases h
theorem Ll {a a':AV} (h:Hs a'=Hs a) (ht:match a with| .own .. | .agg _| .BJ _=>False|_=>True):a'=a:=by
 cases a<;>first|exact ht.elim| (cases a'<;>simp only[Hs,NL]at h<;>first|rfl|exact h|cases h)
theorem Sr {a:AV} {b:Bool} {k:Nat} {rows:List (List AV)} (h:NL a= .own b k rows):∃rows',a= .own b k rows'/\qN rows'=rows:=by
 cases a<;>simp only[NL]at h<;>first| (cases h;done)| (cases h;exact⟨_,rfl,rfl⟩)
theorem skC_sl {a:AV} {b:Bool} {k:Nat} {rows:List (List AV)} (h:NL a= .sl b k rows):a= .sl b k rows:=by
 cases a<;>simp only[NL]at h<;>first|exact h|cases h
theorem lW {r r':List (List AV)} (h:qN r'=qN r):r'.length=r.length:=by
 have:=congrArg List.length h;simpa[Zb]using this
theorem zR {r r':List (List AV)} (h:qN r'=qN r) (i:Nat):(r'[i]?).map iX=(r[i]?).map iX:=by
 have:=congrArg (·[i]?) h;simpa[Zb]using this
theorem zQ {r r':List AV} (h:iX r'=iX r) (i:Nat):(r'[i]?).map NL=(r[i]?).map NL:=by
 have:=congrArg (·[i]?) h;simpa[iY]using this
theorem zX (p:List Step):∀{a a':AV},NL a'=NL a->(sub a' p).map NL=(sub a p).map NL:=by
 induction p with
 |nil=>intro a a' h;simp[sub,h]
 |cons s p ih=>
  obtain⟨i,j,k0⟩:=s
  intro a a' h
  have lst:∀{cs u6:List AV},iX u6=iX cs->(match u6[j]? with|some c=>sub c p|none=>none).map NL=(match cs[j]? with|some c=>sub c p|none=>none).map NL:=by
   intro cs u6 hc
   have:=zQ hc j
   cases h1:cs[j]? with
   |none=>rw[h1]at this;simp at this;simp[this]
   |some c=>
    rw[h1]at this
    simp only[Option.map_some]at this
    obtain⟨c',h2,h3⟩:=Option.map_eq_some_iff.1 this
    simp only[h2];exact ih h3
  cases a with
  |own b k rows=>
   obtain⟨rows',rfl,hr⟩:=Sr h
   simp only[sub]
   have:=zR hr i
   cases h1:rows[i]? with
   |none=>rw[h1]at this;simp at this;simp[this]
   |some row=>
    rw[h1]at this
    simp only[Option.map_some]at this
    obtain⟨row',h2,h3⟩:=Option.map_eq_some_iff.1 this
    simp only[h2];exact lst h3
  |agg cs=>cases a'<;>simp only[NL,AV.agg.injEq,reduceCtorEq]at h;simp only[sub];exact lst h
  |BJ cs=>cases a'<;>simp only[NL,AV.BJ.injEq,reduceCtorEq]at h;simp only[sub];exact lst h
  |_=>cases a'<;>simp only[NL]at h<;>first|rfl|cases h
theorem put_sk (q:List Step):∀{a t:AV} {u0 u:Value},sub a q=some (.sc u0)->put a q (.sc u)=some t->NL t=NL a:=by
 induction q with
 |nil=>intro a t u0 u h1 h2;simp only[sub,Option.some.injEq]at h1;simp only[put,Option.some.injEq]at h2;subst h1;subst h2;rfl
 |cons s q ih=>
  obtain⟨i,j,k0⟩:=s
  have lst:∀{cs:List AV} {c c':AV},cs[j]? =some c->NL c'=NL c->iX (cs.set j c')=iX cs:=by
   intro cs c c' h1 h2
   rw[iY,iY,List.map_set,h2]
   obtain⟨hj,rfl⟩:=List.getElem?_eq_some_iff.1 h1
   apply List.ext_getElem?;intro m
   rw[List.getElem?_set]
   split
   . rename_i hm;subst hm;simp[hj]
   . rfl
  intro a t u0 u h1 h2
  cases a with
  |own b k rows=>
   simp only[sub]at h1
   simp only[put]at h2
   cases hr:rows[i]? with
   |none=>rw[hr]at h1;cases h1
   |some row=>
    rw[hr]at h1 h2
    simp only at h1 h2
    cases hc:row[j]? with
    |none=>rw[hc]at h1;cases h1
    |some c=>
     rw[hc]at h1 h2
     simp only at h1 h2
     cases hp:put c q (.sc u)with
     |none=>rw[hp]at h2;cases h2
     |some c'=>
      rw[hp]at h2
      obtain rfl:=Option.some.inj h2
      simp only[NL,AV.own.injEq,true_and]
      rw[Zb,Zb,List.map_set,lst hc (ih h1 hp)]
      obtain⟨hi,rfl⟩:=List.getElem?_eq_some_iff.1 hr
      apply List.ext_getElem?;intro m
      rw[List.getElem?_set]
      split
      . rename_i hm;subst hm;simp[hi]
      . rfl
  |agg cs=>
   simp only[sub]at h1
   simp only[put]at h2
   cases hc:cs[j]? with
   |none=>rw[hc]at h1;cases h1
   |some c=>
    rw[hc]at h1 h2
    simp only at h1 h2
    cases hp:put c q (.sc u)with
    |none=>rw[hp]at h2;cases h2
    |some c'=>
     rw[hp]at h2
     obtain rfl:=Option.some.inj h2
     simp only[NL,AV.agg.injEq]
     exact lst hc (ih h1 hp)
  |BJ cs=>
   simp only[sub]at h1
   simp only[put]at h2
   cases hc:cs[j]? with
   |none=>rw[hc]at h1;cases h1
   |some c=>
    rw[hc]at h1 h2
    simp only at h1 h2
    cases hp:put c q (.sc u)with
    |none=>rw[hp]at h2;cases h2
    |some c'=>
     rw[hp]at h2
     obtain rfl:=Option.some.inj h2
     simp only[NL,AV.BJ.injEq]
     exact lst hc (ih h1 hp)
  |_=>simp[sub]at h1
theorem zY (p:List Step):∀{a:AV} {b:Bool} {k:Nat} {rows:List (List AV)} {row:List AV} {c:AV} {i j k':Nat},sub a p=some (.own b k rows)->rows[i]? =some row->row[j]? =some c->sub a (p++[(i,j,k')])=some c:=by
 induction p with
 |nil=>intro a b k rows row c i j k' h h1 h2;simp only[sub,Option.some.injEq]at h;subst h;simp[sub,h1,h2]
 |cons s p ih=>
  obtain⟨i0,j0,k0⟩:=s
  intro a b k rows row c i j k' h h1 h2
  cases a with
  |own b0 k1 KT=>
   simp only[List.cons_append,sub]at h ⊢
   cases hr:KT[i0]? with
   |none=>rw[hr]at h;cases h
   |some r0=>
    rw[hr]at h;simp only at h ⊢
    cases hc:r0[j0]? with
    |none=>rw[hc]at h;cases h
    |some c0=>rw[hc]at h;exact ih h h1 h2
  |agg cs=>
   simp only[List.cons_append,sub]at h ⊢
   cases hc:cs[j0]? with
   |none=>rw[hc]at h;cases h
   |some c0=>rw[hc]at h;exact ih h h1 h2
  |BJ cs=>
   simp only[List.cons_append,sub]at h ⊢
   cases hc:cs[j0]? with
   |none=>rw[hc]at h;cases h
   |some c0=>rw[hc]at h;exact ih h h1 h2
  |_=>simp[sub]at h
def SkA (G:Gi) (σ σ':Sg):Ar->Prop
 | .t s=>(∀r∈FQ G (.t s),Hs (σ' r)=Hs (σ r))/\E9 (G.GJ s) (σ s)=true
 | .c _=>True
theorem Zf {a a':AV} {p:List Step} (h:Hs a'=Hs a) {b:Bool} {k:Nat} {rows:List (List AV)} (hs:sub a p=some (.own b k rows)):∃rows',sub a' p=some (.own b k rows')/\qN rows'=qN rows:=by
 have:=zX p (Ss h)
 rw[hs]at this
 simp only[Option.map_some,NL]at this
 obtain⟨c,h1,h2⟩:=Option.map_eq_some_iff.1 this
 obtain⟨rows',rfl,h3⟩:=Sr h2
 exact⟨rows',h1,h3⟩
theorem sub_slS {a a':AV} {p:List Step} (h:Hs a'=Hs a) {b:Bool} {k:Nat} {rows:List (List AV)} (hs:sub a p=some (.sl b k rows)):sub a' p=some (.sl b k rows):=by
 have:=zX p (Ss h)
 rw[hs]at this
 simp only[Option.map_some,NL]at this
 obtain⟨c,h1,h2⟩:=Option.map_eq_some_iff.1 this
 rw[skC_sl h2]at h1
 exact h1
theorem Z7 {σ σ':Sg} {x:Ar} (h:SkA G σ σ' x) {v:Nat×List Step×Nat×Nat×Nat} (hv:Dr σ x=some v):Dr σ' x=some v/\Hs (σ' v.1)=Hs (σ v.1):=by
 cases x with
 |c=>cases hv
 |t s=>
  obtain⟨hk,IW⟩:=h
  have h0:=hk s (by simp[FQ])
  simp only[Dr]at hv ⊢
  cases hs:σ s with
  |own b k rows=>
   rw[hs]at hv h0
   obtain⟨rows',Fl,_⟩:=Sr (show NL (σ' s)= .own b k (qN rows)from by have:=Ss h0;simpa[NL]using this)
   rw[Fl]
   cases b with
   |false=>cases hv
   |true=>
    simp only[Option.some.injEq]at hv ⊢
    subst hv
    exact⟨rfl,by simpa[hs,Fl]using h0⟩
  |al r p=>
   rw[hs]at hv h0 IW
   have e:=Ll h0 trivial
   rw[e]
   simp only[JY,List.contains_iff_mem]at IW
   have hr:=hk r (by simp[FQ,IW])
   simp only at hv ⊢
   split at hv
   . rename_i k rows Bb
     obtain⟨rows',g1,_⟩:=Zf hr Bb
     rw[g1]
     simp only[Option.some.injEq]at hv ⊢
     subst hv
     exact⟨rfl,hr⟩
   . cases hv
  |KG r p i j k=>
   rw[hs]at hv h0 IW
   have e:=Ll h0 trivial
   rw[e]
   simp only[VE,List.contains_iff_mem]at IW
   have hr:=hk r (by simp[FQ,IW])
   simp only[Option.some.injEq]at hv ⊢
   subst hv
   exact⟨rfl,hr⟩
  |_=>rw[hs]at hv;cases hv
theorem sk_fad {σ σ':Sg} {off:Nat} {x:Ar} (h:SkA G σ σ' x) {v:AV} (hv:valOf (.Tu off x) σ=some v):valOf (.Tu off x) σ'=some v:=by
 cases x with
 |c=>cases hv
 |t s=>
  have h0:=h.1 s (by simp[FQ])
  simp only[valOf]at hv ⊢
  cases hs:σ s with
  |fp cs=>rw[hs]at hv h0;rw[Ll h0 trivial];exact hv
  |vb q o us=>rw[hs]at hv h0;rw[Ll h0 trivial];exact hv
  |_=>
   rw[hs]at hv
   simp only at hv
   cases ha:Dr σ (.t s)with
   |none=>rw[ha]at hv;cases hv
   |some q=>
    rw[ha]at hv
    obtain⟨g1,_⟩:=Z7 h ha
    have hn:∀cs,σ' s≠ .fp cs:=λcs e=>by rw[e,hs]at h0;simp[Hs,NL]at h0
    have hn2:∀q o us,σ' s≠ .vb q o us:=λq o us e=>by rw[e,hs]at h0;simp[Hs,NL]at h0
    cases Fl:σ' s with
    |fp cs=>exact absurd Fl (hn cs)
    |vb q o us=>exact absurd Fl (hn2 q o us)
    |_=>simp only[g1];exact hv
theorem sk_lda {σ σ':Sg} {x:Ar} (h:SkA G σ σ' x) {v:AV} (hv:valOf (.WM x) σ=some v):valOf (.WM x) σ'=some v:=by
 simp only[valOf]at hv ⊢
 split at hv
 . rename_i r p i j k ha
   obtain⟨g1,g2⟩:=Z7 h ha
   rw[g1]
   simp only at g2 ⊢
   split at hv
   . rename_i b k' rows Bb
     obtain⟨rows',g3,g4⟩:=Zf g2 Bb
     rw[g3]
     simp only
     split at hv
     . rename_i row hr
       have:=zR g4 i
       rw[hr]at this
       obtain⟨row',g5,g6⟩:=Option.map_eq_some_iff.1 this
       rw[g5]
       simp only
       split at hv
       . rename_i b2 k2 IL hc
         have:=zQ g6 j
         rw[hc]at this
         simp only[Option.map_some,NL]at this
         obtain⟨c',g7,g8⟩:=Option.map_eq_some_iff.1 this
         obtain⟨rows3,rfl,_⟩:=Sr g8
         rw[g7]
         exact hv
       . cases hv
     . cases hv
   . cases hv
 . cases hv
theorem sk_iad {σ σ':Sg} {k:Nat} {x i:Ar} (h:SkA G σ σ' x) (h2:SkA G σ σ' i) {v:AV} (hv:valOf (.VA k x i) σ=some v):valOf (.VA k x i) σ'=some v:=by
 simp only[valOf]at hv ⊢
 have hi:∀n,eT (ar σ i)=some n->eT (ar σ' i)=some n:=by
  intro n hn
  cases i with
  |c=>exact hn
  |t s=>
   have h0:=h2.1 s (by simp[FQ])
   simp only[ar]at hn ⊢
   cases hs:σ s with
   |sc u=>rw[hs]at hn h0;rw[Ll h0 trivial];exact hn
   |_=>rw[hs]at hn;cases hn
 split at hv
 . rename_i k' rows r p n hh hn
   rw[hi n hn]
   have:∃rows',hd σ' x=some (.own false k' rows',some (r,p))/\rows'.length=rows.length:=by
    cases x with
    |c a=>cases a<;>simp[hd]at hh
    |t s=>
     have h0:=h.1 s (by simp[FQ])
     have IW:=h.2
     simp only[hd]at hh ⊢
     cases hs:σ s with
     |own b0 k0 KT=>
      rw[hs]at hh h0
      simp only[Option.some.injEq,Prod.mk.injEq,AV.own.injEq]at hh
      obtain⟨⟨rfl,rfl,rfl⟩,rfl,rfl⟩:=hh
      obtain⟨rows',Fl,hk⟩:=Sr (show NL (σ' s)= .own false k0 (qN KT)from by have:=Ss h0;simpa[NL]using this)
      rw[Fl]
      exact⟨rows',rfl,lW hk⟩
     |al r0 p0=>
      rw[hs]at hh h0 IW
      rw[Ll h0 trivial]
      simp only[JY,List.contains_iff_mem]at IW
      have hr:=h.1 r0 (by simp[FQ,IW])
      simp only at hh ⊢
      split at hh
      . rename_i m hm
        simp only[Option.some.injEq,Prod.mk.injEq]at hh
        obtain⟨rfl,rfl,rfl⟩:=hh
        obtain⟨rows',g1,g2⟩:=Zf hr hm
        rw[g1]
        exact⟨rows',rfl,lW g2⟩
      . cases hh
     |_=>rw[hs]at hh;simp at hh
   obtain⟨rows',g1,g2⟩:=this
   rw[g1]
   simp only[g2]
   exact hv
 . rename_i b k' rows o n hh hn
   rw[hi n hn]
   have:∃o',hd σ' x=some (.sl b k' rows,o'):=by
    cases x with
    |c a=>cases a<;>simp[hd]at hh
    |t s=>
     have h0:=h.1 s (by simp[FQ])
     have IW:=h.2
     simp only[hd]at hh ⊢
     cases hs:σ s with
     |sl b0 k0 KT=>rw[hs]at hh h0;rw[Ll h0 trivial];simp only[Option.some.injEq,Prod.mk.injEq]at hh;exact⟨none,by rw[hh.1]⟩
     |al r0 p0=>
      rw[hs]at hh h0 IW
      rw[Ll h0 trivial]
      simp only[JY,List.contains_iff_mem]at IW
      have hr:=h.1 r0 (by simp[FQ,IW])
      simp only at hh ⊢
      split at hh
      . rename_i m hm
        simp only[Option.some.injEq,Prod.mk.injEq]at hh
        obtain⟨rfl,_⟩:=hh
        rw[sub_slS hr hm]
        exact⟨_,rfl⟩
      . cases hh
     |_=>rw[hs]at hh;simp at hh
   obtain⟨o',g1⟩:=this
   rw[g1]
   exact hv
 . cases hv
def W2 (G:Gi) (o:BH):List Nat:=match o.op,o.guard,o.dst with
 | .VG a _,none,none=>(FQ G a).map λs=>2*s+1
 |_,_,_=>(RC G o).flatMap λs=>[2*s,2*s+1]
def R2 (G:Gi) (o:BH):List Nat:=W2 G o++(match o.op,o.guard,o.dst with
 | .VG _ v,none,none=>(FQ G v).map λs=>2*s+1
 | .Tu _ x,none,some _=>(FQ G x).map λs=>2*s
 | .WM x,none,some _=>(FQ G x).map λs=>2*s
 | .VA _ x i,none,some _=>(FQ G x++FQ G i).map λs=>2*s
 |_,_,_=>(ZV G o).map λs=>2*s+1)
theorem NA {l:List Nat} {s:Nat}:2*s+1∈(l.flatMap λs=>[2*s,2*s+1])↔s∈l:=by
 simp only[List.mem_flatMap,List.mem_cons,List.not_mem_nil,or_false]
 exact⟨λ⟨a,h1,h2⟩=>(show a=s by omega)▸h1,λh=>⟨s,h,.inr rfl⟩⟩
theorem bW {l:List Nat} {s:Nat}:2*s∈(l.flatMap λs=>[2*s,2*s+1])↔s∈l:=by
 simp only[List.mem_flatMap,List.mem_cons,List.not_mem_nil,or_false]
 exact⟨λ⟨a,h1,h2⟩=>(show a=s by omega)▸h1,λh=>⟨s,h,.inl rfl⟩⟩
theorem Pa {kl:List Nat} {d:Nat} {σ:Sg} (s:Nat):JA kl d σ s=if s∈kl then C8 d (σ s)else σ s:=by
 unfold JA;cases kl<;>simp
theorem wr_both {d:Dg} {v:AV} {σ σ' τ:Sg} (hk:∀s∈d.kl,σ' s=σ s) (he:wr d v σ=some τ):∃τ',wr d v σ'=some τ'/\(∀s∈d.d::d.kl,τ' s=τ s)/\∀s,s∉d.d::d.kl->τ' s=σ' s:=by
 unfold wr at he ⊢
 split at he
 . rename_i hr
   obtain rfl:=Option.some.inj he
   rw[if_pos hr]
   refine⟨_,rfl,λs hs=> ?_,λs hs=> ?_⟩
   . by_cases e:s=d.d
     . subst e;simp[C1]
     . have:s∈d.kl:=by simpa[e]using hs
       rw[BN _ _ e,BN _ _ e,Pa,Pa,hk s this]
   . simp only[List.mem_cons,not_or]at hs
     rw[BN _ _ hs.1,Pa,if_neg hs.2]
 . cases he
theorem eO {σ σ' τ:Sg} {o:BH} (hc:OK o=true) (oV:∀d,o.dst=some d->d.rs=G.GJ d.d) (IW:∀s,E9 (G.GJ s) (σ s)=true) (hf:∀s,2*s+1∈R2 G o->σ' s=σ s) (hk:∀s,2*s∈R2 G o->Hs (σ' s)=Hs (σ s)) (he:KH P G o (· =τ) σ):
 ∃τ',KH P G o (· =τ') σ'/\(∀s,2*s+1∈W2 G o->τ' s=τ s)/\∀s,2*s+1∉W2 G o->τ' s=σ' s:=by
 have gen:W2 G o=((RC G o).flatMap λs=>[2*s,2*s+1])->(∀s,s∈ZV G o->2*s+1∈R2 G o)->∃τ',KH P G o (· =τ') σ'/\(∀s,2*s+1∈W2 G o->τ' s=τ s)/\∀s,2*s+1∉W2 G o->τ' s=σ' s:=by
  intro h1 h2
  obtain⟨τ',g1,g2⟩:=YC hc oV (⟨λs hs=>hf s (h2 s hs),λs _=>IW s⟩:Ag G (· ∈ZV G o) σ σ') he
  refine⟨τ',g1,λs hs=> ?_,λs hs=> ?_⟩
  . rw[h1,NA]at hs;exact g2.ag.eq s hs
  . rw[h1,NA]at hs;exact(g2.off s hs).1
 have value:∀d op,o=⟨some d,op,none⟩->takes op=[]->W2 G o=((RC G o).flatMap λs=>[2*s,2*s+1])->(∀K σ,Dp P G ⟨some d,op,none⟩ K σ=match(match valOf op σ with|some v=>wr d v σ|none=>none)with|some τ=>K τ|none=>False)->
  (∀v,valOf op σ=some v->valOf op σ'=some v)->∃τ',KH P G o (· =τ') σ'/\(∀s,2*s+1∈W2 G o->τ' s=τ s)/\∀s,2*s+1∉W2 G o->τ' s=σ' s:=by
  intro d op ho ht hw B8 BP
  have hws:RC G o=d.d::d.kl:=by subst ho;simp[RC,ht]
  subst ho
  simp only[KH]at he ⊢
  rw[B8]at he
  cases hv:valOf op σ with
  |none=>rw[hv]at he;exact he.elim
  |some v=>
   rw[hv]at he
   simp only at he
   cases hwv:wr d v σ with
   |none=>rw[hwv]at he;exact he.elim
   |some υ=>
    rw[hwv]at he
    simp only at he
    subst he
    obtain⟨τ',g1,g2,g3⟩:=wr_both (σ':=σ') (λs hs=>hf s (by simp only[R2,List.mem_append];left;rw[hw,NA,hws];simp[hs])) hwv
    refine⟨τ',?_,λs hs=> ?_,λs hs=> ?_⟩
    . rw[B8,BP v hv];simp only[g1]
    . rw[hw,NA,hws]at hs;exact g2 s hs
    . rw[hw,NA,hws]at hs;exact g3 s hs
 obtain⟨dst,op,guard⟩:=o
 have skA:∀x:Ar,(∀s∈FQ G x,2*s∈R2 G ⟨dst,op,guard⟩)->SkA G σ σ' x:=by
  intro x hx
  cases x with
  |c=>trivial
  |t s=>exact⟨λr hr=>hk r (hx r hr),IW s⟩
 cases guard with
 |some g=>exact gen (by cases op<;>rfl) (λs hs=>by cases op<;>(simp only[R2,List.mem_append,List.mem_map];exact .inr ⟨s,hs,rfl⟩))
 |none=>
  cases dst with
  |none=>
   cases op with
   |VG a v=>
    simp only[KH,Dp]at he ⊢
    have hv:ar σ' v=ar σ v:=by
     cases v with
     |c=>rfl
     |t s=>exact hf s (by simp[R2,FQ])
    have wT:∀s∈FQ G a,σ' s=σ s:=λs hs=>hf s (by simp only[R2,W2,List.mem_append,List.mem_map];exact .inl ⟨s,hs,rfl⟩)
    have wE:Ag G (· ∈FQ G a) σ σ':=⟨wT,λs _=>IW s⟩
    have JI:cOK a=true:=by simp only[OK,takes,Bool.and_eq_true,List.all_eq_true]at hc;exact hc.1 a (by simp)
    have oO:UH G (· ∈FQ G a) a:=by
     cases a with
     |c c=>exact JI
     |t s=>exact⟨by simp[FQ],λr hr=>by simp[FQ,hr]⟩
    split at he
    . rename_i υ hu
      subst he
      simp only[Fk]at hu ⊢
      rw[hv,wE.Dr oO]
      split at hu
      . rename_i u hu0
        split at hu
        . rename_i r p i j k ha
          have hr:r∈FQ G a:=wE.Mn oO ha
          rw[wT r hr]
          split at hu
          . rename_i b0 k0 rows Bb
            split at hu
            . rename_i row DZ
              split at hu
              . rename_i u0 hc0
                split at hu
                . rename_i t Bs
                  cases hu
                  refine⟨C1 σ' r t,rfl,λs hs=> ?_,λs hs=> ?_⟩
                  . have Fl:s∈FQ G a:=by
                     simp only[W2,List.mem_map]at hs
                     obtain⟨x,h1,h2⟩:=hs
                     have:x=s:=by omega
                     exact this▸h1
                    simp only[C1];split
                    . rfl
                    . exact wT s Fl
                  . have Fl:s≠r:=by
                     rintro rfl
                     apply hs
                     simp only[W2,List.mem_map];exact⟨s,hr,rfl⟩
                    rw[BN _ _ Fl]
                . cases hu
              . cases hu
            . cases hu
          . cases hu
        . cases hu
      . cases hu
    . exact he.elim
   |_=>exact gen rfl (λs hs=>by simp only[R2,List.mem_append,List.mem_map];exact .inr ⟨s,hs,rfl⟩)
  |some d=>
   cases op with
   |Tu off x=>exact value d _ rfl rfl rfl (λK σ=>rfl) (λv hv=>sk_fad (skA x λs hs=>by simp only[R2,List.mem_append,List.mem_map];exact .inr ⟨s,hs,rfl⟩) hv)
   |WM x=>exact value d _ rfl rfl rfl (λK σ=>rfl) (λv hv=>sk_lda (skA x λs hs=>by simp only[R2,List.mem_append,List.mem_map];exact .inr ⟨s,hs,rfl⟩) hv)
   |VA k x i=>exact value d _ rfl rfl rfl (λK σ=>rfl) (λv hv=>sk_iad (skA x λs hs=>by simp only[R2,List.mem_append,List.mem_map];exact .inr ⟨s,.inl hs,rfl⟩) (skA i λs hs=>by simp only[R2,List.mem_append,List.mem_map];exact .inr ⟨s,.inr hs,rfl⟩) hv)
   |_=>exact gen rfl (λs hs=>by simp only[R2,List.mem_append,List.mem_map];exact .inr ⟨s,hs,rfl⟩)
theorem VV {σ τ:Sg} {o:BH} (hc:OK o=true) (oV:∀d,o.dst=some d->d.rs=G.GJ d.d) (IW:∀s,E9 (G.GJ s) (σ s)=true) (he:KH P G o (· =τ) σ):
 (∀s,2*s+1∉W2 G o->τ s=σ s)/\(∀s,2*s∉W2 G o->Hs (τ s)=Hs (σ s))/\∀s,E9 (G.GJ s) (τ s)=true:=by
 have h0:=aop_off hc oV IW he
 have gen:W2 G o=((RC G o).flatMap λs=>[2*s,2*s+1])->(∀s,2*s+1∉W2 G o->τ s=σ s)/\(∀s,2*s∉W2 G o->Hs (τ s)=Hs (σ s))/\∀s,E9 (G.GJ s) (τ s)=true:=by
  intro h1
  refine⟨λs hs=> ?_,λs hs=> ?_,h0.2⟩
  . rw[h1,NA]at hs;exact h0.1 s hs
  . rw[h1,bW]at hs;rw[h0.1 s hs]
 obtain⟨dst,op,guard⟩:=o
 cases guard with
 |some g=>exact gen (by cases op<;>rfl)
 |none=>
  cases dst with
  |some d=>exact gen (by cases op<;>rfl)
  |none=>
   cases op with
   |VG a v=>
    simp only[KH,Dp]at he
    split at he
    . rename_i υ hu
      subst he
      simp only[Fk]at hu
      split at hu
      . rename_i u hu0
        split at hu
        . rename_i r p i j k ha
          have JI:cOK a=true:=by simp only[OK,takes,Bool.and_eq_true,List.all_eq_true]at hc;exact hc.1 a (by simp)
          have wE:Ag G (· ∈FQ G a) σ σ:=⟨λ_ _=>rfl,λs _=>IW s⟩
          have oO:UH G (· ∈FQ G a) a:=by
           cases a with
           |c c=>exact JI
           |t s=>exact⟨by simp[FQ],λr hr=>by simp[FQ,hr]⟩
          have hr:r∈FQ G a:=wE.Mn oO ha
          split at hu
          . rename_i b0 k0 rows Bb
            split at hu
            . rename_i row DZ
              split at hu
              . rename_i u0 hc0
                split at hu
                . rename_i t Bs
                  cases hu
                  refine⟨λs hs=> ?_,λs _=> ?_,h0.2⟩
                  . rw[BN]
                    rintro rfl
                    apply hs
                    simp only[W2,List.mem_map];exact⟨s,hr,rfl⟩
                  . by_cases e:s=r
                    . subst e
                      rw[A6]
                      have h1:=put_sk _ (zY p Bb DZ hc0) Bs
                      have Np:∀u,σ s≠ .sc u:=λu e=>by
                       rw[e]at Bb
                       cases p with
                       |nil=>simp[sub]at Bb
                       |cons=>simp[sub]at Bb
                      have hnt:∀u,t≠ .sc u:=λu e=>by
                       subst e
                       cases hσ:σ s<;>rw[hσ]at h1 Bb<;>first|exact absurd hσ (Np _)| (cases p<;>simp[sub]at Bb;done)| (simp[NL]at h1;done)
                      cases hσ:σ s<;>first|exact absurd hσ (Np _)| (rw[hσ]at h1;cases t<;>first|exact absurd rfl (hnt _)|exact h1)
                    . rw[BN _ _ e]
                . cases hu
              . cases hu
            . cases hu
          . cases hu
        . cases hu
      . cases hu
    . exact he.elim
   |_=>exact gen rfl
def K0 (G:Gi) (ops:List Oper) (DE:List BH):Bool:=
 DE.all OK&&VB (UK ops []) (DE.map λo=>sC (W2 G o)) (DE.map λo=>sC (R2 G o)) 0 ops
def GC (G:Gi) (DE:List BH) (j:Nat):List Nat:=match DE[j]? with|some o=>W2 G o|none=>[]
def Ua (G:Gi) (DE:List BH) (j:Nat):List Nat:=match DE[j]? with|some o=>R2 G o|none=>[]
end Go.Abs
namespace Go.Abs
variable {G:Gi} {P:Program} {w:World}
theorem RS {n:Nat} {w0:World} {S0 U0:Nat->Prop} {ops:Array Oper} {K:Sg->Prop} (Q:Exit->Act->World->Prop) {DE:List BH} {a:Act} {w:World} {σ:Sg}
 (h:Rel G n w0 S0 U0 a w σ) (hN:DE.length=ops.size) (hrsA:∀(i:Nat) (o:Oper) (io:BH),ops.toList[i]? =some o->DE[i]? =some io->∀d:Dg,io.dst=some d->d.rs=G.GJ d.d) (hd:K0 G ops.toList DE=true)
 (q:Nat->Sg) (xI:q 0=σ) (GN:∀i io,DE[i]? =some io->KH P G io (· =q (i+1)) (q i)) (hK:K (q DE.length)) (J:(Nat->Bool)->Act->World->Prop) (hQ:∀(L:Nat->Bool) a w σ,(∀j,j<ops.size->L j=true)->J L a w->Rel G n w0 S0 U0 a w σ->K σ->Q .normal a w) (hJ0:J (λj=>(Array.replicate ops.size false).getD j true) a w)
 (hS:∀(L:Nat->Bool) (i:Nat) o io a w σ τ',ops[i]? =some o->DE[i]? =some io->i<ops.size->L i=false->(∀x,((UK ops.toList []).getD i 0).testBit x=true->L x=true)->(∀j,j<ops.size->L j=true->∀x,((UK ops.toList []).getD j 0).testBit x=true->L x=true)->
  J L a w->Rel G n w0 S0 U0 a w σ->KH P G io (· =τ') σ->(∀s,τ' s=q (Eu (λj=>(L j||j==i)) (GC G DE) (2*s+1) ops.size) s)->wpOp P ops Q i (λa' w'=>(∃σ',Rel G n w0 S0 U0 a' w' σ'/\σ'=τ')/\J (λj=>(L j||j==i)) a' w') a w):
 wpAny P .any ops Q ops.size (Array.replicate ops.size false) a w:=by
 simp only[K0,AAP,AAU]at hd
 obtain⟨FK,Jm⟩:=hd
 generalize hM:UK ops.toList []=M at Jm hS
 have T2:=ZP _ Jm
 simp only[ABS]at T2
 have Ty:∀i,i<ops.size->∃o io,ops[i]? =some o/\ops.toList[i]? =some o/\DE[i]? =some io:=by
  intro i hi
  refine⟨ops[i],DE[i]'(by omega),?_,?_,?_⟩<;>simp[hi,hN]
 -- the states of the text's order
 have hwf:∀i,i≤ops.size->∀s,E9 (G.GJ s) (q i s)=true:=by
  intro i
  induction i with
  |zero=>
   intro _ s
   rw[xI]
   obtain⟨S,δ,Fr,_,_,_,rfl,Bs,_⟩:=h
   exact Bs.rt s
  |succ i ih=>
   intro hi
   obtain⟨o,io,h1,h2,h3⟩:=Ty i (by omega)
   exact(VV (FK io (AAb h3)) (hrsA i o io h2 h3) (ih (by omega)) (GN i io h3)).2.2
 have hofff:∀j s,j<ops.size->2*s+1∉GC G DE j->q (j+1) s=q j s:=by
  intro j s hj hs
  obtain⟨o,io,h1,h2,h3⟩:=Ty j hj
  exact(VV (FK io (AAb h3)) (hrsA j o io h2 h3) (hwf j (by omega)) (GN j io h3)).1 s (by simpa[GC,h3]using hs)
 have xB:∀j s,j<ops.size->2*s∉GC G DE j->Hs (q (j+1) s)=Hs (q j s):=by
  intro j s hj hs
  obtain⟨o,io,h1,h2,h3⟩:=Ty j hj
  exact(VV (FK io (AAb h3)) (hrsA j o io h2 h3) (hwf j (by omega)) (GN j io h3)).2.1 s (by simpa[GC,h3]using hs)
 -- the states with their skeletons beside them
 let Q2:Nat->Sg:=λj x=>if x%2=1 then q j (x/2)else Hs (q j (x/2))
 have YA:∀j s,Q2 j (2*s+1)=q j s:=λj s=>by
  show(if(2*s+1)%2=1 then q j ((2*s+1)/2)else Hs (q j ((2*s+1)/2)))=q j s
  rw[AAY (by omega),show(2*s+1)/2=s from by omega]
 have Yy:∀j s,Q2 j (2*s)=Hs (q j s):=λj s=>by
  show(if(2*s)%2=1 then q j ((2*s)/2)else Hs (q j ((2*s)/2)))=Hs (q j s)
  rw[AAX (by omega),show(2*s)/2=s from by omega]
 have Rk:∀j x,j<ops.size->x∉GC G DE j->Q2 (j+1) x=Q2 j x:=by
  intro j x hj hx
  obtain⟨s,rfl|rfl⟩:∃s,x=2*s∨x=2*s+1:=⟨x/2,by omega⟩
  . rw[Yy,Yy];exact xB j s hj hx
  . rw[YA,YA];exact hofff j s hj hx
 have hWs:∀j,j<ops.size->(DE.map λo=>sC (W2 G o)).getD j 0=sC (GC G DE j):=by
  intro j hj
  obtain⟨o,io,h1,h2,h3⟩:=Ty j hj
  simp[List.getD_eq_getElem?_getD,GC,h3]
 have hRs:∀j,j<ops.size->(DE.map λo=>sC (R2 G o)).getD j 0=sC (Ua G DE j):=by
  intro j hj
  obtain⟨o,io,h1,h2,h3⟩:=Ty j hj
  simp[List.getD_eq_getElem?_getD,Ua,h3]
 have wD:∀j s,s∈GC G DE j->s∈Ua G DE j:=by
  intro j s hs
  cases h3:DE[j]? with
  |none=>simp[GC,h3]at hs
  |some io=>
   simp only[GC,Ua,h3]at hs ⊢
   simp only[R2,AAj]
   exact .inl hs
 have hodd:∀j s,2*s∈GC G DE j->2*s+1∈GC G DE j:=by
  intro j s hs
  cases h3:DE[j]? with
  |none=>simp[GC,h3]at hs
  |some io=>
   simp only[GC,h3]at hs ⊢
   unfold W2 at hs ⊢
   split at hs
   . simp only[ABZ]at hs
     obtain⟨x,_,hx⟩:=hs
     omega
   . rw[bW]at hs;rw[NA];exact hs
 -- pairs that meet are ordered
 have wZ:∀i j s,i<j->j<ops.size->(s∈GC G DE i/\s∈Ua G DE j)∨(s∈Ua G DE i/\s∈GC G DE j)->(M.getD j 0).testBit i=true:=by
  intro i j s IV hj hs
  obtain⟨o,io,h1,h2,h3⟩:=Ty j hj
  rcases(T2 j o h2).2.2 i IV with⟨g1,g2⟩|g
  . rw[hWs i (by omega),hRs j hj]at g1
    rw[hRs i (by omega),hWs j hj]at g2
    rcases hs with hs|hs
    . exact(Yg g1 hs.1 hs.2).elim
    . exact(Yg g2 hs.1 hs.2).elim
  . exact g
 -- any order
 have main:∀(fuel:Nat) (listed:Array Bool) (a:Act) (w:World),listed.size=ops.size->(List.range ops.size).countP (λi=> !listed.getD i true)≤fuel->
  (∀j,j<ops.size->listed.getD j true=true->∀i,(M.getD j 0).testBit i=true->listed.getD i true=true)->
  (∃σ,Rel G n w0 S0 U0 a w σ/\∀s,σ s=q (Eu (λj=>listed.getD j true) (GC G DE) (2*s+1) ops.size) s)->J (λj=>listed.getD j true) a w->wpAny P .any ops Q fuel listed a w:=by
  have done:∀(listed:Array Bool) (a:Act) (w:World),(∀j,j<ops.size->listed.getD j true=true)->J (λj=>listed.getD j true) a w->(∃σ,Rel G n w0 S0 U0 a w σ/\∀s,σ s=q (Eu (λj=>listed.getD j true) (GC G DE) (2*s+1) ops.size) s)->Q .normal a w:=by
   rintro listed a w Hm hJ ⟨σ,h1,h2⟩
   have:σ=q ops.size:=by
    funext s
    rw[h2 s]
    have:=pO Hm Rk (2*s+1) _ (AAy _)
    rw[YA,YA]at this
    exact this
   subst this
   exact hQ _ a w _ Hm hJ h1 (by rw[← hN];exact hK)
  intro fuel
  induction fuel with
  |zero=>
   intro listed a w Po sJ LX Bs hJ
   have Hm:∀j,j<ops.size->listed.getD j true=true:=by
    intro j hj
    have h0:(List.range ops.size).countP (λi=> !listed.getD i true)=0:=by omega
    rw[List.countP_eq_zero]at h0
    have:=h0 j (by simp[hj])
    simpa using this
   refine⟨?_,done listed a w Hm hJ Bs⟩
   simp only[Region.ready,List.filter_eq_nil_iff,List.mem_range]
   intro j hj
   simp[Hm j hj]
  |succ fuel ih=>
   intro listed a w Po sJ LX Bs hJ
   refine⟨λw9=> ?_,λi hi=> ?_⟩
   . refine done listed a w ?_ hJ Bs
     intro j
     induction j using Nat.strongRecOn with
     |_ j ihj=>
      intro hj
      cases hl:listed.getD j true with
      |true=>rfl
      |false=>
       exfalso
       obtain⟨o,io,h1,h2,h3⟩:=Ty j hj
       have:j∈Region.ready .any ops listed:=by
        simp only[Region.ready,List.mem_filter,List.mem_range]
        refine⟨hj,?_⟩
        simp only[hl,Bool.not_false,AA0,h1,AAl,Option.getD_some,Array.all_eq_true']
        intro e he
        cases hb:Region.binds .any e with
        |false=>rfl
        |true=>
         have D5:=(T2 j o h2).2.1 e (by simpa using he) hb
         have hl':=ihj e.on D5 (by omega)
         have hs:e.on<listed.size:=by omega
         simp only[AAh,Array.getElem?_eq_getElem hs,Option.getD_some]at hl' ⊢
         simp[hl']
       rw[w9]at this
       cases this
   . simp only[Region.ready,List.mem_filter,List.mem_range,AAP,ABU]at hi
     obtain⟨wV,hul,RF⟩:=hi
     obtain⟨o,io,h1,h2,h3⟩:=Ty i wV
     simp only[h1,AAl,Option.getD_some,Array.all_eq_true',AAx,ABU]at RF
     obtain⟨hsp1,hsp2,_⟩:=T2 i o h2
     obtain⟨σ,Ha,hσ⟩:=Bs
     -- all that is ahead of i is listed
     have Jq:∀x,(M.getD i 0).testBit x=true->listed.getD x true=true:=by
      intro x hx
      rw[hsp1]at hx
      obtain⟨e,he,hb,hor⟩:=bef_bit hx
      have D5:=hsp2 e he hb
      have hle:listed.getD e.on true=true:=by
       have:=(RF e (by simpa using he)).resolve_left (by simp[hb])
       have hs:e.on<listed.size:=by omega
       simp only[AAh,Array.getElem?_eq_getElem hs,Option.getD_some]at this ⊢
       exact this
      rcases hor with rfl|hor
      . exact hle
      . exact LX e.on (by omega) hle x hor
     have hL':∀j,(listed.setIfInBounds i true).getD j true=(listed.getD j true||j==i):=by
      intro j
      simp only[AAh,ABJ]
      by_cases e:i=j
      . subst e;simp;split<;>simp
      . have e':¬j=i:=λx=>e x.symm
        simp[e,e']
     have Xl:∀j s,j<i->s∈GC G DE j->s∈Ua G DE i->listed.getD j true=true:=λj s hj hs Fl=>Jq j (wZ j i s hj wV (.inl ⟨hs,Fl⟩))
     have MY:∀j s,i<j->j<ops.size->s∈GC G DE j->s∈Ua G DE i->listed.getD j true=true->listed.getD i true=true:=λj s hj hjN hs Fl hl=>LX j hjN hl i (wZ i j s hj hjN (.inr ⟨Fl,hs⟩))
     have hA:∀x,x∈Ua G DE i->Q2 (Eu (λj=>listed.getD j true) (GC G DE) x ops.size) x=Q2 i x:=λx hx=>
      xZ (L:=λj=>listed.getD j true) (R:=Ua G DE) hul wV Rk Xl MY hx
     have hf:∀s,2*s+1∈R2 G io->σ s=q i s:=λs hs=>by
      rw[hσ s]
      have:=hA (2*s+1) (by simpa[Ua,h3]using hs)
      rw[YA,YA]at this
      exact this
     -- writers of one slot are ordered
     have hord:∀j m s,j<m->m<ops.size->2*s+1∈GC G DE j->2*s+1∈GC G DE m->listed.getD m true=true->listed.getD j true=true:=
      λj m s hjm hm h1 h2 hl=>LX m hm hl j (wZ j m (2*s+1) hjm hm (.inl ⟨h1,wD m _ h2⟩))
     have Hm:∀s m,m≤ops.size->(∀j,j<m->2*s∈GC G DE j->listed.getD j true=true)->Hs (q (Eu (λj=>listed.getD j true) (GC G DE) (2*s) m) s)=Hs (q m s):=by
      intro s m
      induction m with
      |zero=>intro _ _;rfl
      |succ m ihm=>
       intro hm hl
       simp only[Eu]
       by_cases h:2*s∈GC G DE m
       . rw[AAY ⟨hl m (by omega) h,h⟩]
       . rw[AAX (λx=>h x.2),ihm (by omega) (λj hj=>hl j (by omega)),xB m s (by omega) h]
     have hboth:∀s m,m≤ops.size->Hs (q (Eu (λj=>listed.getD j true) (GC G DE) (2*s+1) m) s)=Hs (q (Eu (λj=>listed.getD j true) (GC G DE) (2*s) m) s):=by
      intro s m
      induction m with
      |zero=>intro _;rfl
      |succ m ihm=>
       intro hm
       simp only[Eu]
       by_cases hlm:listed.getD m true=true
       . by_cases h0:2*s∈GC G DE m
         . rw[AAY ⟨hlm,hodd m s h0⟩,AAY ⟨hlm,h0⟩]
         . rw[AAX (c:=_/\2*s∈_) (λx=>h0 x.2)]
           by_cases h1:2*s+1∈GC G DE m
           . rw[AAY ⟨hlm,h1⟩,xB m s (by omega) h0]
             exact(Hm s m (by omega) λj hj hw=>hord j m s hj (by omega) (hodd j s hw) h1 hlm).symm
           . rw[AAX (λx=>h1 x.2)];exact ihm (by omega)
       . rw[AAX (λx=>hlm x.1),AAX (λx=>hlm x.1)];exact ihm (by omega)
     have hk:∀s,2*s∈R2 G io->Hs (σ s)=Hs (q i s):=λs hs=>by
      rw[hσ s,hboth s _ (AAy _)]
      have:=hA (2*s) (by simpa[Ua,h3]using hs)
      rw[Yy,Yy]at this
      exact this
     obtain⟨τ',hτ,hmv1,hmv2⟩:=eO (FK io (AAb h3)) (hrsA i o io h2 h3) (hwf i (by omega)) hf hk (GN i io h3)
     have hfun:(λj=>(listed.setIfInBounds i true).getD j true)=λj=>(listed.getD j true||j==i):=funext hL'
     have hτs:∀s,τ' s=q (Eu (λj=>(listed.getD j true||j==i)) (GC G DE) (2*s+1) ops.size) s:=by
      intro s
      by_cases hs:2*s+1∈GC G DE i
      . rw[x7 (L:=λj=>listed.getD j true) wV (λj=>rfl) hul (λj s hj hjN h1 h2 h3=>MY j s hj hjN h1 (wD i s h2) h3) hs]
        exact hmv1 s (by simpa[GC,h3]using hs)
      . rw[pP (L:=λj=>listed.getD j true) (i:=i) (λj=>rfl) hs,← hσ s]
        exact hmv2 s (by simpa[GC,h3]using hs)
     refine wpOp_mono ?_ (hS (λj=>listed.getD j true) i o io a w σ τ' h1 h3 wV hul Jq LX hJ Ha hτ hτs)
     . rintro a' w' ⟨⟨σ2,YV,rfl⟩,hJ'⟩
       refine ih _ a' w' (by simp[Po]) ?_ ?_ ⟨σ2,YV,?_⟩ (by rw[hfun];exact hJ')
       . have:=nQ (p:=λi=> !listed.getD i true) (p':=λj=> !(listed.setIfInBounds i true).getD j true) (λj hj=>by simp only[hL']at hj;simp at hj ⊢;exact hj.1) (i:=i) (by simp[hul]) (by simp[hL']) ops.size wV
         omega
       . intro j hjN hl x hx
         rw[hL']at hl ⊢
         simp only[AAx,AAd]at hl ⊢
         rcases hl with hl|rfl
         . exact .inl (LX j hjN hl x hx)
         . exact .inl (Jq x hx)
       . intro s
         rw[hfun];exact hτs s
 refine main ops.size _ a w (by simp) (by exact ABO (List.countP_le_length) (by simp)) ?_ ⟨σ,h,λs=> ?_⟩ hJ0
 . intro j hj hl
   simp[AAh,hj]at hl
 . have:∀m,m≤ops.size->Eu (λj=>(Array.replicate ops.size false).getD j true) (GC G DE) (2*s+1) m=0:=by
    intro m
    induction m with
    |zero=>intro _;rfl
    |succ m ih=>
     intro hm
     simp only[Eu]
     rw[AAX,ih (by omega)]
     rintro⟨h1,_⟩
     have U9:m<ops.size:=by omega
     simp[AAh,U9]at h1
   rw[this _ (AAy _),xI]
theorem T3 {L:Nat->Bool} {W:Nat->List Nat} {x b:Nat}:∀m,(∀j,j<m->L j=true->j<b)->Eu L W x m≤b
 |0,_=>Nat.zero_le _
 |m+1,h=>by
  simp only[Eu]
  split
  . rename_i hm;have:=h m (by omega) hm.1;omega
  . exact T3 m λj hj=>h j (by omega)
theorem Sh {n:Nat} {w0:World} {S0 U0:Nat->Prop} {a:Act} {τ:Sg} {S:Nat->Prop} {δ:Nat->DV} {Fr:Nat->Nat->Prop} {o:Oper} {d:Dg} {D:DV} (hn:a.tmps.size=n) (Dv:a.defers=[]) (ha:Rd δ a) (Bs:St G w S δ Fr) (EO:Nx w0 S0 U0 w S (A2 Fr)) (CN:∀b,S b->b<w.heap.size)
 (hd:Ik G a o (some d)) (hD:Ok w S D (λ_=>False)) (F6:C3 δ D) (LY:wr d D.er (λs=>(δ s).er)=some τ):Rel G n w0 S0 U0 (a.put o.dst D.Aq) w τ:=by
 obtain⟨g1,g2,g3,g4⟩:=hd
 obtain⟨δ',F',Jr,Iw,C9,Dh⟩:=Bs.wr (D:=D) (Ff:=λ_=>False) g2 g3 (λ_ _=>rfl) (λ_ _ _=>rfl) (λ_ h=>h) (λs x hx=>(Bs.ok s).EZ x hx) hD (λ_ _ _ h=>h) F6 LY
 refine⟨S,δ',F',?_,?_,?_,Iw,Jr,EO.trans (Nx.less λx hx=>(Dh x hx).elim id False.elim),CN⟩
 . rw[g1];simpa[Act.put]using hn
 . rw[g1];simpa[Act.put]using Dv
 . intro s
   rw[g1,IE a d.d D.Aq g4 s,C9 s]
   split
   . rfl
   . exact ha s
def YN:XJ->Bool
 | .cp _| .Tu .. | .ld .. | .WM _| .VA .. | .yI .. =>true
 |_=>false
def Vf (P:Program) (G:Gi) (n:Nat) (f:rH) (ops:Array Oper) (M:List Nat) (i:Nat) (o:Oper) (io:BH):Bool:=
 DX G n o.dst io.dst&&o.guard.isNone&&io.guard.isNone&&
 (if i=f.i0 then(match io.op,io.dst with| .fl,some d=>d.d==f.d0|_,_=>false)&&(match o.op with
  | .fieldAddr t (.tmp s) fi=>s==f.r&&(match P.underlying t with
   |some (.struct fs)=>match fs[fi]? with
    |some fd=>fd.offset==f.off&&(match Fu P fd.type with|some m=>m != 0|none=>false)
    |none=>false
   |_=>false)
  |_=>false)
  else if i=f.i1 then(match io.op,io.dst with| .fl,some d=>d.d==f.d1|_,_=>false)&&(match o.op with
   | .load t (.tmp s)=>s==f.d0&&Fu P t==some 1&&I1 P t==some false
   |_=>false)&&(M.getD i 0).testBit f.i0
  else(match io.dst with|some d=>d.d != f.r&&d.d != f.d0&&d.d != f.d1|none=>true)&&
   (if i=f.i2 then(match io.op,o.op,io.dst with
    | .bL r off kb k j,.indexAddr t (.tmp s) x,some _=>r==f.r&&off==f.off&&kb==f.kb&&s==f.d1&&(match P.underlying t with|some (.slice e)=>Fu P e==some k|_=>false)&&Bt x j
    |_,_,_=>false)&&(M.getD i 0).testBit f.i1&&(M.getD i 0).testBit f.i0
   else Ga P G n ops o io&&(if i<f.i2 then YN io.op||(match io.op with| .call _ _ 4=>true|_=>false)else(M.getD i 0).testBit f.i2)))
def fK (P:Program) (G:Gi) (n:Nat) (f:rH) (ops:Array Oper) (DE:List BH):Bool:=
 decide (DE.length=ops.size)&&decide (f.d0≠f.r)&&decide (f.d1≠f.r)&&decide (f.d0≠f.d1)&&decide (f.i0≠f.i1)&&decide (f.i0<f.i2)&&decide (f.i1<f.i2)&&decide (f.i2<ops.size)&&K0 G ops.toList DE&&
 (List.range ops.size).all λi=>match ops[i]?,DE[i]? with
  |some o,some io=>Vf P G n f ops (UK ops.toList []) i o io
  |_,_=>false
theorem PL {ops:Array Oper} {Q:Exit->Act->World->Prop} {i:Nat} {o:Oper} {a:Act} {u:Value} {K:Act->World->Prop} (hi:ops[i]? =some o) (hg:o.guard=none) (B8:(execOp a.eval o).run P w= .ok (.value u) w) (h:K (a.put o.dst u) w):wpOp P ops Q i K a w:=by
 unfold wpOp
 rw[hi]
 simp only[Region.wanted,hg,AAs]
 refine .inl ?_
 unfold Oper.wp
 rw[B8]
 exact h
theorem dB {ops:Array Oper} {Q:Exit->Act->World->Prop} {i:Nat} {o:Oper} {a:Act} {u:Value} {K J:Act->World->Prop} (hi:ops[i]? =some o) (hg:o.guard=none) (B8:(execOp a.eval o).run P w= .ok (.value u) w) (hJ:J (a.put o.dst u) w) (h:wpOp P ops Q i K a w):wpOp P ops Q i (λa' w'=>K a' w'/\J a' w') a w:=by
 unfold wpOp at h ⊢
 rw[hi]at h ⊢
 simp only[Region.wanted,hg,AAs]at h ⊢
 refine h.imp (λh=> ?_) id
 unfold Oper.wp at h ⊢
 rw[B8]at h ⊢
 exact⟨h,hJ⟩
theorem vK {n:Nat} {w0:World} {S0 U0:Nat->Prop} {a:Act} {σ:Sg} (h:Rel G n w0 S0 U0 a w σ) {o:Oper} {io:BH} (HT:I5 P o.op io.op=true) (hf:YN io.op=true) {v:AV} (hv:valOf io.op σ=some v):∃u,(execOp a.eval o).run P w= .ok (.value u) w:=by
 obtain⟨S,δ,Fr,hn,Dv,ha,rfl,Bs,EO,CN⟩:=h
 have go:Gives P w S δ a o v->∃u,(execOp a.eval o).run P w= .ok (.value u) w:=λ⟨u,h,_⟩=>⟨u,h⟩
 apply go
 obtain⟨dst,lG,g⟩:=io
 simp only at HT hf hv
 cases lG with
 |cp y=>cases ho:o.op<;>rw[ho]at HT<;>first| (simp[I5]at HT;done)|exact Re Bs ha (.inl ho) HT hv|exact Re Bs ha (.inr ho) HT hv
 |Tu off y=>
  cases ho:o.op<;>rw[ho]at HT<;>first| (simp[I5]at HT;done)|skip
  rename_i t x fi
  simp only[I5,AAP]at HT
  obtain⟨h1,h2⟩:=HT
  split at h1
  . rename_i fs hu
    split at h1
    . rename_i fd hff
      simp only[AAP,AAd]at h1
      obtain⟨g1,g2⟩:=h1
      split at g2
      . rename_i m hm
        simp only[bne_iff_ne]at g2
        exact YQ Bs ha ho hu hff g1 hm g2 h2 hv
      . cases g2
    . cases h1
  . cases h1
 |ld gg m y=>
  cases ho:o.op<;>rw[ho]at HT<;>first| (simp[I5]at HT;done)|skip
  simp only[I5,AAP,AAx,AAd]at HT
  exact Rf Bs ha ho HT.1.1.1 HT.1.1.2 HT.1.2 HT.2 hv
 |WM y=>
  cases ho:o.op<;>rw[ho]at HT<;>first| (simp[I5]at HT;done)|skip
  simp only[I5,AAP,AAd]at HT
  exact Rf Bs ha ho HT.1.1 HT.1.2 (.inr rfl) HT.2 (x9 hv)
 |VA k y j=>
  cases ho:o.op<;>rw[ho]at HT<;>first| (simp[I5]at HT;done)|skip
  simp only[I5,AAP]at HT
  obtain⟨⟨h1,h2⟩,h3⟩:=HT
  split at h1
  . rename_i e hu
    exact YR Bs ha ho hu (TR h1) h2 h3 hv
  . cases h1
 |yI f ys=>
  cases ho:o.op<;>rw[ho]at HT<;>first| (simp[I5]at HT;done)|skip
  rename_i fn first Y3
  cases fn with
  |func f'=>
   simp only[I5,AAP,AAd]at HT
   obtain⟨⟨rfl,h1⟩,h2⟩:=HT
   exact YS Bs ha ho (by simpa using h1) h2 hv
  |_=>simp[I5]at HT
 |_=>cases hf
theorem aS {n:Nat} {w0:World} {S0 U0:Nat->Prop} (hG:XY w0 S0 U0) {ops:Array Oper} {K:Sg->Prop} (Q:Exit->Act->World->Prop) (hQ:∀a w σ,Rel G n w0 S0 U0 a w σ->K σ->Q .normal a w) {DE:List BH} {a:Act} {w:World} {σ:Sg}
 (h:Rel G n w0 S0 U0 a w σ) (hc:K1 P G n ops ops.toList DE=true) (hd:K0 G ops.toList DE=true) (hr:Mo P G DE K σ):wpAny P .any ops Q ops.size (Array.replicate ops.size false) a w:=by
 obtain⟨hlen,ZF⟩:=nM _ hc
 obtain⟨q,xI,GN,hK⟩:=QS DE hr
 refine RS Q h (by rw[← hlen];simp) (λi o io h1 h2=>Vg (ZF i o io h1 h2)) hd q xI GN hK (λ_ _ _=>True) (λ_ a w σ _ _ h k=>hQ a w σ h k) trivial ?_
 intro L i o io a w σ τ' h1 h2 _ _ _ _ _ Ha ET _
 exact wpOp_mono (λa' w' h=>⟨h,trivial⟩) (Hw hG Ha (ZF i o io (by simpa using h1) h2) ET Q h1)
end Go.Abs
namespace Go.Abs
variable {G:Gi} {P:Program} {w:World}
def FJ (f:rH) (b:Nat) (h:Value) (L:Nat->Bool) (a:Act) (w:World):Prop:=
 L f.i2=false->a.tmps.getD f.r undef= .pointer (some ⟨b,0,none⟩)/\w.cell? ⟨b,f.off,none⟩=some h/\(L f.i0=true->a.tmps.getD f.d0 undef= .pointer (some ⟨b,f.off,none⟩))/\(L f.i1=true->a.tmps.getD f.d1 undef=h)
theorem bM {kb off:Nat} {x:AV} (h:ZI kb off x=true):∃row,x= .own true kb [row]/\off<row.length:=by
 unfold ZI at h
 split at h
 . rename_i k row
   simp only[AAP,AAd,AAf]at h
   exact⟨row,by rw[h.1],h.2⟩
 . cases h
theorem uR {S:Nat->Prop} {δ:Nat->DV} {Fr:Nat->Nat->Prop} (h:St G w S δ Fr) {r kb:Nat} {row:List AV} (hr:(δ r).er= .own true kb [row]):∃b IH,δ r= .own (.pointer (some ⟨b,0,none⟩)) true kb [IH]/\IH.map DV.er=row/\
 (∀(j:Nat) d,IH[j]? =some d->w.cell? ⟨b,j,none⟩=some d.Aq/\∃F,Ok w S d F):=by
 have CH:=h.ok r
 cases hδ:δ r with
 |lf x v=>rw[hδ]at hr CH;simp at hr;subst hr;cases CH with|lf _ _ _ hl _=>simp[HK]at hl
 |agg=>rw[hδ]at hr;simp at hr
 |BJ=>rw[hδ]at hr;simp at hr
 |own hh bx k0 Aj=>
  rw[hδ]at hr CH
  simp only[EE,AV.own.injEq]at hr
  obtain⟨rfl,rfl,DZ⟩:=hr
  obtain⟨IH,rfl,RF⟩:=List.map_eq_singleton_iff.1 DZ
  cases CH with
  |own _ _ _ b c arr E Fs _ hb hk De Ko hv hrr hd BP Jb hF=>
   refine⟨b,IH,by simp[I7],RF,λj d hj=>⟨?_,Fs 0 j,hrr 0 j IH d rfl hj⟩⟩
   have:=hv 0 j IH d rfl hj
   simp only[Nat.zero_mul,ABS]at this
   simp[World.cell?,hb,this]
theorem nZ {n:Nat} {w0:World} {S0 U0:Nat->Prop} (hG:XY w0 S0 U0) {ops:Array Oper} {K:Sg->Prop} (Q:Exit->Act->World->Prop) (hQ:∀a w σ,Rel G n w0 S0 U0 a w σ->K σ->Q .normal a w) {DE:List BH} {a:Act} {w:World} {σ:Sg} {f:rH}
 (h:Rel G n w0 S0 U0 a w σ) (hc:fK P G n f ops DE=true) (q:Nat->Sg) (xI:q 0=σ) (GN:∀i io,DE[i]? =some io->KH P G io (· =q (i+1)) (q i)) (hK:K (q DE.length)) (hbx:∀m,m≤f.i2->ZI f.kb f.off (q m f.r)=true):
 wpAny P .any ops Q ops.size (Array.replicate ops.size false) a w:=by
 simp only[fK,AAP,AAf,AAU]at hc
 obtain⟨⟨⟨⟨⟨⟨⟨⟨⟨hN,n1⟩,n2⟩,n3⟩,n4⟩,n5⟩,n6⟩,n7⟩,aX⟩,Hm⟩:=hc
 have Et:∀i o io,ops[i]? =some o->DE[i]? =some io->Vf P G n f ops (UK ops.toList []) i o io=true:=by
  intro i o io h1 h2
  have hi:i<ops.size:=(AAz.1 h1).1
  have:=Hm i (by simpa using hi)
  rw[h1,h2]at this
  exact this
 -- the beginning
 obtain⟨b7,hL,hJ0⟩:∃b7 hL,FJ f b7 hL (λj=>(Array.replicate ops.size false).getD j true) a w:=by
  obtain⟨S,δ,Fr,hn,Dv,ha,rfl,Bs,EO,CN⟩:=h
  obtain⟨row,hr,D5⟩:=bM (hbx 0 (Nat.zero_le _))
  rw[xI]at hr
  obtain⟨b,IH,h1,h2,h3⟩:=uR Bs hr
  have hl:f.off<IH.length:=by rw[← h2]at D5;simpa using D5
  refine⟨b,(IH[f.off]).Aq,λ_=>⟨?_,(h3 f.off _ (AAT hl)).1,?_,?_⟩⟩
  . rw[ha f.r,h1];simp
  . intro hx;simp[AAh,show f.i0<ops.size by omega]at hx
  . intro hx;simp[AAh,show f.i1<ops.size by omega]at hx
 refine RS Q h hN ?_ aX q xI GN hK (FJ f b7 hL) (λ_ a w σ _ _ h k=>hQ a w σ h k) hJ0 ?_
 . intro i o io h1 h2 d hd
   have:=Et i o io (by simpa using h1) h2
   simp only[Vf,AAP]at this
   have h3:=this.1.1.1
   rw[hd]at h3
   cases ho:o.dst with
   |none=>rw[ho]at h3;simp[DX]at h3
   |some t=>rw[ho]at h3;simp only[DX,AAP,AAd]at h3;exact h3.1.2
 . intro L i o io a w σ τ' h1 h2 wV hLi Jq LX hJ Ha ET hτs
   have Jc:=Et i o io h1 h2
   simp only[Vf,AAP,ABC]at Jc
   obtain⟨⟨⟨KM,gP⟩,MX⟩,Jc⟩:=Jc
   obtain⟨dst,lG,g⟩:=io
   simp only at MX
   subst MX
   simp only at KM Jc
   by_cases e0:i=f.i0
   . -- the address
     subst e0
     rw[AAY rfl]at Jc
     simp only[AAP]at Jc
     obtain⟨k1,k2⟩:=Jc
     split at k1
     . rename_i d
       simp only[AAd]at k1
       split at k2
       . rename_i t s fi ho
         simp only[AAP,AAd]at k2
         obtain⟨rfl,k2⟩:=k2
         split at k2
         . rename_i fs hu
           split at k2
           . rename_i fd hff
             simp only[AAP,AAd]at k2
             obtain⟨g1,g2⟩:=k2
             split at g2
             . rename_i m hm
               simp only[bne_iff_ne]at g2
               obtain⟨S,δ,Fr,hn,Dv,ha,rfl,Bs,EO,CN⟩:=Ha
               have hd:=EJ (a:=a) KM hn
               have Gq:∀u s,(a.put o.dst u).tmps.getD s undef=if s=d.d then u else a.tmps.getD s undef:=λu s=>by rw[hd.1,IE a d.d u hd.2.2.2 s]
               have LY:wr d (DV.lf .dead (.pointer (some ⟨b7,f.off,none⟩))).er (λs=>(δ s).er)=some τ':=by
                simp only[KH,Dp,Fk,valOf]at ET
                split at ET
                . rename_i υ hυ;rw[Ea,hυ,ET]
                . exact ET.elim
               by_cases YT:L f.i2=true
               . exact absurd (LX f.i2 n7 YT f.i0 (by
                  obtain⟨o2,xS,q1,q2⟩:∃o2 xS,ops[f.i2]? =some o2/\DE[f.i2]? =some xS:=⟨ops[f.i2],DE[f.i2]'(by omega),by simp[n7],by simp[hN,n7]⟩
                  have:=Et f.i2 o2 xS q1 q2
                  simp only[Vf,AAP]at this
                  rw[AAX (by omega),AAX (by omega)]at this
                  simp only[AAs,AAP]at this
                  exact this.2.2.2)) (by rw[hLi];decide)
               . have hL2':L f.i2=false:=by simpa using YT
                 obtain⟨j1,j2,j3,j4⟩:=hJ hL2'
                 refine PL (u:=.pointer (some ⟨b7,f.off,none⟩)) h1 gP ?_ ⟨⟨τ',Sh (D:=.lf .dead (.pointer (some ⟨b7,f.off,none⟩))) hn Dv ha Bs EO CN hd (.lf _ _ _ trivial (λ_ h=>h)) (C3.dead _) LY,rfl⟩,λhx=> ?_⟩
                 . have he:a.eval (.tmp f.r)= .pointer (some ⟨b7,0,none⟩):=by simpa[Act.eval]using j1
                   simp only[execOp,ho,he,Sem.run_bind,Lk hu hff hm g2,Result.andThen_ok,Sem.run_pure,g1,ABS]
                 . simp only[KZ]
                   refine⟨by rw[Gq,AAX (by rw[k1];exact Ne.symm n1)];exact j1,j2,λ_=>by rw[Gq,AAY k1.symm],λhx1=> ?_⟩
                   rw[Gq,AAX (by rw[k1];exact Ne.symm n3)]
                   exact j4 (by simpa[Ne.symm n4]using hx1)
             . cases g2
           . cases k2
         . cases k2
       . cases k2
     . cases k1
   rw[AAX e0]at Jc
   by_cases e1:i=f.i1
   . -- the load
     subst e1
     rw[AAY rfl]at Jc
     simp only[AAP]at Jc
     obtain⟨⟨k1,k2⟩,k3⟩:=Jc
     split at k1
     . rename_i d
       simp only[AAd]at k1
       split at k2
       . rename_i t s ho
         simp only[AAP,AAd]at k2
         obtain⟨⟨rfl,k2⟩,k4⟩:=k2
         obtain⟨S,δ,Fr,hn,Dv,ha,rfl,Bs,EO,CN⟩:=Ha
         have hd:=EJ (a:=a) KM hn
         have Gq:∀u s,(a.put o.dst u).tmps.getD s undef=if s=d.d then u else a.tmps.getD s undef:=λu s=>by rw[hd.1,IE a d.d u hd.2.2.2 s]
         have LY:wr d (DV.lf .dead hL).er (λs=>(δ s).er)=some τ':=by
          simp only[KH,Dp,Fk,valOf]at ET
          split at ET
          . rename_i υ hυ;rw[Ea,hυ,ET]
          . exact ET.elim
         by_cases YT:L f.i2=true
         . exact absurd (LX f.i2 n7 YT f.i1 (by
            obtain⟨o2,xS,q1,q2⟩:∃o2 xS,ops[f.i2]? =some o2/\DE[f.i2]? =some xS:=⟨ops[f.i2],DE[f.i2]'(by omega),by simp[n7],by simp[hN,n7]⟩
            have:=Et f.i2 o2 xS q1 q2
            simp only[Vf,AAP]at this
            rw[AAX (by omega),AAX (by omega)]at this
            simp only[AAs,AAP]at this
            exact this.2.2.1.2)) (by rw[hLi];decide)
         . have hL2':L f.i2=false:=by simpa using YT
           obtain⟨j1,j2,j3,j4⟩:=hJ hL2'
           have j3':=j3 (Jq f.i0 k3)
           refine PL (u:=hL) h1 gP ?_ ⟨⟨τ',Sh (D:=.lf .dead hL) hn Dv ha Bs EO CN hd (.lf _ _ _ trivial (λ_ h=>h)) (C3.dead _) LY,rfl⟩,λhx=> ?_⟩
           . have he:a.eval (.tmp f.d0)= .pointer (some ⟨b7,f.off,none⟩):=by simpa[Act.eval]using j3'
             have:=KU (P:=P) (w:=w) (b:=b7) (off:=f.off) (vs:=[hL]) k2 k4 (.inr rfl) rfl (λj v hv=>by
              cases j with
              |zero=>simp only[AAw,AAN]at hv;subst hv;exact j2
              |succ j=>simp at hv)
             simp only[execOp,ho,he,Instr.loadAt,Instr.sureAddr,Sem.run_bind,Sem.run_pure,Result.andThen_ok,this]
             rfl
           . simp only[KZ]
             refine⟨by rw[Gq,AAX (by rw[k1];exact Ne.symm n2)];exact j1,j2,λhx0=> ?_,λ_=>by rw[Gq,AAY k1.symm]⟩
             rw[Gq,AAX (by rw[k1];exact n3)]
             exact j3'
       . cases k2
     . cases k1
   rw[AAX e1]at Jc
   simp only[AAP]at Jc
   obtain⟨LJ,Jc⟩:=Jc
   by_cases e2:i=f.i2
   . -- the index
     subst e2
     rw[AAY rfl]at Jc
     simp only[AAP]at Jc
     obtain⟨⟨k1,k2⟩,k3⟩:=Jc
     split at k1
     . rename_i r off kb k j t s x d ho
       simp only[AAP,AAd]at k1
       obtain⟨⟨⟨⟨⟨rfl,rfl⟩,rfl⟩,rfl⟩,k4⟩,k5⟩:=k1
       split at k4
       . rename_i e hu
         have hk:=TR k4
         obtain⟨S,δ,Fr,hn,Dv,ha,rfl,Bs,EO,CN⟩:=Ha
         have hd:=EJ (a:=a) KM hn
         obtain⟨j1,j2,j3,j4⟩:=hJ hLi
         have j4':=j4 (Jq f.i1 k2)
         obtain⟨hj,hej⟩:=Ah k5 ha
         simp only[KH,Dp,Fk]at ET
         cases hv:valOf (.bL f.r f.off f.kb k j) (λs=>(δ s).er)with
         |none=>rw[hv]at ET;exact ET.elim
         |some v=>
          rw[hv]at ET
          simp only at ET
          have hwv:wr d v (λs=>(δ s).er)=some τ':=by
           split at ET
           . rename_i υ hυ;rw[hυ,ET]
           . exact ET.elim
          simp only[valOf]at hv
          split at hv
          . rename_i kb' row n0 hr hn0
            split at hv
            . rename_i k' rows BR
              split at hv
              . rename_i E7
                obtain⟨rfl,rfl,h0,D5⟩:=E7
                obtain rfl:=AAR hv
                obtain⟨b,IH,g1,g2,g3⟩:=uR Bs hr
                have hb:b=b7:=by
                 have:=ha f.r
                 rw[j1,g1]at this
                 simpa using this.symm
                subst hb
                rw[← g2,AAZ,AAm]at BR
                obtain⟨D,hD,Er⟩:=BR
                obtain⟨g4,FD,g5⟩:=g3 f.off D hD
                rw[j2,AAN]at g4
                obtain⟨kk,hn0⟩:=Mp hn0
                obtain⟨ei,_⟩:=Bs.Eg hj hn0
                have Bb:Am (δ f.r) [(0,f.off,f.kb)]=some D:=by rw[g1];simp[Am,hD]
                have he1:a.eval (.tmp f.d1)=hL:=by simpa[Act.eval]using j4'
                cases hDD:D with
                |lf x1 v1=>rw[hDD]at Er g5;simp at Er;subst Er;cases g5 with|lf _ _ _ hl _=>simp[HK]at hl
                |agg=>rw[hDD]at Er;simp at Er
                |BJ=>rw[hDD]at Er;simp at Er
                |own hh bx k0 Aj=>
                 rw[hDD]at Er g5 g4 Bb
                 simp only[EE,AV.own.injEq]at Er
                 obtain⟨rfl,rfl,Jm⟩:=Er
                 simp only[KA]at g4
                 have hlen:Aj.length=rows.length:=by rw[← Jm];simp
                 cases g5 with
                 |nil=>simp at hlen;rw[← hlen]at D5;simp at D5;omega
                 |own _ _ _ bb c arr E Fs _ dK Xh De Ko bJ XK hdd' BP Jb hF=>
                  have hLf:Lf w S δ (.KG f.r [(0,f.off,f.kb)] n0.toNat 0 k0) (.pointer (some ⟨bb,n0.toNat*k0+0,none⟩)):=Lf.KG Bb (by simp)
                  obtain⟨D2,q1,q2,q3,q4⟩:=hLf
                  refine PL (u:=D2.Aq) h1 gP ?_ ⟨⟨τ',Sh (D:=D2) hn Dv ha Bs EO CN hd q3 q4 (by rw[q1];exact hwv),rfl⟩,λhx=> ?_⟩
                  . rw[q2]
                    simp only[execOp,ho,he1,g4,hej,ei,I7,Sem.run_bind,AAW,AAe,run_indexAt_slice hu hk h0 (show n0<(Aj.length:Nat)by rw[hlen];exact D5),Result.andThen_ok,Sem.run_pure]
                    simp
                  . simp at hx
              . cases hv
            . cases hv
          . cases hv
       . cases k4
     . cases k1
   rw[AAX e2,AAP]at Jc
   obtain⟨HT,Na⟩:=Jc
   have hJn:∀(u:Value) w',(L f.i2=false->w'.cell? ⟨b7,f.off,none⟩=w.cell? ⟨b7,f.off,none⟩)->FJ f b7 hL (λj=>(L j||j==i)) (a.put o.dst u) w':=by
    intro u w' xN hx
    have Qg:L f.i2=false:=by simp only[Bool.or_eq_false_iff]at hx;exact hx.1
    obtain⟨j1,j2,j3,j4⟩:=hJ Qg
    have Gq:∀s,s=f.r∨s=f.d0∨s=f.d1->(a.put o.dst u).tmps.getD s undef=a.tmps.getD s undef:=by
     intro s hs
     obtain⟨S,δ,Fr,hn,_⟩:=Ha
     cases dst with
     |none=>
      have h0:o.dst=none:=EJ (a:=a) KM hn
      rw[h0];rfl
     |some d=>
      have hd:=EJ (a:=a) KM hn
      rw[hd.1,IE a d.d u hd.2.2.2 s,AAX]
      simp only[AAP,bne_iff_ne]at LJ
      rintro rfl
      rcases hs with hs|hs|hs
      . exact LJ.1.1 hs
      . exact LJ.1.2 hs
      . exact LJ.2 hs
    refine⟨by rw[Gq _ (.inl rfl)];exact j1,by rw[xN Qg];exact j2,λh0=> ?_,λh0=> ?_⟩
    . rw[Gq _ (.inr (.inl rfl))];exact j3 (by simpa[Ne.symm e0]using h0)
    . rw[Gq _ (.inr (.inr rfl))];exact j4 (by simpa[Ne.symm e1]using h0)
   by_cases D5:i<f.i2
   . rw[AAY D5]at Na
     simp only[AAx]at Na
     rcases Na with Na|Na
     . -- a value
       have hop':I5 P o.op lG=true:=by
        simp only[Ga,AAP]at HT
        have:=HT.2
        cases lG<;>first|exact this|cases Na
       have hv:∃v,valOf lG σ=some v:=by
        simp only[KH,Dp]at ET
        cases lG<;>first| (cases Na;done)|skip
        all_goals
         cases dst with
         |none=>simp[Fk]at ET
         |some d=>
          simp only[Fk]at ET
          split at ET
          . rename_i υ hυ
            split at hυ
            . exact⟨_,by assumption⟩
            . cases hυ
          . exact ET.elim
       obtain⟨v,hv⟩:=hv
       obtain⟨u,hu⟩:=vK (io:=⟨dst,lG,none⟩) Ha hop' Na hv
       exact dB h1 gP hu (hJn u w λ_=>rfl) (Hw hG Ha HT ET Q h1)
     . -- the call
       split at Na
       . rename_i fn args
         have hcall:JO P o.op fn args 4=true:=by
          simp only[Ga,AAP]at HT;exact HT.2
         by_cases YT:L f.i2=true
         . refine wpOp_mono ?_ (Hw hG Ha HT ET Q h1)
           intro a' w' hr
           exact⟨hr,λhx=>by simp[YT]at hx⟩
         have hL2':L f.i2=false:=by simpa using YT
         have hLf:∀j,j<ops.size->(L j||j==i)=true->j<f.i2:=by
          intro j hj hx
          simp only[AAx,AAd]at hx
          rcases hx with hx|rfl
          . rcases Nat.lt_trichotomy j f.i2 with h|h|h
            . exact h
            . subst h;exact absurd hx YT
            . exfalso
              refine YT (LX j hj hx f.i2 ?_)
              obtain⟨o2,xS,q1,q2⟩:∃o2 xS,ops[j]? =some o2/\DE[j]? =some xS:=⟨ops[j],DE[j]'(by omega),by simp[hj],by simp[hN,hj]⟩
              have:=Et j o2 xS q1 q2
              simp only[Vf,AAP]at this
              rw[AAX (by omega),AAX (by omega),AAX (by omega)]at this
              simp only[AAP]at this
              have:=this.2.2.2
              rw[AAX (by omega)]at this
              exact this
          . exact D5
         obtain⟨row,r9,_⟩:∃row,τ' f.r= .own true f.kb [row]/\f.off<row.length:=by
          rw[hτs f.r]
          exact bM (hbx _ (T3 _ hLf))
         obtain⟨S,δ,Fr,hn,_⟩:=id Ha
         have hd:Ik G a o dst:=EJ (a:=a) KM hn
         unfold wpOp
         rw[h1]
         simp only[Region.wanted,gP,AAs]
         refine .inl (Oper.wp_mono ?_ (aK (io:=⟨dst,.call fn args 4,none⟩) hG Ha rfl hcall hd (K:=(· =τ')) ET (rr:=f.r) (kb:=f.kb) ?_ Q))
         . rintro a' w' ⟨hr,IK,u,rfl⟩
           refine⟨hr,hJn u w' λhx=> ?_⟩
           obtain⟨j1,_⟩:=hJ hx
           simp only[World.cell?,IK b7 j1]
         . intro aZ9 τ1 JI
           simp only[KH,Dp]at ET
           rw[JI]at ET
           obtain⟨res,_,Ey⟩:=ET
           split at Ey
           . rename_i v hv
             cases dst with
             |none=>simp only[CM]at Ey;rw[Ey];exact⟨_,r9⟩
             |some d=>
              simp only[CM]at Ey
              split at Ey
              . rename_i υ hυ
                subst Ey
                unfold wr at hυ
                split at hυ
                . obtain rfl:=AAR hυ
                  simp only[AAP,bne_iff_ne]at LJ
                  rw[BN _ _ (Ne.symm LJ.1.1),Pa]at r9
                  split at r9
                  . cases hx:τ1 f.r with
                    |own b0 k0 KT=>rw[hx]at r9;simp only[C8]at r9;cases r9;exact⟨_,rfl⟩
                    |_=>rw[hx]at r9;simp only[C8]at r9;first| (split at r9<;>cases r9;done)|cases r9
                  . exact⟨_,r9⟩
                . cases hυ
              . exact Ey.elim
           . exact Ey.elim
       . cases Na
   . -- behind the index
     rw[AAX D5]at Na
     have YT:L f.i2=true:=Jq f.i2 Na
     refine wpOp_mono ?_ (Hw hG Ha HT ET Q h1)
     intro a' w' hr
     exact⟨hr,λhx=>by simp[YT]at hx⟩
theorem Z9 {f:rH} (aZ9:List BH):∀{σ:Sg} {K:Sg->Prop},P7 P G f aZ9 K σ->∃q:Nat->Sg,q 0=σ/\(∀i io,aZ9[i]? =some io->KH P G io (· =q (i+1)) (q i))/\(∀i,i<aZ9.length->ZI f.kb f.off (q i f.r)=true)/\K (q aZ9.length):=by
 induction aZ9 with
 |nil=>intro σ K h;exact⟨λ_=>σ,rfl,λi io hi=>by simp at hi,λi hi=>by simp at hi,h⟩
 |cons o os ih=>
  intro σ K h
  obtain⟨hb,h⟩:=h
  obtain⟨τ,h1,h2⟩:=OJ.1 h
  obtain⟨q,q0,q1,q2,q3⟩:=ih h2
  refine⟨λi=>match i with|0=>σ|i+1=>q i,rfl,λi io hi=> ?_,λi hi=> ?_,by simpa using q3⟩
  . cases i with
    |zero=>
     simp only[AAw,AAN]at hi
     subst hi
     simp only[q0];exact h1
    |succ i=>exact q1 i io (by simpa using hi)
  . cases i with
    |zero=>exact hb
    |succ i=>exact q2 i (by simpa using hi)
theorem floRun {f:rH} {aZ9 bs:List BH} {K:Sg->Prop} {σ:Sg} (h:P7 P G f aZ9 (Mo P G bs K) σ):∃q:Nat->Sg,q 0=σ/\(∀i io,(aZ9++bs)[i]? =some io->KH P G io (· =q (i+1)) (q i))/\(∀i,i<aZ9.length->ZI f.kb f.off (q i f.r)=true)/\K (q (aZ9++bs).length):=by
 obtain⟨q,q0,q1,q2,q3⟩:=Z9 aZ9 h
 obtain⟨p,p0,p1,p2⟩:=QS bs q3
 refine⟨λi=>if i<aZ9.length then q i else p (i-aZ9.length),?_,λi io hi=> ?_,λi hi=> ?_,?_⟩
 . simp only;split
   . exact q0
   . rename_i hx
     have:aZ9.length=0:=by omega
     rw[this,Nat.sub_zero,p0,this];exact q0
 . by_cases h1:i<aZ9.length
   . rw[AAr h1]at hi
     have:=q1 i io hi
     simp only[h1,AAs]
     by_cases h2:i+1<aZ9.length
     . simp only[h2,AAs];exact this
     . have e:i+1=aZ9.length:=by omega
       simp only[h2,AAe]
       rw[e,Nat.sub_self,p0,← e];exact this
   . rw[AAt (by omega)]at hi
     have:=p1 _ io hi
     simp only[h1,AAe,show¬i+1<aZ9.length by omega]
     rw[show i+1-aZ9.length=i-aZ9.length+1 by omega];exact this
 . simp only[hi,AAs];exact q2 i hi
 . simp only[AA1,show¬aZ9.length+bs.length<aZ9.length by omega,AAe,Nat.add_sub_cancel_left];exact p2
end Go.Abs
namespace Go.Abs
variable {G:Gi} {P:Program} {w:World}
theorem Yu {ops:Array Oper} {Q:Exit->Act->World->Prop} {i:Nat} {o:Oper} {a:Act} {K:Act->World->Prop} {J:Array Value->Prop} (hi:ops[i]? =some o) (hJ:∀(b:Act) v,b.tmps=a.tmps->J (b.put o.dst v).tmps) (h:wpOp P ops Q i K a w):
 wpOp P ops Q i (λa' w'=>K a' w'/\J a'.tmps) a w:=by
 unfold wpOp at h ⊢
 rw[hi]at h ⊢
 simp only at h ⊢
 by_cases hw:Region.wanted o (yielded ops a.tmps)=true
 . simp only[hw,AAs]at h ⊢
   refine h.imp (λh=> ?_) id
   unfold Oper.wp at*
   generalize (execOp a.eval o).run P w=r at*
   cases r with
   |ok x w'=>
    cases x with
    |value v=>exact⟨h,hJ _ _ rfl⟩
    |skip=>exact⟨h,hJ _ _ rfl⟩
    |defer d=>exact⟨h,hJ _ _ rfl⟩
    |enter f args=>
     simp only[Oper.upon]at h ⊢
     refine Calls.mono h λe w'' he=> ?_
     cases e with
     |returned v=>exact⟨he,hJ _ _ rfl⟩
     |panicked chain=>exact he
     |outgrown=>exact he
    |row row args=>
     simp only[Oper.upon]at h ⊢
     exact Rows.mono h λv w'' he=>⟨he,hJ _ _ rfl⟩
    |_=>simp only[Oper.upon]at h
   |halt x w'=>
    cases x with
    |panic v=>exact h
    |_=>simp only[Oper.upon]at h
 . simp only[hw]at h ⊢
   exact⟨h,hJ _ _ rfl⟩
def rnX (d r:Nat):Operand->Operand
 | .tmp s=>if s=d then .tmp r else .tmp s
 |x=>x
def iW (d r:Nat):Op->Op
 | .indexAddr t x y=>.indexAddr t (rnX d r x) y
 | .nilCheck x=>.nilCheck (rnX d r x)
 | .extract x k=>.extract (rnX d r x) k
 | .call ⟨.value f,xs,ts⟩=>.call ⟨.value f,xs.map (rnX d r),ts⟩
 |o=>o
theorem Si {a:Act} {d r:Nat} (h:a.tmps.getD d undef=a.tmps.getD r undef) (x:Operand):a.eval (rnX d r x)=a.eval x:=by
 cases x with
 |tmp s=>
  simp only[rnX]
  split
  . rename_i e;subst e;simp only[Act.eval];exact h.symm
  . rfl
 |_=>rfl
theorem qG {a:Act} {d r:Nat} (h:a.tmps.getD d undef=a.tmps.getD r undef) (o:Oper):execOp a.eval {o with op:=iW d r o.op}=execOp a.eval o:=by
 have e:a.eval ∘ rnX d r=a.eval:=funext λx=>Si h x
 obtain⟨dst,op,ty,ps,af,gd⟩:=o
 cases op with
 |indexAddr t x y=>simp only[execOp,iW,Si h]
 |nilCheck x=>simp only[execOp,iW,Si h]
 |extract x k=>simp only[execOp,iW,Si h]
 |call c=>
  obtain⟨cl,xs,ts⟩:=c
  cases cl with
  |value f=>simp only[execOp,iW,resolve,Array.map_map,e]
  |_=>rfl
 |_=>rfl
def Tw (DE:List BH) (i1:Nat):ABp Nat:=match DE[i1]? with
 |some ⟨_,.flk _ k,_⟩=>some k
 |_=>none
def arO (o:ABp Nat) (v:Value):Prop:=match o with
 |some k=>∃vs:Array Value,v= .tuple vs/\k<vs.size
 |none=>True
def kC (P:Program) (G:Gi) (n:Nat) (fs:List (Nat×Nat×Nat×Nat)) (ops:Array Oper) (DE:List BH) (M:List Nat) (i:Nat) (o:Oper) (io:BH):Bool:=
 DX G n o.dst io.dst&&
 (match fs.find? (·.2.1==i)with
  |some (r,_,_,d1)=>o.guard.isNone&&io.guard.isNone&&(match io.op,io.dst with| .fl,some d=>d.d==d1| .flk (.t x) _,some d=>d.d==d1&&x==r|_,_=>false)&&(match o.op with| .move (.tmp s)=>s==r|_=>false)&&
   fs.all λf=>f.1 != d1&&(if f.2.1==i then f.1==r&&f.2.2.2==d1 else f.2.2.2 != d1)
  |none=>(match io.dst with|some d=>fs.all λf=>(f.1 != d.d||(M.getD f.2.1 0).testBit i)&&f.2.2.2 != d.d|none=>true)&&
   (match io.op with
   | .fl=>o.guard.isNone&&io.guard.isNone&&io.dst.isSome&&(match o.op with
    | .extract (.tmp t) k=>fs.any λf=>f.2.2.2==t&&(M.getD i 0).testBit f.2.1&&(match Tw DE f.2.1 with|some m=>decide (k≤m)|none=>false)
    |_=>false)
   |_=>match fs.find? (·.2.2.1==i)with
    |some (r,i1,_,d1)=>o.guard.isNone&&(M.getD i 0).testBit i1&&Ga P G n (ops.setIfInBounds i {o with op:=iW d1 r o.op}) {o with op:=iW d1 r o.op} io
    |none=>Ga P G n ops o io))
def fJ (P:Program) (G:Gi) (n:Nat) (fs:List (Nat×Nat×Nat×Nat)) (ops:Array Oper) (DE:List BH):Bool:=
 decide (DE.length=ops.size)&&(fs.all λf=>decide (f.2.1<ops.size))&&K0 G ops.toList DE&&
 (List.range ops.size).all λi=>match ops[i]?,DE[i]? with
  |some o,some io=>kC P G n fs ops DE (UK ops.toList []) i o io
  |_,_=>false
theorem tup_ar {δ:Nat->DV} {Fr:Nat->Nat->Prop} {S:Nat->Prop} (h:St G w S δ Fr) {r k:Nat} {cs:List AV} (hr:(δ r).er= .BJ cs) (hk:k<cs.length):∃vs:Array Value,(δ r).Aq= .tuple vs/\k<vs.size:=by
 have hl:=(h.ok r).KQ
 cases hδ:δ r with
 |lf a v=>rw[hδ]at hl hr;cases hl with|lf _ _ hl=>simp only[Ea]at hr;subst hr;simp[CR]at hl
 |own=>rw[hδ]at hr;simp at hr
 |agg=>rw[hδ]at hr;simp at hr
 |BJ ds=>rw[hδ]at hr;simp only[Iz,AV.BJ.injEq]at hr;subst hr;exact⟨_,Km _,by simpa using hk⟩
theorem nY {n:Nat} {w0:World} {S0 U0:Nat->Prop} (hG:XY w0 S0 U0) {ops:Array Oper} {K:Sg->Prop} (Q:Exit->Act->World->Prop) (hQ:∀a w σ,Rel G n w0 S0 U0 a w σ->K σ->Q .normal a w) {DE:List BH} {a:Act} {w:World} {σ:Sg} {fs:List (Nat×Nat×Nat×Nat)}
 (h:Rel G n w0 S0 U0 a w σ) (hc:fJ P G n fs ops DE=true) (B8:Mo P G DE K σ):
 wpAny P .any ops Q ops.size (Array.replicate ops.size false) a w:=by
 simp only[fJ,AAP,AAf]at hc
 obtain⟨⟨⟨hN,n2⟩,aX⟩,Hm⟩:=hc
 rw[AAU]at n2 Hm
 obtain⟨q,xI,GN,hK⟩:=QS DE B8
 have Et:∀i o io,ops[i]? =some o->DE[i]? =some io->kC P G n fs ops DE (UK ops.toList []) i o io=true:=by
  intro i o io h1 h2
  have hi:i<ops.size:=(AAz.1 h1).1
  have:=Hm i (by simpa using hi)
  rw[h1,h2]at this
  exact this
 refine RS Q h hN ?_ aX q xI GN hK (λL a _=>∀f∈fs,L f.2.1=true->a.tmps.getD f.2.2.2 undef=a.tmps.getD f.1 undef/\arO (Tw DE f.2.1) (a.tmps.getD f.2.2.2 undef)) (λ_ a w σ _ _ h k=>hQ a w σ h k) ?_ ?_
 . intro i o io h1 h2 d hd
   have:=Et i o io (by simpa using h1) h2
   simp only[kC,AAP]at this
   have h3:=this.1
   rw[hd]at h3
   cases ho:o.dst with
   |none=>rw[ho]at h3;simp[DX]at h3
   |some t=>rw[ho]at h3;simp only[DX,AAP,AAd]at h3;exact h3.1.2
 . intro f hf hx
   have:=n2 f hf
   simp only[AAf]at this
   simp[AAh,this]at hx
 . intro L i o io a w σ τ' h1 h2 wV hLi Jq LX hJ Ha ET hτs
   have Jc:=Et i o io h1 h2
   simp only[kC,AAP]at Jc
   obtain⟨KM,Jc⟩:=Jc
   split at Jc
   . rename_i r _ _ d1 hfind
     simp only[AAP,ABC,AAU,bne_iff_ne]at Jc
     obtain⟨⟨⟨⟨gP,MX⟩,k1⟩,k2⟩,k3⟩:=Jc
     obtain⟨dst,lG,g⟩:=io
     simp only at MX KM k1
     subst MX
     split at k2
     . rename_i s ho
       simp only[AAd]at k2
       subst k2
       obtain⟨S,δ,Fr,hn,Dv,ha,rfl,Bs,EO,CN⟩:=Ha
       have key:∃d,dst=some d/\d.d=d1/\wr d .dead (λs=>(δ s).er)=some τ'/\arO (Tw DE i) (a.tmps.getD s undef):=by
        split at k1
        . rename_i d
          refine⟨d,rfl,by simpa using k1,?_,by simp[Tw,h2,arO]⟩
          simp only[KH,Dp,Fk,valOf]at ET
          split at ET
          . rename_i υ hυ;rw[hυ,ET]
          . exact ET.elim
        . rename_i x k d
          simp only[AAP,AAd]at k1
          obtain⟨k1,rfl⟩:=k1
          simp only[KH,Dp,Fk,valOf]at ET
          cases hx:(δ x).er with
          |BJ cs=>
           simp only[hx]at ET
           by_cases hk:k<cs.length
           . simp only[hk,AAs]at ET
             refine⟨d,rfl,k1,?_,?_⟩
             . split at ET
               . rename_i υ hυ;rw[hυ,ET]
               . exact ET.elim
             . simp only[Tw,h2,arO]
               rw[ha x]
               exact tup_ar Bs hx hk
           . simp[hk]at ET
          |_=>simp[hx]at ET
        . cases k1
       obtain⟨d,rfl,k1,LY,har⟩:=key
       have hd:=EJ (a:=a) KM hn
       have Gq:∀u s,(a.put o.dst u).tmps.getD s undef=if s=d.d then u else a.tmps.getD s undef:=λu s=>by rw[hd.1,IE a d.d u hd.2.2.2 s]
       rw[← Ea .dead (a.tmps.getD s undef)]at LY
       refine PL (u:=a.tmps.getD s undef) h1 gP ?_ ⟨⟨τ',Sh (D:=.lf .dead (a.tmps.getD s undef)) hn Dv ha Bs EO CN hd (.lf _ _ _ trivial (λ_ h=>h)) (C3.dead _) LY,rfl⟩,λf hf hx=> ?_⟩
       . simp[execOp,ho,Act.eval]
       . obtain⟨j1,j2⟩:=k3 f hf
         rw[Gq,Gq,k1,AAX j1]
         split at j2
         . rename_i e
           simp only[AAP,AAd]at j2 e
           rw[AAY j2.2,j2.1,e]
           exact⟨rfl,har⟩
         . rename_i e
           simp only[bne_iff_ne]at j2
           rw[AAX j2]
           refine hJ f hf ?_
           simp only[AAx]at hx
           exact hx.resolve_right e
     . cases k2
   . rename_i bE
     simp only[AAP]at Jc
     obtain⟨k1,Jc⟩:=Jc
     have hJ':∀(b:Act) v,b.tmps=a.tmps->∀f∈fs,(L f.2.1||f.2.1==i)=true->(b.put o.dst v).tmps.getD f.2.2.2 undef=(b.put o.dst v).tmps.getD f.1 undef/\arO (Tw DE f.2.1) ((b.put o.dst v).tmps.getD f.2.2.2 undef):=by
      intro b v hb f hf hx
      have e1:¬(f.2.1==i)=true:=List.find?_eq_none.1 bE f hf
      have KY:L f.2.1=true:=by simpa[e1]using hx
      have hj:=hJ f hf KY
      cases r8:o.dst with
      |none=>simp only[Act.put,hb];exact hj
      |some t=>
       cases lA:io.dst with
       |none=>rw[r8,lA]at KM;simp[DX]at KM
       |some d=>
        rw[r8,lA]at KM
        rw[lA]at k1
        simp only[DX,AAP,AAd]at KM
        simp only[AAU,AAP,AAx,bne_iff_ne]at k1
        have ht:t=d.d:=KM.1.1.1
        obtain⟨u1,u2⟩:=k1 f hf
        have u1:f.1≠d.d:=u1.elim id λdK=>by
         have h3:=LX f.2.1 (AAa (n2 f hf)) KY i dK
         rw[hLi]at h3;cases h3
        simp only[Act.put,hb,AAh,ABJ]
        rw[AAX (by rw[ht];exact Ne.symm u2),AAX (by rw[ht];exact Ne.symm u1)]
        simpa[AAh]using hj
     split at Jc
     . rename_i hfl0
       simp only[AAP,ABC,Option.isSome_iff_exists]at Jc
       obtain⟨⟨⟨gP,MX⟩,d,lA⟩,Jc⟩:=Jc
       obtain⟨dst,lG,g⟩:=io
       simp only at MX KM k1 lA hfl0
       subst MX lA hfl0
       split at Jc
       . rename_i t k ho
         rw[List.any_eq_true]at Jc
         obtain⟨f,hf,Jc⟩:=Jc
         simp only[AAP,AAd]at Jc
         obtain⟨⟨ht,hb⟩,hk⟩:=Jc
         have hj:=hJ f hf (Jq _ hb)
         split at hk
         . rename_i m hm
           rw[hm]at hj
           obtain⟨vs,hv,hmv⟩:=hj.2
           have hkv:k<vs.size:=Nat.lt_of_le_of_lt (AAa hk) hmv
           obtain⟨S,δ,Fr,hn,Dv,ha,rfl,Bs,EO,CN⟩:=Ha
           have hd:=EJ (a:=a) KM hn
           have LY:wr d (DV.lf .dead vs[k]).er (λs=>(δ s).er)=some τ':=by
            simp only[KH,Dp,Fk,valOf]at ET
            split at ET
            . rename_i υ hυ;rw[Ea,hυ,ET]
            . exact ET.elim
           refine PL (u:=vs[k]) h1 gP ?_ ⟨⟨τ',Sh (D:=.lf .dead vs[k]) hn Dv ha Bs EO CN hd (.lf _ _ _ trivial (λ_ h=>h)) (C3.dead _) LY,rfl⟩,λf hf hx=>hJ' a _ rfl f hf hx⟩
           simp only[execOp,ho,Act.eval,← ht,hv,Instr.extract,Array.getElem?_eq_getElem hkv]
           rfl
         . cases hk
       . cases Jc
     split at Jc
     . rename_i r i1 _ d1 hfind
       simp only[AAP,ABC]at Jc
       obtain⟨⟨gP,hb⟩,Jc⟩:=Jc
       have hj:=(hJ _ (ABb hfind) (Jq _ hb)).1
       have key:=Hw hG Ha Jc ET Q (i:=i) (by simp[wV])
       refine Yu h1 (J:=λtm=>∀f∈fs,(L f.2.1||f.2.1==i)=true->tm.getD f.2.2.2 undef=tm.getD f.1 undef/\arO (Tw DE f.2.1) (tm.getD f.2.2.2 undef)) (λb v hb=>hJ' b v hb) ?_
       unfold wpOp at key ⊢
       rw[h1]
       simp only[Array.getElem?_setIfInBounds_self_of_lt wV,Region.wanted,gP,AAs]at key ⊢
       unfold Oper.wp Oper.asks at*
       have hx:=qG hj o
       simp only[gP]at hx
       rw[hx]at key
       exact key
     . exact Yu h1 (J:=λtm=>∀f∈fs,(L f.2.1||f.2.1==i)=true->tm.getD f.2.2.2 undef=tm.getD f.1 undef/\arO (Tw DE f.2.1) (tm.getD f.2.2.2 undef)) (λb v hb=>hJ' b v hb) (Hw hG Ha Jc ET Q h1)
end Go.Abs
namespace Go.Abs
variable {G:Gi} {P:Program} {w:World}
theorem Rr {L:Nat->Bool} {W:Nat->List Nat} {x j:Nat} (hL:L j=true) (hx:x∈W j):∀m,j<m->j<Eu L W x m
 |0,h=>absurd h (Nat.not_lt_zero _)
 |m+1,h=>by
  simp only[Eu]
  split
  . omega
  . rename_i hm
    by_cases e:j=m
    . subst e;exact absurd ⟨hL,hx⟩ hm
    . exact Rr hL hx m (by omega)
theorem zA (p:List Step):∀{t x:AV},sub t p=some x->put t p x=some t:=by
 induction p with
 |nil=>intro t x h;simp only[sub,AAN]at h;subst h;rfl
 |cons s p ih=>
  obtain⟨i,j,k⟩:=s
  intro t x h
  cases t with
  |own b k' rows=>
   simp only[sub]at h
   split at h
   . rename_i row hi
     split at h
     . rename_i c hj
       obtain⟨hi1,hi2⟩:=AAQ.1 hi
       obtain⟨hj1,wX⟩:=AAQ.1 hj
       simp only[put,hi,hj,ih h]
       rw[← wX,List.set_getElem_self,← hi2,List.set_getElem_self]
     . cases h
   . cases h
  |agg cs=>
   simp only[sub]at h
   split at h
   . rename_i c hj
     obtain⟨hj1,wX⟩:=AAQ.1 hj
     simp only[put,hj,ih h]
     rw[← wX,List.set_getElem_self]
   . cases h
  |BJ cs=>
   simp only[sub]at h
   split at h
   . rename_i c hj
     obtain⟨hj1,wX⟩:=AAQ.1 hj
     simp only[put,hj,ih h]
     rw[← wX,List.set_getElem_self]
   . cases h
  |_=>simp[sub]at h
theorem sub_k {i j:Nat} (p:List Step) (k k':Nat):∀{t:AV},sub t (p++[(i,j,k)])=sub t (p++[(i,j,k')]):=by
 induction p with
 |nil=>intro t;cases t<;>simp[sub]
 |cons s p ih=>obtain⟨a,b,c⟩:=s;intro t;cases t<;>simp[sub,ih]
theorem zT {S:Nat->Prop} {δ:Nat->DV} {Fr:Nat->Nat->Prop} (h:St G w S δ Fr) {a:Act} (ha:Rd δ a) {o:Oper} {t:TypeId} {x u:Operand} {n s:Nat} {z:Ar} (ho:o.op= .store t x u) (hn:Fu P t=some n) (hc:Bt x (.t s)=true) (ML:Bt u z=true) {σ':Sg}
 (he:Fk G (.st n (.t s) z) none (λs=>(δ s).er)=some σ'):∃w' b off,(execOp a.eval o).run P w= .ok .skip w'/\(∀x,x≠b->w'.heap[x]? =w.heap[x]?)/\a.tmps.getD s undef= .pointer (some ⟨b,off,none⟩):=by
 obtain⟨hy,Ku⟩:=Ah hc ha
 obtain⟨hz,wS⟩:=Ah ML ha
 simp only[Fk]at he
 split at he
 . rename_i v τ ht
   obtain⟨δ1,F1,D,Ff,Et,Iw,Er,Qc⟩:=h.tk hz ht
   subst Iw
   subst Er
   split at he
   . rename_i r p i j k UN
     obtain⟨vh,bx,Aj,b,Fx,Bb,hb,hp,CH,_⟩:=Et.st.Dr UN
     split at he
     . rename_i Zo k' rows oP
       obtain⟨D',hD',vY⟩:=DT (Et.st.ok r).KQ oP
       rw[Bb]at hD'
       obtain rfl:=AAR hD'
       simp only[EE,AV.own.injEq]at vY
       obtain⟨rfl,rfl,rfl⟩:=vY
       split at he
       . rename_i row DZ
         rw[AAZ,AAm]at DZ
         obtain⟨IH,hrD,rfl⟩:=DZ
         split at he
         . rename_i E7
           obtain⟨hlen,BR,hjn⟩:=E7
           split at he
           . rename_i t' Bs
             have hm:=Kt D Et.ok.KQ
             have hl:(Eh D).length=n:=by rw[← hlen,← hm];simp
             have S5:=Kz Et.ok BR
             rw[← hm]at Bs BR
             obtain⟨w',td,F',B8,OW,wR,QC,KN,V3,_⟩:=Yq (P:=P) (Eh D) (Et.st.ok r) Bb hb hrD (by rw[hl];simpa using hjn) (MR Et.ok) (λx hx KY=>Et.LF r x KY hx) BR Bs 0 (i*k+j) rfl
             have hpt:(δ s).Aq= .pointer (some ⟨b,i*k+j,none⟩):=by rw[← Et.Aq s];exact hp
             refine⟨w',b,i*k+j,?_,V3,by rw[ha s];exact hpt⟩
             have Po:¬((CQ δ z).cells.size≠n):=by rw[← Qc,S5];simp[hl]
             have GX:(CQ δ z).cells.toList=(Eh D).map DV.Aq:=by rw[← Qc,S5]
             have hpt':CQ δ (.t s)= .pointer (some ⟨b,i*k+j,none⟩):=hpt
             simp only[execOp,ho,Ku,wS,hpt',Instr.storeAt,Instr.sureAddr,storeVar,Sem.run_bind,Sem.run_pure,Result.andThen_ok,run_sizeOf hn,Sem.run_ite,Po,AAe,GX,B8]
           . cases he
         . cases he
       . cases he
     . cases he
   . cases he
 . cases he
theorem aA {f:rG} (os:List BH):∀{m:Nat} {σ:Sg} {K:Sg->Prop},NX P G f m os K σ->∃q:Nat->Sg,q 0=σ/\(∀i io,os[i]? =some io->KH P G io (· =q (i+1)) (q i))/\(∀i,i≤os.length->p6 f (m+i) (q i)=true)/\K (q os.length):=by
 induction os with
 |nil=>intro m σ K h;exact⟨λ_=>σ,rfl,λi io hi=>by simp at hi,λi hi=>by simp only[ABR,Nat.le_zero]at hi;subst hi;exact h.1,h.2⟩
 |cons o os ih=>
  intro m σ K h
  obtain⟨hb,h⟩:=h
  obtain⟨τ,h1,h2⟩:=OJ.1 h
  obtain⟨q,q0,q1,q2,q3⟩:=ih h2
  refine⟨λi=>match i with|0=>σ|i+1=>q i,rfl,λi io hi=> ?_,λi hi=> ?_,by simpa using q3⟩
  . cases i with
    |zero=>
     simp only[AAw,AAN]at hi
     subst hi
     simp only[q0];exact h1
    |succ i=>exact q1 i io (by simpa using hi)
  . cases i with
    |zero=>exact hb
    |succ i=>rw[show m+(i+1)=m+1+i from by omega];exact q2 i (by simpa using hi)
def aM (P:Program) (G:Gi) (n:Nat) (f:rG) (ops:Array Oper) (M:List Nat) (i:Nat) (o:Oper) (io:BH):Bool:=
 if i=f.i12 then o.guard.isNone&&o.dst.isNone&&io.guard.isNone&&io.dst.isNone&&(match io.op with| .std (.t s)=>s==f.ap|_=>false)&&
  (match o.op with| .store t (.tmp x) (.tmp u)=>x==f.ap&&u==f.s&&Fu P t==some 1|_=>false)&&(M.getD i 0).testBit f.i7&&(M.getD i 0).testBit f.i11
 else Ga P G n ops o io&&((M.getD f.i12 0).testBit i||(o.guard.isNone&&io.guard.isNone&&(match io.dst with|some d=>d.d != f.s&&d.d != f.ap|none=>true)&&
  (if i=f.i9 then o.dst.isNone&&io.dst.isNone&&(match io.op,o.op with| .st n (.t s) z,.store t x u=>s==f.e&&Fu P t==some n&&Bt x (.t s)&&Bt u z|_,_=>false)&&(M.getD i 0).testBit f.i8
   else YN io.op)))
def fF (P:Program) (G:Gi) (n:Nat) (f:rG) (ops:Array Oper) (DE:List BH):Bool:=
 decide (DE.length=ops.size)&&decide (f.i12<ops.size)&&K0 G ops.toList DE&&(GC G DE f.i7).contains (2*f.s+1)&&(GC G DE f.i8).contains (2*f.e+1)&&(GC G DE f.i11).contains (2*f.ap+1)&&
 ((G.GJ f.e).all λr=> !(G.GJ f.ap).contains r)&&decide (f.i7<ops.size)&&decide (f.i8<ops.size)&&decide (f.i11<ops.size)&&
 (List.range ops.size).all λi=>match ops[i]?,DE[i]? with
  |some o,some io=>aM P G n f ops (UK ops.toList []) i o io
  |_,_=>false
def AJ (f:rG) (L:Nat->Bool) (a:Act) (w:World):Prop:=L f.i12=true->∃b o arr E,a.tmps.getD f.ap undef= .pointer (some ⟨b,o,none⟩)/\w.heap[b]? =some (.cells arr E (0,0))/\arr[o]? =some (a.tmps.getD f.s undef)
theorem ZY {b o:Nat} {v:Value} {arr:Array Value} {E:TypeId} {fz:Nat×Nat} (hb:w.heap[b]? =some (.cells arr E fz)) (ho:arr[o]? =some v):w.setCell ⟨b,o,none⟩ v=w:=by
 have e:arr.setIfInBounds o v=arr:=by
  apply Array.ext_getElem?
  intro i
  rw[ABJ]
  split
  . rename_i h;subst h
    obtain⟨h1,h2⟩:=AAz.1 ho
    rw[AAY h1,ho]
  . rfl
 obtain⟨heap,_⟩:=w
 simp only[World.setCell,World.mk.injEq,and_true]at hb ⊢
 apply Array.ext_getElem?
 intro i
 rw[ABX]
 split
 . rename_i h;subst h;rw[hb];simp[e]
 . rfl
theorem s9 {σ:Sg} {s:Nat} (h:Qh (σ s)=true):∃r p i j k,σ s= .KG r p i j k/\Dr σ (.t s)=some (r,p,i,j,k):=by
 cases hs:σ s with
 |KG r p i j k=>exact⟨r,p,i,j,k,rfl,by simp[Dr,hs]⟩
 |_=>rw[hs]at h;simp[Qh]at h
theorem qW {ops:Array Oper} {Q:Exit->Act->World->Prop} {i:Nat} {o:Oper} {a:Act} {w':World} {K:Act->World->Prop} (hi:ops[i]? =some o) (hg:o.guard=none) (B8:(execOp a.eval o).run P w= .ok .skip w') (h:K (a.put o.dst undef) w'):wpOp P ops Q i K a w:=by
 unfold wpOp
 rw[hi]
 simp only[Region.wanted,hg,AAs]
 refine .inl ?_
 unfold Oper.wp
 rw[B8]
 exact h
theorem jI {ops:Array Oper} {Q:Exit->Act->World->Prop} {i:Nat} {o:Oper} {a:Act} {w':World} {K:Act->World->Prop} (hi:ops[i]? =some o) (hg:o.guard=none) (B8:(execOp a.eval o).run P w= .ok .skip w') (h:wpOp P ops Q i K a w):wpOp P ops Q i (λa1 w1=>K a1 w1/\a1=a.put o.dst undef/\w1=w') a w:=by
 unfold wpOp at h ⊢
 rw[hi]at h ⊢
 simp only[Region.wanted,hg,AAs]at h ⊢
 refine h.imp (λh=> ?_) id
 unfold Oper.wp at h ⊢
 rw[B8]at h ⊢
 exact⟨h,rfl,rfl⟩
theorem mN {n:Nat} {w0:World} {S0 U0:Nat->Prop} (hG:XY w0 S0 U0) {ops:Array Oper} {K:Sg->Prop} (Q:Exit->Act->World->Prop) (hQ:∀a w σ,Rel G n w0 S0 U0 a w σ->K σ->Q .normal a w) {DE:List BH} {a:Act} {w:World} {σ:Sg} {f:rG}
 (h:Rel G n w0 S0 U0 a w σ) (hc:fF P G n f ops DE=true) (B8:NX P G f 0 DE (KH P G ⟨none,.st 1 (.t f.ap) (.t f.s),none⟩ K) σ):
 wpAny P .any ops Q ops.size (Array.replicate ops.size false) a w:=by
 simp only[fF,AAP,AAf,AAu]at hc
 obtain⟨⟨⟨⟨⟨⟨⟨⟨⟨⟨hN,n12⟩,aX⟩,w7⟩,w8⟩,w11⟩,hdj⟩,n7⟩,n8⟩,n11⟩,Hm⟩:=hc
 rw[AAU]at hdj Hm
 obtain⟨q,xI,GN,CH,hK⟩:=aA DE B8
 simp only[ABS]at CH
 have Jc:∀i o io,ops[i]? =some o->DE[i]? =some io->aM P G n f ops (UK ops.toList []) i o io=true:=by
  intro i o io h1 h2
  have hi:i<ops.size:=(AAz.1 h1).1
  have:=Hm i (by simpa using hi)
  rw[h1,h2]at this
  exact this
 obtain⟨o12,io12,p1,p2⟩:∃o io,ops[f.i12]? =some o/\DE[f.i12]? =some io:=⟨ops[f.i12],DE[f.i12]'(by omega),by simp[n12],by simp[hN,n12]⟩
 have h12:=Jc _ _ _ p1 p2
 simp only[aM,AAY,AAP,ABC]at h12
 obtain⟨⟨⟨⟨⟨⟨⟨g1,g2⟩,g3⟩,g4⟩,g5⟩,g6⟩,b7⟩,b11⟩:=h12
 obtain⟨ty,fU,Po⟩:∃ty,o12.op= .store ty (.tmp f.ap) (.tmp f.s)/\Fu P ty=some 1:=by
  split at g6
  . rename_i ty x u ho
    simp only[AAP,AAd]at g6
    obtain⟨⟨rfl,rfl⟩,h3⟩:=g6
    exact⟨ty,ho,h3⟩
  . cases g6
 have ei12:io12=⟨none,.std (.t f.ap),none⟩:=by
  obtain⟨d,op,g⟩:=io12
  simp only at g3 g4 g5
  subst g3;subst g4
  split at g5
  . simp only[AAd]at g5;rw[g5]
  . cases g5
 -- where the slots stand
 have own:∀{L:Nat->Bool} {σ:Sg},L f.i7=true->σ f.s=q (Eu L (GC G DE) (2*f.s+1) ops.size) f.s->OZ (σ f.s)=true:=by
  intro L σ hL hs
  have h1:=Rr hL w7 ops.size n7
  have h2:=WH L (GC G DE) (2*f.s+1) ops.size
  have h3:=CH _ (by omega:Eu L (GC G DE) (2*f.s+1) ops.size≤DE.length)
  simp only[p6,AAP,AAx,AAf]at h3
  rw[hs];exact h3.1.1.resolve_left (by omega)
 have adr8:∀{L:Nat->Bool} {σ:Sg},L f.i8=true->σ f.e=q (Eu L (GC G DE) (2*f.e+1) ops.size) f.e->Qh (σ f.e)=true:=by
  intro L σ hL hs
  have h1:=Rr hL w8 ops.size n8
  have h2:=WH L (GC G DE) (2*f.e+1) ops.size
  have h3:=CH _ (by omega:Eu L (GC G DE) (2*f.e+1) ops.size≤DE.length)
  simp only[p6,AAP,AAx,AAf]at h3
  rw[hs];exact h3.1.2.resolve_left (by omega)
 have adr11:∀{L:Nat->Bool} {σ:Sg},L f.i11=true->σ f.ap=q (Eu L (GC G DE) (2*f.ap+1) ops.size) f.ap->Qh (σ f.ap)=true:=by
  intro L σ hL hs
  have h1:=Rr hL w11 ops.size n11
  have h2:=WH L (GC G DE) (2*f.ap+1) ops.size
  have h3:=CH _ (by omega:Eu L (GC G DE) (2*f.ap+1) ops.size≤DE.length)
  simp only[p6,AAP,AAx,AAf]at h3
  rw[hs];exact h3.2.resolve_left (by omega)
 -- the slice's store, executed
 have run12:∀{a:Act} {w:World} {b o:Nat} {arr:Array Value} {E:TypeId} {ad:ABp Addr} {m c:Nat} {u:Value},a.tmps.getD f.ap undef= .pointer (some ⟨b,o,none⟩)->w.heap[b]? =some (.cells arr E (0,0))->arr[o]? =some u->a.tmps.getD f.s undef= .slice ad m c->
  (execOp a.eval o12).run P w= .ok .skip (w.setCell ⟨b,o,none⟩ (.slice ad m c)):=by
  intro a w b o arr E ad m c u h1 h2 h3 h4
  have Ed:=O7 (P:=P) (w:=w) (off:=o) (v:=.slice ad m c) h2 h3 rfl
  have e1:a.eval (.tmp f.ap)= .pointer (some ⟨b,o,none⟩):=h1
  have e2:a.eval (.tmp f.s)= .slice ad m c:=h4
  simp only[execOp,fU,e1,e2,Instr.storeAt,Instr.sureAddr,storeVar,Sem.run_bind,Sem.run_pure,Result.andThen_ok,run_sizeOf Po,Sem.run_ite,Value.cells,storeCells]
  simp[Ed,Addr.add,storeCells]
 -- a slice's own slot holds a slice
 have hdr_s:∀{S:Nat->Prop} {δ:Nat->DV} {Fr:Nat->Nat->Prop} {w:World},St G w S δ Fr->OZ (δ f.s).er=true->∃ad m c,(δ f.s).Aq= .slice ad m c:=by
  intro S δ Fr w Bs ho
  have hk:=Bs.ok f.s
  cases hd:δ f.s with
  |own v bx k rows=>
   rw[hd]at ho hk
   cases bx with
   |true=>simp[OZ]at ho
   |false=>obtain⟨a,c,e⟩:=Yn hk;exact⟨a,_,c,by simpa using e⟩
  |lf x v=>
   rw[hd]at ho hk
   cases hk with
   |lf _ _ _ hl=>simp only[Ea]at ho;cases x<;>first|exact hl.elim|simp[OZ]at ho
  |agg=>rw[hd]at ho;simp[OZ]at ho
  |BJ=>rw[hd]at ho;simp[OZ]at ho
 refine RS Q h hN ?_ aX (K:=λσ=>p6 f DE.length σ=true/\KH P G ⟨none,.st 1 (.t f.ap) (.t f.s),none⟩ K σ) q xI GN ⟨CH _ (AAy _),hK⟩ (AJ f) ?_ ?_ ?_
 . intro i o io h1 h2 d hd
   have:=Jc i o io (by simpa using h1) h2
   by_cases e:i=f.i12
   . subst e
     have:io=io12:=by rw[p2]at h2;exact(AAR h2).symm
     subst this
     rw[ei12]at hd
     cases hd
   . simp only[aM,AAX e,AAP]at this
     exact Vg this.1 d hd
 . -- the end: the slice comes into its cell, where it is already
   intro L a w σ hL hJ Ha hKσ
   obtain⟨xD,hKσ⟩:=hKσ
   obtain⟨b,o,arr,E,j1,j2,j3⟩:=hJ (hL _ n12)
   have Bs:=Vb hG (K:=K) Ha (ops:=ops) (o:=o12) (io:=⟨none,.st 1 (.t f.ap) (.t f.s),none⟩) (P:=P) (by simp[Ga,g1,g2,DX,KJ,fU,I5,Po,Bt]) hKσ Q
   obtain⟨ad,m,c,hs⟩:∃ad m c,a.tmps.getD f.s undef= .slice ad m c:=by
    obtain⟨S,δ,Fr,hn,Dv,ha,rfl,Bs,EO,CN⟩:=Ha
    simp only[p6,AAP,AAx,AAf]at xD
    obtain⟨ad,m,c,e⟩:=hdr_s Bs (xD.1.1.resolve_left (by omega))
    exact⟨ad,m,c,(ha _).trans e⟩
   rw[hs]at j3
   have hr:=run12 j1 j2 j3 hs
   rw[ZY j2 j3]at hr
   unfold Oper.wp at Bs
   rw[hr,Oper.upon_skip,g2]at Bs
   obtain⟨σ',h1,h2⟩:=Bs
   exact hQ a w σ' h1 h2
 . intro hx
   simp[AAh,n12]at hx
 . intro L i o io a w σ τ' h1 h2 wV hLi Jq LX hJ Ha ET hτs
   have kU:=Jc i o io h1 h2
   have L12:∀j,((UK ops.toList []).getD f.i12 0).testBit j=true->L f.i12=true->L j=true:=λj hb hl=>LX f.i12 n12 hl j hb
   by_cases e:i=f.i12
   . -- the slice's own store
     subst e
     have:io=io12:=by rw[p2]at h2;exact(AAR h2).symm
     subst this
     have:o=o12:=by rw[p1]at h1;exact(AAR h1).symm
     subst this
     obtain⟨S,δ,Fr,hn,Dv,ha,rfl,Bs,EO,CN⟩:=Ha
     rw[ei12]at ET
     simp only[KH,Dp,Fk]at ET
     split at ET
     . rename_i υ hυ
       split at hυ
       . rename_i r p i j k UN
         split at hυ
         . rename_i QE
           simp only[AAN]at hυ
           subst hυ;subst ET
           have Dh:=own (L:=λj=>(L j||j==f.i12)) (σ:=λs=>(δ s).er) (by simp[Jq _ b7]) (hτs f.s)
           obtain⟨ad,m,c,hsv⟩:=hdr_s Bs Dh
           have hsv':a.tmps.getD f.s undef= .slice ad m c:=(ha _).trans hsv
           obtain⟨vh,bx,Aj,b,Fx,Bb,hb,hp,hokx,hFx⟩:=Bs.Dr UN
           have xH:a.tmps.getD f.ap undef= .pointer (some ⟨b,i*k+j,none⟩):=(ha _).trans hp
           obtain⟨x,hx,hxe⟩:=DT (Bs.ok r).KQ QE
           have hx0:=hx
           rw[Hu,Bb,AAO]at hx
           simp only[Am]at hx
           split at hx
           . rename_i IH DZ
             split at hx
             . rename_i cc BR
               simp only[AAN]at hx
               subst hx
               obtain⟨QA,arr,E,kS,Pm⟩:=Oj hokx hb
               have hold:=Pm i j IH cc DZ BR
               have hr:=run12 xH kS hold hsv'
               obtain⟨t,F',Gq,OW,hsubF,hannt,hFr⟩:=(Bs.ok r).store p Bb DZ BR hb (new:=.lf .dead (.slice ad m c)) (Fn:=λ_=>False) (.lf _ _ _ trivial (λ_ h=>h)) (λ_ h=>h.elim)
               simp only[KZ]at OW
               have UQ:∀x,x≠b->(w.setCell ⟨b,i*k+j,none⟩ (.slice ad m c)).heap[x]? =w.heap[x]? :=λx hx=>Cc _ _ _ _ _ hx
               have hbS:¬S b:=(Bs.ok r).EZ b hFr
               have Zt:∃v0,cc= .lf .dead v0:=by
                cases cc with
                |lf a0 v0=>simp only[Ea]at hxe;subst hxe;exact⟨v0,rfl⟩
                |own=>simp at hxe
                |agg=>simp at hxe
                |BJ=>simp at hxe
               obtain⟨v0,rfl⟩:=Zt
               have hter:t.er=(δ r).er:=by
                obtain⟨t2,q1,q2⟩:=Gd (d:=δ r) (p:=p++[(i,j,k)]) (a:=(δ r).er) (.lf .dead (.slice ad m c)) (Bs.ok r).KQ (by
                 rw[Ea]
                 exact zA _ ((sub_k p k 0).trans QE))
                rw[Gq]at q1
                obtain rfl:=AAR q1
                exact q2
               have dO:∀x,F' x->Fr r x:=λx hx=>(hsubF x hx).elim id False.elim
               have Qe:∀q v bx k rows,Am (δ r) q=some (.own v bx k rows)->∃rows',Am t q=some (.own v bx k rows'):=λq v' Zo k' rows' hq=>by
                have hold2:Am (δ r) (p++[(i,j,k)])=some (.lf .dead v0):=by rw[Hu,Bb];simp[Am,DZ,BR]
                exact QN _ Gq hold2 (by simp) (by simp) (by simp) q v' Zo k' rows' hq
               have hpoke:=Bs.poke (w':=w.setCell ⟨b,i*k+j,none⟩ (.slice ad m c)) r t F' (λx hx=>UQ x (by rintro rfl;exact hbS hx)) (λs hs x hx=>UQ x (by rintro rfl;exact hs (Bs.LF s r _ hx hFr))) OW
                (λs hs x hx hy=>hs (Bs.LF s r x hy (dO x hx))) (by rw[hter];exact Bs.rt r) (Le _ Gq (Bs.al r) (.lf _ _ trivial)) Qe hannt
               refine qW h1 g1 hr ⟨⟨_,⟨S,C1 δ r t,C1 Fr r F',?_,?_,?_,?_,hpoke,EO.trans ?_,λx hx=>by simpa using CN x hx⟩,rfl⟩,λ_=>⟨b,i*k+j,arr.setIfInBounds (i*k+j) (.slice ad m c),E,?_,QM _ _ _ _ _ _ _ kS,?_⟩⟩
               . rw[g2];exact hn
               . rw[g2];exact Dv
               . intro s'
                 rw[g2]
                 simp only[Act.put]
                 by_cases e:s'=r
                 . subst e;rw[A6,hannt];exact ha s'
                 . rw[BN _ _ e];exact ha s'
               . funext s'
                 by_cases e:s'=r
                 . subst e;simp only[A6,hter]
                 . simp only[BN _ _ e]
               . refine⟨rfl,rfl,rfl,by simp,λx _ hU=>UQ x (by rintro rfl;exact hU ⟨r,hFr⟩),λ_ h=>h,λ_ h=>.inl h,λhl x hx=>by simpa using hl x hx,λx hx=>.inl ?_⟩
                 obtain⟨s,hx⟩:=hx
                 by_cases e:s=r
                 . subst e;rw[A6]at hx;exact⟨s,dO x hx⟩
                 . rw[BN _ _ e]at hx;exact⟨s,hx⟩
               . rw[g2];exact xH
               . rw[g2]
                 simp only[Act.put,hsv']
                 have:=(AAz.1 hold).1
                 simp[this]
             . cases hx
           . cases hx
         . cases hυ
       . cases hυ
     . exact ET.elim
   . simp only[aM,AAX e,AAP,AAx,ABC]at kU
     obtain⟨hco,kU⟩:=kU
     have hK:=Hw hG Ha hco ET Q h1
     have hLe:(L f.i12||f.i12==i)=L f.i12:=by rw[show(f.i12==i)=false from by simpa using Ne.symm e,Bool.or_false]
     rcases kU with hb|⟨⟨⟨gP,MX⟩,hd⟩,kU⟩
     . -- ahead of it
       refine wpOp_mono (λa' w' h=>⟨h,λhl=> ?_⟩) hK
       replace hl:=hLe.symm.trans hl
       rw[L12 i hb hl]at hLi;cases hLi
     . split at kU
       . -- the element's store
         rename_i e9
         subst e9
         simp only[AAP,ABC]at kU
         obtain⟨⟨⟨k1,k2⟩,k3⟩,k4⟩:=kU
         obtain⟨dst,lG,g⟩:=io
         simp only at MX k2 k3
         subst MX;subst k2
         split at k3
         . rename_i nn s' z ty' x' u' oS
           simp only[AAP,AAd]at k3
           obtain⟨⟨⟨rfl,m2⟩,m3⟩,m4⟩:=k3
           obtain⟨w',b9,off,hr,Zs,hp9⟩:∃w' b off,(execOp a.eval o).run P w= .ok .skip w'/\(∀x,x≠b->w'.heap[x]? =w.heap[x]?)/\a.tmps.getD f.e undef= .pointer (some ⟨b,off,none⟩):=by
            obtain⟨S,δ,Fr,hn,Dv,ha,rfl,Bs,EO,CN⟩:=Ha
            simp only[KH,Dp]at ET
            split at ET
            . rename_i υ hυ
              exact zT Bs ha oS m2 m3 m4 hυ
            . exact ET.elim
           refine wpOp_mono ?_ (jI h1 gP hr hK)
           rintro a' w1 ⟨⟨σ',YV,rfl⟩,rfl,rfl⟩
           rw[k1]at YV ⊢
           simp only[Act.put]at YV ⊢
           refine⟨⟨_,YV,rfl⟩,λhl=> ?_⟩
           replace hl:=hLe.symm.trans hl
           obtain⟨b,oo,arr,E,j1,j2,j3⟩:=hJ hl
           refine⟨b,oo,arr,E,j1,?_,j3⟩
           rw[Zs b ?_];exact j2
           rintro rfl
           obtain⟨S',δ',Fr',oP,hdef',ha',rfl,Jr,hnx',Tz⟩:=YV
           obtain⟨r1,p1',i1,j1',k1',q1,q2⟩:=s9 (σ:=λs=>(δ' s).er) (adr8 (L:=λj=>(L j||j==f.i9)) (σ:=λs=>(δ' s).er) (by simp[Jq _ k4]) (hτs f.e))
           obtain⟨r2,p2',i2,j2',k2',q3,q4⟩:=s9 (σ:=λs=>(δ' s).er) (adr11 (L:=λj=>(L j||j==f.i9)) (σ:=λs=>(δ' s).er) (by simp[L12 _ b11 hl]) (hτs f.ap))
           obtain⟨v1,bx1,rw1,c1,F1,s1,s2,s3,s4,s5⟩:=Jr.Dr q2
           obtain⟨v2,bx2,rw2,c2,F2,t1,t2,t3,t4,t5⟩:=Jr.Dr q4
           have z1:b=c1:=by
            have:=(ha' f.e).symm.trans hp9
            rw[s3]at this
            simp only[Value.pointer.injEq,AAN,Addr.mk.injEq]at this
            exact this.1.symm
           have z2:b=c2:=by
            have:=(ha' f.ap).symm.trans j1
            rw[t3]at this
            simp only[Value.pointer.injEq,AAN,Addr.mk.injEq]at this
            exact this.1.symm
           have hr12:=Jr.LF r1 r2 b (s5 b (by rw[z1];exact(Oj s4 s2).1)) (t5 b (by rw[z2];exact(Oj t4 t2).1))
           subst hr12
           have u1:=Jr.rt f.e
           have u2:=Jr.rt f.ap
           rw[q1]at u1
           rw[q3]at u2
           simp only[VE,AAu]at u1 u2
           have:=hdj _ u1
           simp[u2]at this
         . cases k3
       . -- a plain one
         rename_i e9
         have hcop:=hco
         simp only[Ga,AAP]at hcop
         have hcop2:I5 P o.op io.op=true:=by
          have:=hcop.2
          cases HT:io.op<;>rw[HT]at this kU<;>first|exact this|simp[YN]at kU
         obtain⟨v,hv⟩:∃v,valOf io.op σ=some v:=by
          obtain⟨dst,lG,g⟩:=io
          simp only at MX kU
          subst MX
          cases dst with
          |none=>cases lG<;>simp[YN]at kU<;>simp[KH,Dp,Fk]at ET
          |some d=>
           simp only[KH]at ET
           cases hv:valOf lG σ with
           |some v=>exact⟨v,rfl⟩
           |none=>cases lG<;>simp[YN]at kU<;>simp[Dp,Fk,hv]at ET
         obtain⟨u,hr⟩:=vK Ha hcop2 kU hv
         have hch:DX G n o.dst io.dst=true:=hcop.1.1
         refine dB h1 gP hr (λhl=> ?_) hK
         replace hl:=hLe.symm.trans hl
         obtain⟨b,oo,arr,E,j1,j2,j3⟩:=hJ hl
         have Gq:∀s,(match io.dst with|some d=>d.d≠s|none=>True)->(a.put o.dst u).tmps.getD s undef=a.tmps.getD s undef:=by
          intro s hs
          cases r8:o.dst with
          |none=>rfl
          |some t=>
           cases lA:io.dst with
           |none=>rw[r8,lA]at hch;simp[DX]at hch
           |some d=>
            rw[r8,lA]at hch
            rw[lA]at hs
            simp only[DX,AAP,AAd]at hch
            have ht:t=d.d:=hch.1.1.1
            simp only[Act.put,AAh,ABJ]
            rw[AAX (by rw[ht];exact hs)]
         refine⟨b,oo,arr,E,?_,j2,?_⟩
         . rw[Gq];exact j1
           cases lA:io.dst with
           |none=>trivial
           |some d=>rw[lA]at hd;simp only[AAP,bne_iff_ne]at hd;exact hd.2
         . rw[Gq];exact j3
           cases lA:io.dst with
           |none=>trivial
           |some d=>rw[lA]at hd;simp only[AAP,bne_iff_ne]at hd;exact hd.1
end Go.Abs
namespace Go.Abs
variable {w w':World} {S S':Nat->Prop} {G:Gi} {δ:Nat->DV} {Fr:Nat->Nat->Prop} {P:Program}
theorem qO {t t' new:DV} (p:List Step) (hp:DA t p new=some t'):Am t' p=some new:=by
 induction p generalizing t t' with
 |nil=>simp only[DA,AAN]at hp;subst hp;rfl
 |cons s p ih=>
  obtain⟨i0,j0,k0⟩:=s
  cases t with
  |lf a v=>simp[DA]at hp
  |own hh b k1 JD=>
   simp only[DA]at hp
   cases hi:JD[i0]? with
   |none=>simp[hi]at hp
   |some row1=>
    simp only[hi]at hp
    cases hj:row1[j0]? with
    |none=>simp[hj]at hp
    |some c=>
     simp only[hj]at hp
     cases hc:DA c p new with
     |none=>simp[hc]at hp
     |some c'=>
      simp only[hc,AAN]at hp
      subst hp
      simp only[Am,AAS (AAQ.1 hi).1,AAS (AAQ.1 hj).1]
      exact ih hc
  |agg cs=>
   simp only[DA]at hp
   cases hj:cs[j0]? with
   |none=>simp[hj]at hp
   |some c=>
    simp only[hj]at hp
    cases hc:DA c p new with
    |none=>simp[hc]at hp
    |some c'=>
     simp only[hc,AAN]at hp
     subst hp
     simp only[Am,AAS (AAQ.1 hj).1]
     exact ih hc
  |BJ cs=>
   simp only[DA]at hp
   cases hj:cs[j0]? with
   |none=>simp[hj]at hp
   |some c=>
    simp only[hj]at hp
    cases hc:DA c p new with
    |none=>simp[hc]at hp
    |some c'=>
     simp only[hc,AAN]at hp
     subst hp
     simp only[Am,AAS (AAQ.1 hj).1]
     exact ih hc
theorem Tf {t:DV} (n d:Nat) (q:List Step) {v:Value} (h:Am t q=some (.lf .dead v)):Am (FU n d t) q=some (.lf .dead v):=by
 induction q generalizing t with
 |nil=>simp only[Am,AAN]at h;subst h;rfl
 |cons s q ih=>
  obtain⟨i,j,k0⟩:=s
  cases t with
  |lf a v=>simp[Am]at h
  |own hh b k1 JD=>rw[K4];exact h
  |agg cs=>
   simp only[Am]at h
   cases hj:cs[j]? with
   |none=>simp[hj]at h
   |some c=>simp only[hj]at h;simp only[Ju,Am,AAZ,hj,AAl];exact ih h
  |BJ cs=>
   simp only[Am]at h
   cases hj:cs[j]? with
   |none=>simp[hj]at h
   |some c=>simp only[hj]at h;simp only[Jv,Am,AAZ,hj,AAl];exact ih h
theorem St.tkd (h:St G w S δ Fr) {r:Nat} {p:List Step} {a:AV} {τ:Sg} (ht:Abs.Zh G r p (λs=>(δ s).er)=some (a,τ)):
 ∃δ' F' D Ff,St G w S δ' F'/\(λs=>(δ' s).er)=τ/\(∀s,(δ' s).Aq=(δ s).Aq)/\Ok w S D Ff/\D.er=a/\Am (δ r) p=some D/\(∀s x,F' s x->¬Ff x)/\
  (∀x,A2 F' x∨Ff x->A2 Fr x)/\Am (δ' r) p=some (.lf .dead D.Aq):=by
 unfold Abs.Zh at ht
 split at ht
 . rename_i b k rows hs
   split at ht
   . rename_i t hp
     simp only[AAN,AAc]at ht
     obtain⟨rfl,rfl⟩:=ht
     obtain⟨D,hD,Er⟩:=DT (h.ok r).KQ hs
     obtain⟨Fo,ho,Bb,Ls⟩:=h.cH r p hD
     obtain⟨td,F',htd,Bs,HZ,C9⟩:=Ls S (.lf .dead D.Aq) (by simp) (.lf _ _ _ trivial (λ_ h=>h)) (λ_ h=>h) (λt b hb _=>(h.ok t).EZ b hb) (by simp) (C3.dead _)
     have oZ:td.er=t:=by
      obtain⟨t',h1,h2⟩:=Gd (d:=δ r) (p:=p) (a:=t) (.lf .dead D.Aq) (h.ok r).KQ (by simpa using hp)
      rw[htd]at h1
      obtain rfl:=AAR h1
      exact h2
     refine⟨_,_,D,Fo,Bs,by rw[My h,oZ],?_,ho,Er,hD,?_,?_,by rw[A6];exact qO p htd⟩
     . intro s;rw[Lr h];split
       . rename_i e;rw[e,C9]
       . rfl
     . intro s x hx hF
       by_cases Fl:s=r
       . subst Fl;rw[A6]at hx;exact((HZ x).1 hx).2 hF
       . rw[BN _ _ Fl]at hx
         exact Fl (h.LF s r x hx (Bb x hF))
     . rintro x (⟨s,hx⟩|hx)
       . by_cases Fl:s=r
         . subst Fl;rw[A6]at hx;exact⟨s,((HZ x).1 hx).1⟩
         . rw[BN _ _ Fl]at hx;exact⟨s,hx⟩
       . exact⟨r,Bb x hx⟩
   . cases ht
 . cases ht
theorem OkL_two {l:List DV} {D E:DV} {F H:Nat->Prop} (hD:Ok w S D F) (hl:∀d∈l,Ok w S d (λ_=>False)) (hE:Ok w S E H) (CS:∀x,F x->¬H x):JF w S (D::(l++[E])) (λx=>F x∨H x):=by
 have h2:JF w S [E] H:=⟨H,λ_=>False,hE,B7 (by simp),λ_ _ h=>h,λx=>by simp⟩
 have h1:JF w S (l++[E]) H:=(Kw (B7 hl) h2 (λ_ h=>h.elim)).congr λx=>by simp
 exact⟨F,H,hD,h1,CS,λx=>ABe⟩
theorem x8 {n:Nat} {w0:World} {S0 U0:Nat->Prop} (hG:XY w0 S0 U0) {a:Act} {σ:Sg} (h:Rel G n w0 S0 U0 a w σ) {o:Oper} {d:ABp Dg} {f:Nat} {x y:Ar} {dS:List Ar} {K:Sg->Prop}
 (OT:JO P o.op f (x::(dS++[y])) 0=true) (Zr:DX G n o.dst d=true) (hr:lbP P G d f x dS y K σ) (Q:Exit->Act->World->Prop):
 o.wp P a w (λa' w'=>∃σ',Rel G n w0 S0 U0 a' w' σ'/\K σ') Q:=by
 obtain⟨S,δ,Fr,hn,Dv,ha,rfl,Bs,EO,CN⟩:=h
 obtain⟨cc,fn,ho,Kp,hf,hfb,gO,hm3,Rh⟩:=Kn OT
 have hd:=EJ Zr hn
 obtain⟨x0,xs,y0,FK,hx0,hxs,hy0⟩:∃x0 xs y0,cc.args.toList=x0::(xs++[y0])/\Bt x0 x=true/\F8 xs dS=true/\Bt y0 y=true:=by
  generalize cc.args.toList=l at Rh
  cases l with
  |nil=>simp[F8]at Rh
  |cons x0 l=>
   simp only[F8,AAP]at Rh
   obtain⟨h1,h2⟩:=Rh
   clear OT hr
   obtain⟨xs,y0,e,h3,h4⟩:∃xs y0,l=xs++[y0]/\F8 xs dS=true/\Bt y0 y=true:=by
    induction dS generalizing l with
    |nil=>
     cases l with
     |nil=>simp[F8]at h2
     |cons y0 l=>
      simp only[ABI,F8,AAP]at h2
      cases l with
      |nil=>exact⟨[],y0,rfl,rfl,h2.1⟩
      |cons=>simp[F8]at h2
    |cons z dS ih=>
     cases l with
     |nil=>simp[F8]at h2
     |cons z0 l=>
      simp only[AA5,F8,AAP]at h2
      obtain⟨xs,y0,e,h3,h4⟩:=ih l h2.2
      exact⟨z0::xs,y0,by simp[e],by simp[F8,h2.1,h3],h4⟩
   exact⟨x0,xs,y0,by rw[e],h1,h3,h4⟩
 obtain⟨hxo,ex0⟩:=Ah hx0 ha
 obtain⟨hyo,ey0⟩:=Ah hy0 ha
 unfold lbP at hr
 split at hr
 case h_2=>exact hr.elim
 rename_i r2 p2 hp2
 split at hr
 case h_2=>exact hr.elim
 rename_i v τ XL
 obtain⟨b2,k2,IL,rfl,sG⟩:∃b2 k2 IL,v= .own b2 k2 IL/\sub (δ r2).er p2=some (.own b2 k2 IL):=by
  unfold Abs.Zh at XL
  split at XL
  . rename_i b2 k2 IL h2
    split at XL
    . simp only[AAN,AAc]at XL
      exact⟨_,_,_,XL.1.symm,h2⟩
    . cases XL
  . cases XL
 obtain⟨δ1,F1,DY,Ff,Ed,rfl,JR,hokY,hYe,hsubY,YU,Rm,QE⟩:=Bs.tkd XL
 obtain⟨zD,q1,q2⟩:=TU Bs (x:=y) hp2 sG
 rw[hsubY]at q1
 obtain rfl:=AAR q1
 have hargv:∀z,CQ δ1 z=CQ δ z:=by
  intro z
  cases z with
  |t s=>exact JR s
  |c c=>rfl
 have ha0:Rd δ1 a:=λs=>(ha s).trans (JR s).symm
 split at hr
 case h_2=>exact hr.elim
 rename_i r p ms hp hmid
 split at hr
 case h_2=>exact hr.elim
 rename_i b k rows hs
 unfold lbQ at hr
 obtain⟨Np,res,out,I8,OS,GX,Gq⟩:=hr
 split at Gq
 case h_2=>exact Gq.elim
 rename_i t hput1
 split at Gq
 case h_2=>exact Gq.elim
 rename_i t2 hput2
 have hK:=Gq
 obtain⟨Aj,hD,Er⟩:=TU Ed (x:=x) hp hs
 obtain⟨Fo,Xj,Bb,Ls⟩:=(Ed.ok r).replace p hD
 obtain⟨Ds,p1,p3,p4⟩:=Qp Ed ha0 dS hxs hmid
 have hFoF:∀x,Fo x->¬Ff x:=λx h=>YU r x (Bb x h)
 have Fp:=I8 w S (.own (CQ δ1 x) b k Aj::(Ds++[.own (CQ δ y) b2 k2 zD])) (λx=>Fo x∨Ff x) (hG.now EO) (by rw[AAg,AA9,p1,Er,List.map_singleton,hYe]) (A9.2 (OkL_two Xj p4 hokY hFoF)) CN
 have Vv:(List.map DV.Aq (.own (CQ δ1 x) b k Aj::(Ds++[.own (CQ δ y) b2 k2 zD])))=cc.args.toList.map a.eval:=by
  rw[FK];simp[p3,ex0,ey0,hargv]
 unfold Oper.wp
 rw[Sl ho Kp hf hfb gO,Oper.upon_enter,← Vv]
 refine Fp.mono ?_
 rintro e w' ⟨rD,os,S',F',rfl,Pn,xA,r7,CH,EF,LH,kR,KL,Vt⟩
 obtain⟨Fa,Fb,xJ,hosk,hdab,Pl⟩:=A9.1 CH
 obtain⟨oX,os1,oY,rfl,hXe,hYe',hXa,hYa⟩:∃oX os1 oY,os=oX::(os1++[oY])/\oX.er=out/\oY.er= .own b2 k2 IL/\oX.Aq=CQ δ1 x/\oY.Aq=CQ δ y:=by
  cases os with
  |nil=>simp at xA
  |cons oX l=>
   simp only[AAg,ABg]at xA r7
   obtain⟨e1,e2⟩:=xA
   obtain⟨l1,l2,rfl,e3,e4⟩:=List.map_eq_append_iff.1 e2
   obtain⟨oY,rfl,e5⟩:∃oY,l2=[oY]/\oY.er= .own b2 k2 IL:=by
    cases l2 with
    |nil=>simp at e4
    |cons oY l3=>
     simp only[AAg,ABg,List.map_eq_nil_iff]at e4
     exact⟨oY,by rw[e4.2],e4.1⟩
   refine⟨oX,l1,oY,rfl,e1,e5,by simpa using r7.1,?_⟩
   have:=r7.2
   rw[AA9,AA9]at this
   have:=(List.append_inj' this rfl).2
   simpa using this
 obtain⟨FX,FR,hoX,hoR,hdXR,QA⟩:=hosk
 obtain⟨FY,hoY,hFYR⟩:=sT (l:=os1) (r:=[]) hoR
 have D5:∀s x,F1 s x->x<w.heap.size:=λs x hx=>(Ed.ok s).lt x hx
 have hF'X:∀x,Fa x∨FX x∨FY x->(Fo x∨Ff x)∨w.heap.size≤x:=λx hx=>Vt x ((Pl x).2 (hx.imp id λh=>(QA x).2 (h.imp id (hFYR x))))
 -- what a slot owns meets nothing that the call has, but for the lent part
 have kX:∀s x,F1 s x->¬Fo x->¬(Fa x∨FX x∨FY x):=by
  intro s x hx KX hh
  rcases hF'X x hh with(h1|h1)|h1
  . exact KX h1
  . exact YU s x hx h1
  . have:=D5 s x hx;omega
 have lD:∀b,S b->w'.heap[b]? =w.heap[b]? :=λb hb=>EF.block b (CN b hb) (λhf=>hf.elim (λh=>Xj.EZ b h hb) λh=>hokY.EZ b h hb)
 have gS:∀s b,F1 s b->¬Fo b->w'.heap[b]? =w.heap[b]? :=λs b hb KX=>EF.block b (D5 s b hb) λhf=>hf.elim KX (YU s b hb)
 have wA:∀s b,F1 s b->¬Fo b->¬S' b:=by
  intro s b hb KX h'
  rcases kR b h' with h1| (h1|h1)|h1
  . exact(Ed.ok s).EZ b hb h1
  . exact KX h1
  . exact YU s b hb h1
  . have:=D5 s b hb;omega
 have Rj:∀s,s≠r->∀x,F1 s x->¬Fo x:=λs Fl x hx hf=>Fl (Ed.LF s r x hx (Bb x hf))
 obtain⟨tD,F2,lC,xE,HZ,C9⟩:=Ls w' S' oX FX (by rw[hXa];simp) hoX (λx hx hr=>Classical.byContradiction λKX=>kX r x hr KX (.inr (.inl hx))) lD (λb hb KX=>gS r b hb KX) LH (λb hb KX=>wA r b hb KX)
 have oZ:tD.er=t:=by
  obtain⟨t',h1,h2⟩:=Gd (d:=δ1 r) (p:=p) (a:=t) oX (Ed.ok r).KQ (by rw[hXe];exact hput1)
  rw[lC]at h1
  obtain rfl:=AAR h1
  exact h2
 have wM:∀s,s≠r->∀x,F2 x->¬F1 s x:=by
  intro s Fl x hx hy
  rcases(HZ x).1 hx with⟨h1,_⟩|h1
  . exact Fl (Ed.LF s r x hy h1)
  . exact kX s x hy (Rj s Fl x hy) (.inr (.inl h1))
 have hbX:Hk oX.er=true:=by rw[hXe];exact OS
 generalize hN:Ru out b k p=N at hK hput2
 have hab:∀q v' bx k' rows',q.length<N->Am (δ1 r) q=some (.own v' bx k' rows')->∃IL,Am tD q=some (.own v' bx k' IL):=by
  intro q v' bx k' rows' hq hsq
  subst hN
  unfold Ru at hq
  split at hq
  . rename_i b1 k1 JD
    split at hq
    . rename_i e
      obtain⟨rfl,rfl⟩:=e
      refine Me q p (by omega) lC (λ_ v2 bx2 k2 IL h2=> ?_) hsq
      rw[hD]at h2
      cases h2
      cases oX with
      |own hh b2 k2 IL=>
       simp only[EE,AV.own.injEq]at hXe
       obtain⟨rfl,rfl,_⟩:=hXe
       simp only[KA]at hXa
       exact⟨IL,by rw[hXa]⟩
      |lf a v=>simp only[Ea]at hXe;subst hXe;cases hoX with|lf _ _ _ h=>exact h.elim
      |agg=>simp at hXe
      |BJ=>simp at hXe
    . omega
  . omega
 have Jf:St G w' S' (C1 (EG G N r δ1) r tD) (C1 F1 r F2):=
  Ed.zM N r tD F2 lD (λs Fl x hx=>gS s x hx (Rj s Fl x hx)) LH (λs Fl x hx=>wA s x hx (Rj s Fl x hx)) xE wM (K9 p lC (Ed.rt r) (Mq hbX)) (Le p lC (Ed.al r) (S9 hbX)) hab
 have Qd:(λs=>(C1 (EG G N r δ1) r tD s).er)=C1 (FV G N r λs=>(δ1 s).er) r t:=by
  funext s
  unfold C1
  split
  . exact oZ
  . exact Ed.PZ N r s
 have LU:∀s,(C1 (EG G N r δ1) r tD s).Aq=(δ1 s).Aq:=by
  intro s;unfold C1;split
  . rename_i e;rw[e,C9]
  . exact Ed.K5 N r s
 have U8:Am (C1 (EG G N r δ1) r tD r2) p2=some (.lf .dead (CQ δ y)):=by
  rw[BN _ _ (Ne.symm Np)]
  unfold EG
  have QE:Am (δ1 r2) p2=some (.lf .dead (CQ δ y)):=by simpa using QE
  split
  . exact Tf N r p2 QE
  . exact QE
 generalize hδ2:C1 (EG G N r δ1) r tD=δ2 at Jf Qd LU U8
 have Vu:∀s x,C1 F1 r F2 s x->¬(Fa x∨FY x):=by
  intro s x hx hy
  have key:FX x->False:=λhX=>by
   rcases hy with hy|hy
   . exact hdab x hy ((QA x).2 (.inl hX))
   . exact hdXR x hX (hFYR x hy)
  by_cases Fl:s=r
  . subst Fl;rw[A6]at hx
    rcases(HZ x).1 hx with⟨h1,h2⟩|h1
    . exact kX s x h1 h2 (hy.imp id .inr)
    . exact key h1
  . rw[BN _ _ Fl]at hx
    exact kX s x hx (Rj s Fl x hx) (hy.imp id .inr)
 have hO2:∀s x,C1 F1 r F2 s x->A2 Fr x∨w.heap.size≤x:=by
  intro s x hx
  have up:F1 s x->A2 Fr x∨w.heap.size≤x:=λh=>.inl (Rm x (.inl ⟨s,h⟩))
  by_cases Fl:s=r
  . subst Fl;rw[A6]at hx
    rcases(HZ x).1 hx with⟨h1,_⟩|h1
    . exact up h1
    . exact(hF'X x (.inr (.inl h1))).imp (λh=>Rm x (h.imp (λh=>⟨s,Bb x h⟩) id)) id
  . rw[BN _ _ Fl]at hx;exact up hx
 generalize C1 F1 r F2=G2 at Jf Vu hO2
 obtain⟨Fd,hokd,hsubd,hrepd⟩:=(Jf.ok r2).replace p2 U8
 obtain⟨tE,F3,htE,hokE,hiffE,hannE⟩:=hrepd w' S' oY FY (by rw[hYa];simp) hoY (λx hx hr=>(Vu _ x hr (.inr hx)).elim) (λ_ _=>rfl) (λ_ _ _=>rfl) (λ_ h=>h) (λb hb _=>(Jf.ok r2).EZ b hb)
 have hteE:tE.er=t2:=by
  obtain⟨t',h1,h2⟩:=Gd (d:=δ2 r2) (p:=p2) (a:=t2) oY (Jf.ok r2).KQ (by rw[hYe',← hput2];exact congrArg (λg=>put (g r2) p2 _) Qd)
  rw[htE]at h1
  obtain rfl:=AAR h1
  exact h2
 have hbY:Hk oY.er=true:=by rw[hYe'];rfl
 have hF3:∀x,F3 x->G2 r2 x∨FY x:=λx hx=>((hiffE x).1 hx).imp (λh=>h.1) id
 have hst3:St G w' S' (C1 (EG G p2.length r2 δ2) r2 tE) (C1 G2 r2 F3):=
  Jf.zM p2.length r2 tE F3 (λ_ _=>rfl) (λ_ _ _ _=>rfl) (λ_ h=>h) (λs _ x hx=>(Jf.ok s).EZ x hx) hokE
   (λs Fl x hx hy=>(hF3 x hx).elim (λh=>Fl (Jf.LF s r2 x hy h)) λh=>Vu s x hy (.inr h)) (K9 p2 htE (Jf.rt r2) (Mq hbY)) (Le p2 htE (Jf.al r2) (S9 hbY))
   λq v' bx k' rows' hq hsq=>Me q p2 (by omega) htE (λe=>absurd e (by omega)) hsq
 have her3:(λs=>(C1 (EG G p2.length r2 δ2) r2 tE s).er)=C1 (FV G p2.length r2 (C1 (FV G N r λs=>(δ1 s).er) r t)) r2 t2:=by
  rw[← Qd]
  funext s
  unfold C1
  split
  . exact hteE
  . exact Jf.PZ p2.length r2 s
 have hann3:∀s,(C1 (EG G p2.length r2 δ2) r2 tE s).Aq=(δ s).Aq:=by
  intro s
  rw[← JR s,← LU s]
  unfold C1;split
  . rename_i e;rw[e,hannE]
  . exact Jf.K5 p2.length r2 s
 have wK:∀s x,C1 G2 r2 F3 s x->¬Fa x:=by
  intro s x hx hy
  by_cases Fl:s=r2
  . subst Fl;rw[A6]at hx
    exact(hF3 x hx).elim (λh=>Vu s x h (.inl hy)) λh=>hdab x hy ((QA x).2 (.inr (hFYR x h)))
  . rw[BN _ _ Fl]at hx;exact Vu s x hx (.inl hy)
 have Dh:∀x,(Fo x∨Ff x)->A2 Fr x:=λx h=>Rm x (h.imp (λh=>⟨r,Bb x h⟩) id)
 have hOwn3:∀x,A2 (C1 G2 r2 F3) x->A2 Fr x∨w.heap.size≤x:=by
  rintro x ⟨s,hx⟩
  by_cases Fl:s=r2
  . subst Fl;rw[A6]at hx
    exact(hF3 x hx).elim (hO2 s x) λh=>(hF'X x (.inr (.inr h))).imp (Dh x) id
  . rw[BN _ _ Fl]at hx;exact hO2 s x hx
 have GN:∀F4:Nat->Nat->Prop,(∀x,A2 F4 x->A2 (C1 G2 r2 F3) x∨Fa x)->Nx w0 S0 U0 w' S' (A2 F4):=by
  intro F4 hF4
  refine EO.trans ⟨EF.os,EF.tape,EF.output,EF.size,λb hb KX=>EF.block b hb λhf=>KX (Dh b hf),LH,λb hb=>(kR b hb).imp id (Or.imp (Dh b) id),λ_=>KL,λx hx=> ?_⟩
  rcases hF4 x hx with h1|h1
  . exact hOwn3 x h1
  . exact(hF'X x (.inl h1)).imp (Dh x) id
 rw[← her3]at hK
 have QB:Rd (C1 (EG G p2.length r2 δ2) r2 tE) a:=λs=>(ha s).trans (hann3 s).symm
 simp only
 cases d with
 |none=>
  have h0:o.dst=none:=hd
  refine⟨_,⟨S',_,_,?_,?_,?_,rfl,hst3,GN _ (λx hx=>.inl hx),KL⟩,hK⟩
  . rw[h0];exact hn
  . rw[h0];exact Dv
  . rw[h0];exact QB
 |some d=>
  simp only[CM]at hK
  split at hK
  . rename_i τ' LY
    obtain⟨h1,h2,h3,h4⟩:=hd
    rw[← Pn]at LY
    obtain⟨δ',F5,Jr,Iw,QC,V4⟩:=hst3.wr h2 h3 (λ_ _=>rfl) (λ_ _ _=>rfl) (λ_ h=>h) (λs x hx=>(hst3.ok s).EZ x hx) xJ wK (Vh xJ (by rw[Pn];exact GX)) LY
    refine⟨τ',⟨S',δ',F5,?_,?_,?_,Iw,Jr,GN F5 V4,KL⟩,hK⟩
    . rw[h1];simpa[Act.put]using hn
    . rw[h1];simpa[Act.put]using Dv
    . intro s
      rw[h1,IE a d.d rD.Aq h4 s,QC s]
      split
      . rfl
      . exact QB s
  . exact hK.elim
end Go.Abs
namespace Go.Abs
variable {w w':World} {S S':Nat->Prop} {G:Gi} {δ:Nat->DV} {Fr:Nat->Nat->Prop} {P:Program}
def aO (P:Program) (G:Gi) (n:Nat) (ops:Array Oper) (o:Oper):dM->Bool
 | .o io=>Ga P G n ops o io
 | .Ry d neg x=>o.guard.isNone&&DX G n o.dst (some d)&&fN P o.op neg x
 | .gld d g m=>o.guard.isNone&&DX G n o.dst (some d)&&fL P o.op g m
 | .bxv d m s=>o.guard.isNone&&DX G n o.dst (some d)&&fG P o.op m s
 | .lb d f x dS y=>o.guard.isNone&&DX G n o.dst d&&JO P o.op f (x::(dS++[y])) 0
 | .clo d f x args g=>KJ n ops o.guard g&&DX G n o.dst d&&fH P o.op f x args
def YK (P:Program) (G:Gi) (n:Nat) (ops:Array Oper):List Oper->List dM->Bool
 |[],[]=>true
 |o::os,x::xs=>aO P G n ops o x&&YK P G n ops os xs
 |_,_=>false
theorem aH {n:Nat} {w0:World} {S0 U0:Nat->Prop} (hG:XY w0 S0 U0) {ops:Array Oper} {K:Sg->Prop} (Q:Exit->Act->World->Prop) {k:Nat} {o:Oper} (ho:ops[k]? =some o) {x:dM} {xs:List dM} {a:Act} {w:World} {σ:Sg}
 (h:Rel G n w0 S0 U0 a w σ) (hc:aO P G n ops o x=true/\True) (hr:Kx P G (x::xs) K σ):wpOp P ops Q k (λa' w'=>∃σ',Rel G n w0 S0 U0 a' w' σ'/\Kx P G xs K σ') a w:=by
 have M9:o.guard.isNone=true->o.wp P a w (λa' w'=>∃σ',Rel G n w0 S0 U0 a' w' σ'/\Kx P G xs K σ') Q->wpOp P ops Q k (λa' w'=>∃σ',Rel G n w0 S0 U0 a' w' σ'/\Kx P G xs K σ') a w:=by
  intro hg hwp
  unfold wpOp
  rw[ho]
  have hog:o.guard=none:=by simpa using hg
  simp only
  rw[AAY (by simp[Region.wanted,hog])]
  exact .inl hwp
 cases x with
 |o io=>exact Hw hG h hc.1 hr Q ho
 |Ry d neg x=>
  simp only[aO,AAP]at hc
  obtain⟨⟨⟨g1,g2⟩,g3⟩,_⟩:=hc
  refine M9 g1 ?_
  simp only[Kx]at hr
  split at hr
  . rename_i hv pl hh
    split at hr
    . rename_i rows Jm
      exact gZ h g3 g2 hh Jm hr Q
    . exact hr.elim
  . exact hr.elim
 |lb d f x dS y=>
  simp only[aO,AAP]at hc
  obtain⟨⟨⟨g1,g2⟩,g3⟩,_⟩:=hc
  exact M9 g1 (x8 hG h g3 g2 hr Q)
 |bxv d m s=>
  simp only[aO,AAP]at hc
  obtain⟨⟨⟨g1,g2⟩,g3⟩,_⟩:=hc
  refine M9 g1 ?_
  simp only[Kx]at hr
  split at hr
  . rename_i cs hs
    exact nI h g3 g2 hs hr.1 hr.2 Q
  . exact hr.elim
 |clo d f x args g=>
  simp only[aO,AAP]at hc
  obtain⟨⟨⟨g1,g2⟩,g3⟩,_⟩:=hc
  simp only[Kx]at hr
  refine OR h g2 g1 Q (λhr=> ?_) (λ_ _ r k=>⟨_,r,k⟩) hr ho
  unfold fQ at hr
  split at hr
  . rename_i aZ9 JI
    obtain⟨res,I8,hr⟩:=hr
    split at hr
    . rename_i v Ey
      exact nP hG h g3 g2 JI I8 Ey hr Q
    . exact hr.elim
  . exact hr.elim
 |gld d g m=>
  simp only[aO,AAP]at hc
  obtain⟨⟨⟨g1,g2⟩,g3⟩,_⟩:=hc
  refine M9 g1 ?_
  simp only[Kx]at hr
  split at hr
  . rename_i cs S5
    exact oL hG h g3 g2 S5 hr Q
  . exact hr.elim
theorem nG {n:Nat} {w0:World} {S0 U0:Nat->Prop} (hG:XY w0 S0 U0) {ops:Array Oper} {K:Sg->Prop} (Q:Exit->Act->World->Prop) (hQ:∀a w σ,Rel G n w0 S0 U0 a w σ->K σ->Q .normal a w) (xs:List dM):
 ∀(k:Nat) {a:Act} {w:World} {σ:Sg},Rel G n w0 S0 U0 a w σ->YK P G n ops (ops.toList.drop k) xs=true->Kx P G xs K σ->wpOps P ops Q (List.range' k (ops.size-k)) a w:=by
 induction xs with
 |nil=>
  intro k a w σ h hc hr
  have hk:ops.toList.drop k=[]:=by cases hd:ops.toList.drop k with|nil=>rfl|cons o os=>rw[hd]at hc;simp[YK]at hc
  have hlen:ops.size≤k:=by simpa using hk
  rw[show ops.size-k=0 from by omega]
  exact hQ a w σ h hr
 |cons x xs ih=>
  intro k a w σ h hc hr
  cases hd:ops.toList.drop k with
  |nil=>rw[hd]at hc;simp[YK]at hc
  |cons o os=>
   rw[hd]at hc
   simp only[YK,AAP]at hc
   have hk:k<ops.size:=by
    have:(ops.toList.drop k).length=os.length+1:=by rw[hd];rfl
    simp at this;omega
   have ho:ops[k]? =some o:=by
    have:(ops.toList.drop k)[0]? =some o:=by rw[hd];rfl
    simpa using this
   have xF:ops.toList.drop (k+1)=os:=by
    have:(ops.toList.drop k).drop 1=os:=by rw[hd];rfl
    rw[List.drop_drop]at this;exact this
   rw[show ops.size-k=(ops.size-(k+1))+1 from by omega,ABo,wpOps_cons]
   have hnext:∀a' w',(∃σ',Rel G n w0 S0 U0 a' w' σ'/\Kx P G xs K σ')->wpOps P ops Q (List.range' (k+1) (ops.size-(k+1))) a' w':=by
    rintro a' w' ⟨σ',h',hK'⟩
    exact ih (k+1) h' (by rw[xF];exact hc.2) hK'
   exact wpOp_mono hnext (aH hG Q ho h ⟨hc.1,trivial⟩ hr)
def GQ (P:Program) (G:Gi) (n:Nat):Code->IC->Bool
 | .skip,.skip=>true
 |_,.bad=>true
 |c,.gz _ _ _ a=>GQ P G n c a
 |c,.pg _ _ _ a=>GQ P G n c a
 | .region _ ops false,.X2 xs=>YK P G n ops ops.toList xs
 | .region _ ops d,.OD DE=>K1 P G n ops ops.toList DE&&(!d||K0 G ops.toList DE)
 | .region _ ops true,.flo f aZ9 bs=>fK P G n f ops (aZ9++bs)&&aZ9.length==f.i2+1
 | .region _ ops true,.Zq fs DE=>fJ P G n fs ops DE
 | .region _ ops true,.apd f DE=>fF P G n f ops DE
 | .seq a b,.seq a' b'=>GQ P G n a a'&&GQ P G n b b'
 | .cond c a b,.cond c' a' b'=>Bt c c'&&GQ P G n a a'&&GQ P G n b b'
 | .block id a,.block id' a'=>id==id'&&GQ P G n a a'
 | .loop a,.loop a'=>GQ P G n a a'
 | .exit id,.exit id'=>id==id'
 | .ret,.ret=>true
 | .label _,.skip=>true
 |_,_=>false
def Pg (m:Nat) (a0 a:Act):Prop:=∀i,i<m->a.tmps.getD i undef=a0.tmps.getD i undef
theorem Pg.refl (m:Nat) (a:Act):Pg m a a:=λ_ _=>rfl
def Ts (m:Nat) (o:Oper):Bool:=match o.dst with
 |some d=>decide (m≤d)
 |none=>true
def GR (m:Nat):Code->Bool
 | .region _ ops _=>ops.toList.all (Ts m)
 | .seq a b=>GR m a&&GR m b
 | .cond _ a b=>GR m a&&GR m b
 | .block _ a=>GR m a
 | .loop a=>GR m a
 |_=>true
theorem OO (c:Code):GR 0 c=true:=by
 induction c with
 |region id ops d=>simp only[GR,AAU];intro o _;unfold Ts;split<;>simp
 |seq a b Rn xP=>simp[GR,Rn,xP]
 |cond c a b Rn xP=>simp[GR,Rn,xP]
 |block id a Rn=>simp[GR,Rn]
 |loop a Rn=>simp[GR,Rn]
 |_=>simp[GR]
def Kept (m:Nat) (a0:Act) (Q:Exit->Act->World->Prop) (e:Exit) (a:Act) (w:World):Prop:=Q e a w/\(e= .outgrown∨Pg m a0 a)
theorem Pg.put {m:Nat} {a0 a:Act} (h:Pg m a0 a) {o:Oper} (ho:Ts m o=true) (v:Value):Pg m a0 (a.put o.dst v):=by
 intro i hi
 unfold Ts at ho
 split at ho
 . rename_i d hd
   simp only[AAf]at ho
   rw[hd]
   simp only[Act.put,AAh,ABJ]
   rw[AAX (by omega)]
   have:=h i hi
   simpa[AAh]using this
 . rename_i hd;rw[hd];exact h i hi
theorem XH {ops:Array Oper} {Q:Exit->Act->World->Prop} {m:Nat} {a0:Act} (ZF:ops.toList.all (Ts m)=true) (l:List Nat):
 ∀(a:Act) (w:World),Pg m a0 a->wpOps P ops Q l a w->wpOps P ops (Kept m a0 Q) l a w:=by
 induction l with
 |nil=>intro a w hk h;exact⟨h,.inr hk⟩
 |cons i rest ih=>
  intro a w hk h
  simp only[wpOps]at h ⊢
  cases ho:ops[i]? with
  |none=>simp only[ho]at h ⊢;exact ih a w hk h
  |some o=>
   simp only[ho]at h ⊢
   have r8:Ts m o=true:=by
    rw[AAU]at ZF
    exact ZF o (by rw[Array.mem_toList_iff];exact Array.mem_of_getElem? ho)
   have lets:LetsOut Q->LetsOut (Kept m a0 Q):=λ⟨a,w,hq⟩=>⟨a,w,hq,.inl rfl⟩
   by_cases hw:Region.wanted o (yielded ops a.tmps)=true
   . simp only[hw,AAs]at h ⊢
     refine h.imp (λh=> ?_) (λh=>⟨h.1,lets h.2⟩)
     unfold Oper.wp at*
     generalize (execOp a.eval o).run P w=r at*
     cases r with
     |ok x w'=>
      cases x with
      |value v=>exact ih _ _ (hk.put r8 v) h
      |skip=>exact ih _ _ (hk.put r8 undef) h
      |defer d=>exact ih _ _ (Pg.put (a:={a with defers:=d::a.defers}) (λi hi=>hk i hi) r8 undef) h
      |enter f args=>
       simp only[Oper.upon]at h ⊢
       refine Calls.mono h λe w'' he=> ?_
       cases e with
       |returned v=>exact ih _ _ (hk.put r8 v) he
       |panicked chain=>exact⟨he,.inr hk⟩
       |outgrown=>exact lets he
      |row row args=>
       simp only[Oper.upon]at h ⊢
       exact Rows.mono h λv w'' he=>ih _ _ (hk.put r8 v) he
      |_=>simp only[Oper.upon]at h
     |halt x w'=>
      cases x with
      |panic v=>simp only[Oper.upon]at h ⊢;exact⟨h,.inr hk⟩
      |_=>simp only[Oper.upon]at h
   . simp only[hw]at h ⊢
     exact ih _ _ (hk.put r8 undef) h
theorem PM {id:Nat} {ops:Array Oper} {Q:Exit->Act->World->Prop} {m:Nat} {a0 a:Act} {w:World} (ZF:ops.toList.all (Ts m)=true) (hk:Pg m a0 a)
 (h:wpOps P ops Q (List.range ops.size) a w):(Code.region id ops false).wp P (Kept m a0 Q) a w:=wp_region (XH ZF _ a w hk h)
theorem HS {id:Nat} {ops:Array Oper} {Q:Exit->Act->World->Prop} {m:Nat} {a0 a:Act} {w:World} (ZF:ops.toList.all (Ts m)=true) (hk:Pg m a0 a) (hm:P.follows .mixedOrders=true)
 (h:wpAny P .any ops Q ops.size (Array.replicate ops.size false) a {w with drawn:=w.drawn+1}):(Code.region id ops true).wp P (Kept m a0 Q) a w:=
 wp_region_draw λt=>by
  simp only[Region.schedule,hm,Bool.true_or,AAs]
  exact XH ZF _ a _ hk (wpAny_sound ops.size t _ a _ h)
def VU (G:Gi) (n:Nat) (w0:World) (S0 U0:Nat->Prop) (Q:Exit->Sg->Prop) (e:Exit) (a:Act) (w:World):Prop:=∃σ,Rel G n w0 S0 U0 a w σ/\Q e σ
def Tied (G:Gi) (n:Nat) (w0:World) (S0 U0:Nat->Prop) (m:Nat) (a0:Act) (Q:Exit->Sg->Prop):Exit->Act->World->Prop:=Kept m a0 (VU G n w0 S0 U0 Q)
theorem Rel.drew {n:Nat} {w0:World} {S0 U0:Nat->Prop} {a:Act} {σ:Sg} (h:Rel G n w0 S0 U0 a w σ):Rel G n w0 S0 U0 a {w with drawn:=w.drawn+1} σ:=by
 obtain⟨S,δ,Fr,hn,Dv,ha,Iw,Bs,EO,D5⟩:=h
 exact⟨S,δ,Fr,hn,Dv,ha,Iw,Bs.world (λ_ _=>rfl) (λ_ _ _=>rfl) (λ_ h=>h) (λs x hx=>(Bs.ok s).EZ x hx),⟨EO.os,EO.tape,EO.output,EO.size,EO.block,EO.sub,EO.sup,EO.lt,EO.own⟩,D5⟩
theorem Rel.gz {n:Nat} {w0:World} {S0 U0:Nat->Prop} {a:Act} {σ τ:Sg} {r:Nat} {p:List Step} {v:AV} (h:Rel G n w0 S0 U0 a w σ) (hf:Pk G r p σ=some (v,τ)):Rel G n w0 S0 U0 a w τ:=by
 obtain⟨S,δ,Fr,hn,Dv,ha,rfl,Bs,EO,D5⟩:=h
 obtain⟨δ',F',Fo,v,bx,k,rows,Jr,Iw,C9,_,_,_,CS,Dh,_⟩:=Bs.Pk hf
 have hFo:∀x,Fo x->x<w.heap.size:=λx hx=>by obtain⟨t,ht⟩:=Dh x (.inr hx);exact(Bs.ok t).lt x ht
 exact⟨_,δ',F',hn,Dv,λs=>(ha s).trans (C9 s).symm,Iw,Jr,EO.trans (Nx.I0 (λx hx=>Dh x hx) hFo),λb hb=>hb.elim (D5 b) (hFo b)⟩
theorem cz_tree {v:Value} {bx:Bool} {k:Nat} {rows:List (List DV)} {F:Nat->Prop} (h:Ok w S (.own v bx k rows) F):∃rows' Fc,rows'.map (·.map DV.er)=(rows.map (·.map DV.er)).map (·.map I0)/\(∀x,Fc x->F x)/\Ok w (λx=>S x∨(F x/\¬Fc x)) (.own v bx k rows') Fc:=by
 cases h with
 |nil _ _ hF=>exact⟨[],F,rfl,λ_ h=>h,.nil k F hF⟩
 |own _ _ _ b c arr E Fs _ hb hk De Ko hv hr hd BP Jb hF=>
  obtain⟨Rs,hl,hRs⟩:=Ka rows (λi row (R:List DV)=>R.length=row.length/\∀(j:Nat) d,row[j]? =some d->∃D,R[j]? =some D/\(D.er=I0 d.er/\D.Aq=d.Aq/\Ok w (λx=>S x∨Fs i j x) D (λ_=>False))) (by
   intro i row hi
   exact Ka row (λj d D=>D.er=I0 d.er/\D.Aq=d.Aq/\Ok w (λx=>S x∨Fs i j x) D (λ_=>False)) (by
    intro j d hj
    obtain⟨D,h1,h2,h3,_⟩:=Qb (δ:=λ_=>default) (hr i j row d hi hj)
    exact⟨D,h1,h2,h3⟩))
  have e:Rs.map (·.map DV.er)=(rows.map (·.map DV.er)).map (·.map I0):=by
   refine map_mk hl hRs _ _ (by simp) λi row R hΦ hc=> ?_
   simp only[AAZ,hc,AAl,AAN]
   exact(map_mk hΦ.1 hΦ.2 _ _ (by simp) λj d D hd hc=>by simp[hc,hd.1]).symm
  refine⟨Rs,λx=>x=b,e,λx hx=>(hF x).2 (.inl hx),?_⟩
  rw[← hl]
  refine .own bx k Rs b c arr E (λ_ _ _=>False) _ hb ?_ (by rw[hl];exact De) ?_ ?_ ?_ (λ_ _ _ _ _ h=>h.elim) (λ_ _ _ h=>h.elim) (λ_ _ h=>h) (λx=>by simp)
  . intro R hR
    obtain⟨i,hi⟩:=AAn hR
    obtain⟨row,h1,h2⟩:=mem_mk hl hRs i R hi
    rw[h2.1];exact hk row (AAb h1)
  . rintro(h|⟨_,h⟩)
    . exact Ko h
    . exact h rfl
  . intro i j R D hR hD
    obtain⟨row,h1,h2⟩:=mem_mk hl hRs i R hR
    obtain⟨d,h3,h4⟩:=mem_mk h2.1 h2.2 j D hD
    rw[h4.2.1];exact hv i j row d h1 h3
  . intro i j R D hR hD
    obtain⟨row,h1,h2⟩:=mem_mk hl hRs i R hR
    obtain⟨d,h3,h4⟩:=mem_mk h2.1 h2.2 j D hD
    exact h4.2.2.mono (λ_ _=>rfl) (λ_ h=>h.elim) (λx hx=>hx.imp id λh=>⟨(hF x).2 (.inr ⟨i,j,h⟩),λe=>Jb i j (e▸h)⟩) (λ_ h=>h.elim)
theorem Rel.cz {n:Nat} {w0:World} {S0 U0:Nat->Prop} {a:Act} {σ τ:Sg} {r:Nat} {p:List Step} (h:Rel G n w0 S0 U0 a w σ) (hf:czS G r p σ=some τ):Rel G n w0 S0 U0 a w τ:=by
 obtain⟨S,δ,Fr,hn,Dv,ha,rfl,Bs,EO,D5⟩:=h
 unfold czS at hf
 split at hf
 . rename_i b k rows hs
   split at hf
   . rename_i t Gq
     obtain rfl:=AAR hf
     obtain⟨nD,hD,Er⟩:=DT (Bs.ok r).KQ hs
     obtain⟨Fo,Xj,Bb,Ls⟩:=(Bs.ok r).replace p hD
     cases nD with
     |own v b2 k2 Aj=>
      simp only[EE,AV.own.injEq]at Er
      obtain⟨rfl,rfl,Jm⟩:=Er
      obtain⟨rows',Fc,e1,e2,e3⟩:=cz_tree Xj
      obtain⟨tD,F2,lC,xE,HZ,C9⟩:=Ls w (λx=>S x∨(Fo x/\¬Fc x)) (.own v b2 k2 rows') Fc (by simp) e3 (λx hx _=>e2 x hx) (λ_ _=>rfl) (λ_ _ _=>rfl) (λ_ h=>.inl h)
       (λx hx KX=>λh=>h.elim (λh=>(Bs.ok r).EZ x hx h) λh=>KX h.1)
      have oZ:tD.er=t:=by
       obtain⟨t',h1,h2⟩:=Gd (d:=δ r) (p:=p) (a:=t) (.own v b2 k2 rows') (Bs.ok r).KQ (by simp only[EE,e1,Jm,← U6];exact Gq)
       rw[lC]at h1
       obtain rfl:=AAR h1
       exact h2
      have Vu:∀x,F2 x->Fr r x:=λx hx=>((HZ x).1 hx).elim (λh=>h.1) λh=>Bb x (e2 x h)
      have Ed:St G w (λx=>S x∨(Fo x/\¬Fc x)) (C1 (EG G (p.length+1) r δ) r tD) (C1 Fr r F2):=
       Bs.zM (p.length+1) r tD F2 (λ_ _=>rfl) (λ_ _ _ _=>rfl) (λ_ h=>.inl h) (λs Fl x hx h=>h.elim (λh=>(Bs.ok s).EZ x hx h) λh=>Fl (Bs.LF s r x hx (Bb x h.1)))
        xE (λs Fl x hx hy=>Fl (Bs.LF s r x hy (Vu x hx))) (K9 p lC (Bs.rt r) (by simp)) (Le p lC (Bs.al r) (.own _ _ _ _))
        λq v' bx k' IL hq hsq=>Me q p (by omega) lC (λ_ v3 bx3 k3 rows3 h3=>by rw[hD]at h3;cases h3;exact⟨_,rfl⟩) hsq
      refine⟨_,_,_,hn,Dv,λs=> ?_,?_,Ed,EO.trans (Nx.I0 (λx hx=> ?_) λx hx=> ?_),?_⟩
      . rw[Lr Bs];split
        . rename_i e;rw[e,C9];exact ha r
        . exact ha s
      . rw[My Bs,oZ]
      . rcases hx with⟨s,hx⟩|hx
        . by_cases e:s=r
          . subst e;rw[A6]at hx;exact⟨_,Vu x hx⟩
          . rw[BN _ _ e]at hx;exact⟨s,hx⟩
        . exact⟨r,Bb x hx.1⟩
      . exact(Bs.ok r).lt x (Bb x hx.1)
      . exactλx hx=>hx.elim (D5 x) λh=>(Bs.ok r).lt x (Bb x h.1)
     |lf a u=>simp only[Ea]at Er;subst Er;cases Xj with|lf _ _ _ h=>exact h.elim
     |agg=>simp at Er
     |BJ=>simp at Er
   . cases hf
 . cases hf
theorem Rel.gzS {n:Nat} {w0:World} {S0 U0:Nat->Prop} {a:Act} {σ τ:Sg} {c:Bool} {r:Nat} {p:List Step} (h:Rel G n w0 S0 U0 a w σ) (hf:gzS G c r p σ=some τ):Rel G n w0 S0 U0 a w τ:=by
 unfold Abs.gzS at hf
 split at hf
 . exact h.cz hf
 split at hf
 . obtain rfl:=AAR hf;exact h
 . split at hf
   . rename_i v τ' hv
     obtain rfl:=AAR hf
     exact h.gz hv
   . cases hf
def isGz:IC->Bool
 | .gz .. =>true
 | .pg .. =>true
 |_=>false
theorem IA {n:Nat} {w0:World} {S0 U0:Nat->Prop} {m:Nat} {a0:Act} {c:Code} (h:∀ic,isGz ic=false->∀(Q:Exit->Sg->Prop) (a:Act) (w:World) (σ:Sg),GQ P G n c ic=true->GR m c=true->Pg m a0 a->Rel G n w0 S0 U0 a w σ->HX P G ic Q σ->c.wp P (Tied G n w0 S0 U0 m a0 Q) a w):
 ∀(ic:IC) (Q:Exit->Sg->Prop) (a:Act) (w:World) (σ:Sg),GQ P G n c ic=true->GR m c=true->Pg m a0 a->Rel G n w0 S0 U0 a w σ->HX P G ic Q σ->c.wp P (Tied G n w0 S0 U0 m a0 Q) a w:=by
 intro ic
 induction ic with
 |gz _ r p x ZH=>
  intro Q a w σ hc PW OU hr hw
  have S4:GQ P G n c x=true:=by cases c<;>simpa[GQ]using hc
  simp only[HX]at hw
  split at hw
  . rename_i τ hf
    exact ZH Q a w τ S4 PW OU (hr.gzS hf) hw
  . exact hw.elim
 |pg _ r p x ZH=>
  intro Q a w σ hc PW OU hr hw
  have S4:GQ P G n c x=true:=by cases c<;>simpa[GQ]using hc
  refine wp_mono (ZH _ a w σ S4 PW OU hr hw) ?_
  rintro e a' w' ⟨⟨τ,h1,h2⟩,h3⟩
  refine⟨?_,h3⟩
  cases e with
  |normal=>
   simp only[pgQ]at h2
   split at h2
   . rename_i υ hf
     exact⟨υ,h1.gzS hf,h2⟩
   . exact h2.elim
  |_=>exact⟨τ,h1,h2⟩
 |_=>exact h _ rfl
theorem YG {n:Nat} {w0:World} {S0 U0:Nat->Prop} (hG:XY w0 S0 U0) (hm:P.follows .mixedOrders=true) {m:Nat} {a0:Act} (c:Code):∀(ic:IC) (Q:Exit->Sg->Prop) (a:Act) (w:World) (σ:Sg),GQ P G n c ic=true->GR m c=true->Pg m a0 a->Rel G n w0 S0 U0 a w σ->HX P G ic Q σ->c.wp P (Tied G n w0 S0 U0 m a0 Q) a w:=by
 induction c with
 |skip=>
  refine IA ?_
  intro ic hg Q a w σ hc PW OU h hw
  cases ic with
  |skip=>exact wp_skip ⟨⟨σ,h,hw⟩,.inr OU⟩
  |bad=>exact hw.elim
  |gz=>cases hg
  |pg=>cases hg
  |_=>simp[GQ]at hc
 |region id ops d=>
  refine IA ?_
  intro ic hg Q a w σ hc PW OU h hw
  cases ic with
  |OD DE=>
   simp only[GQ,AAP,AAx,ABU]at hc
   obtain⟨hc,I7⟩:=hc
   cases d with
   |false=>
    refine PM PW OU ?_
    have:=eR hG (P:=P) (G:=G) (ops:=ops) (K:=Q .normal) (VU G n w0 S0 U0 Q) (λa w σ h hk=>⟨σ,h,hk⟩) DE 0 h (by simpa using hc) hw
    rw[List.range_eq_range']
    simpa using this
   |true=>
    refine HS PW OU hm ?_
    replace I7:=I7.resolve_left (by simp)
    exact aS hG (P:=P) (G:=G) (K:=Q .normal) (VU G n w0 S0 U0 Q) (λa w σ h hk=>⟨σ,h,hk⟩) h.drew hc I7 hw
  |flo f aZ9 bs=>
   cases d with
   |false=>simp[GQ]at hc
   |true=>
    simp only[GQ,AAP,AAd]at hc
    refine HS PW OU hm ?_
    obtain⟨q,q0,q1,q2,q3⟩:=floRun hw
    exact nZ hG (P:=P) (G:=G) (K:=Q .normal) (VU G n w0 S0 U0 Q) (λa w σ h hk=>⟨σ,h,hk⟩) h.drew hc.1 q q0 q1 q3 (λm hm=>q2 m (by omega))
  |Zq fs DE=>
   cases d with
   |false=>simp[GQ]at hc
   |true=>
    simp only[GQ]at hc
    refine HS PW OU hm ?_
    exact nY hG (P:=P) (G:=G) (K:=Q .normal) (VU G n w0 S0 U0 Q) (λa w σ h hk=>⟨σ,h,hk⟩) h.drew hc hw
  |apd f DE=>
   cases d with
   |false=>simp[GQ]at hc
   |true=>
    simp only[GQ]at hc
    refine HS PW OU hm ?_
    exact mN hG (P:=P) (G:=G) (K:=Q .normal) (VU G n w0 S0 U0 Q) (λa w σ h hk=>⟨σ,h,hk⟩) h.drew hc hw
  |X2 xs=>
   cases d with
   |true=>simp[GQ]at hc
   |false=>
    simp only[GQ]at hc
    refine PM PW OU ?_
    have:=nG hG (P:=P) (G:=G) (ops:=ops) (K:=Q .normal) (VU G n w0 S0 U0 Q) (λa w σ h hk=>⟨σ,h,hk⟩) xs 0 h (by simpa using hc) hw
    rw[List.range_eq_range']
    simpa using this
  |bad=>exact hw.elim
  |gz=>cases hg
  |pg=>cases hg
  |_=>simp[GQ]at hc
 |seq x y ZH ihy=>
  refine IA ?_
  intro ic hg Q a w σ hc PW OU h hw
  cases ic with
  |seq x' y'=>
   simp only[GQ,AAP]at hc
   simp only[GR,AAP]at PW
   refine wp_seq (wp_mono (ZH x' _ a w σ hc.1 PW.1 OU h hw) ?_)
   rintro e a' w' ⟨⟨σ',h',hq⟩,Xh⟩
   cases e with
   |normal=>exact ihy y' Q a' w' σ' hc.2 PW.2 (Xh.resolve_left (by simp)) h' hq
   |_=>exact⟨⟨σ',h',hq⟩,Xh⟩
  |bad=>exact hw.elim
  |gz=>cases hg
  |pg=>cases hg
  |_=>simp[GQ]at hc
 |cond c x y ZH ihy=>
  refine IA ?_
  intro ic hg Q a w σ hc PW OU h hw
  cases ic with
  |cond c' x' y'=>
   simp only[GQ,AAP]at hc
   obtain⟨⟨h1,h2⟩,h3⟩:=hc
   simp only[GR,AAP]at PW
   rw[aF]at hw
   split at hw
   . rename_i b hb
     have Ku:a.eval c= .bool b:=by
      obtain⟨S,δ,Fr,hn,Dv,ha,rfl,Bs,_⟩:=h
      obtain⟨hy,he⟩:=Ah h1 ha
      rw[he]
      exact(Bs.Eg hy hb).1
     split at hw
     . rename_i hbt
       subst hbt
       exact wp_cond_true Ku (ZH x' Q a w σ h2 PW.1 OU h hw)
     . rename_i hbf
       obtain rfl:b=false:=by simpa using hbf
       exact wp_cond_false Ku (ihy y' Q a w σ h3 PW.2 OU h hw)
   . exact hw.elim
  |bad=>exact hw.elim
  |gz=>cases hg
  |pg=>cases hg
  |_=>simp[GQ]at hc
 |block id x ZH=>
  refine IA ?_
  intro ic hg Q a w σ hc PW OU h hw
  cases ic with
  |block id' x'=>
   simp only[GQ,AAP,AAd]at hc
   obtain⟨rfl,h2⟩:=hc
   simp only[GR]at PW
   refine wp_block (wp_mono (ZH x' _ a w σ h2 PW OU h hw) ?_)
   rintro e a' w' ⟨⟨σ',h',hq⟩,Xh⟩
   cases e with
   |exit i=>
    simp only[Exit.inBlock]
    rw[OL]at hq
    have V1:=Xh.resolve_left (by simp)
    split
    . rename_i hi;rw[AAY hi]at hq;exact⟨⟨σ',h',hq⟩,.inr V1⟩
    . rename_i hi;rw[AAX hi]at hq;exact⟨⟨σ',h',hq⟩,.inr V1⟩
   |_=>exact⟨⟨σ',h',hq⟩,Xh⟩
  |bad=>exact hw.elim
  |gz=>cases hg
  |pg=>cases hg
  |_=>simp[GQ]at hc
 |loop x ZH=>
  refine IA ?_
  intro ic hg Q a w σ hc PW OU h hw
  cases ic with
  |loop x'=>
   simp only[GQ]at hc
   obtain⟨I,⟨n0,h0⟩,gQ⟩:=hw
   simp only[GR]at PW
   refine wp_loop_ghost (λk a w=>(∃σ,Rel G n w0 S0 U0 a w σ/\I k σ)/\Pg m a0 a) n0 ⟨⟨σ,h,h0⟩,OU⟩ ?_
   rintro k a' w' ⟨⟨τ,h',hI⟩,Xh⟩
   refine wp_mono (ZH x' _ a' w' τ hc PW Xh h' (gQ k τ hI)) ?_
   rintro e a2 w2 ⟨⟨σ2,h2,hq⟩,V1⟩
   cases e with
   |normal=>
    obtain⟨k',hk,hI'⟩:=hq
    exact⟨k',hk,⟨σ2,h2,hI'⟩,V1.resolve_left (by simp)⟩
   |_=>exact⟨⟨σ2,h2,hq⟩,V1⟩
  |bad=>exact hw.elim
  |gz=>cases hg
  |pg=>cases hg
  |_=>simp[GQ]at hc
 |exit id=>
  refine IA ?_
  intro ic hg Q a w σ hc PW OU h hw
  cases ic with
  |exit id'=>
   simp only[GQ,AAd]at hc
   subst hc
   exact wp_exit ⟨⟨σ,h,hw⟩,.inr OU⟩
  |bad=>exact hw.elim
  |gz=>cases hg
  |pg=>cases hg
  |_=>simp[GQ]at hc
 |ret=>
  refine IA ?_
  intro ic hg Q a w σ hc PW OU h hw
  cases ic with
  |ret=>exact wp_ret ⟨⟨σ,h,hw⟩,.inr OU⟩
  |bad=>exact hw.elim
  |gz=>cases hg
  |pg=>cases hg
  |_=>simp[GQ]at hc
 |rangeFunc=>refine IA ?_;intro ic hg Q a w σ hc PW OU h hw;cases ic with|bad=>exact hw.elim|gz=>cases hg|pg=>cases hg|_=>simp[GQ]at hc
 |scope=>refine IA ?_;intro ic hg Q a w σ hc PW OU h hw;cases ic with|bad=>exact hw.elim|gz=>cases hg|pg=>cases hg|_=>simp[GQ]at hc
 |label=>refine IA ?_;intro ic hg Q a w σ hc PW OU h hw;cases ic with|skip=>exact wp_label ⟨⟨σ,h,hw⟩,.inr OU⟩|bad=>exact hw.elim|gz=>cases hg|pg=>cases hg|_=>simp[GQ]at hc
 |goto=>refine IA ?_;intro ic hg Q a w σ hc PW OU h hw;cases ic with|bad=>exact hw.elim|gz=>cases hg|pg=>cases hg|_=>simp[GQ]at hc
 |refuse=>refine IA ?_;intro ic hg Q a w σ hc PW OU h hw;cases ic with|bad=>exact hw.elim|gz=>cases hg|pg=>cases hg|_=>simp[GQ]at hc
end Go.Abs
namespace Go.Abs
variable {w w':World} {S S':Nat->Prop} {G:Gi} {δ:Nat->DV} {Fr:Nat->Nat->Prop} {P:Program}
def aN (P:Program):ResultVar->RV->Bool
 | .tmp t,.tmp t'=>t==t'
 | .cell a t,.cell a' agg n=>a==a'&&Fu P t==some n&&I1 P t==some agg&&(agg||n==1)
 |_,_=>false
def OM (P:Program):List ResultVar->List RV->Bool
 |[],[]=>true
 |r::rs,v::vs=>aN P r v&&OM P rs vs
 |_,_=>false
def Qz (tmps:Array Value):ResultVar->Sem Value
 | .tmp t=>pure (tmps.getD t undef)
 | .cell a t=>do loadVar t (← asAddr (tmps.getD a undef))
theorem MB {α β:Type} (f:α->Sem β) (x:α) (l:List α) {v:β} {vs:List β} (h1:(f x).run P w= .ok v w) (h2:(l.mapM f).run P w= .ok vs w):((x::l).mapM f).run P w= .ok (v::vs) w:=by
 rw[List.mapM_cons]
 simp[h1,h2]
theorem Is {tmps:Array Value} (rvs:List ResultVar):∀{rs:List RV} {δ:Nat->DV} {Fr:Nat->Nat->Prop} {vs:List AV} {τ:Sg},St G w S δ Fr->(∀s,tmps.getD s undef=(δ s).Aq)->OM P rvs rs=true->
 FG G rs (λs=>(δ s).er)=some (vs,τ)->∃(Ds:List DV) (FD:Nat->Prop),Ds.map DV.er=vs/\(rvs.mapM (Qz tmps)).run P w= .ok (Ds.map DV.Aq) w/\JF w S Ds FD/\(∀x,FD x->A2 Fr x)/\
  ∃(δ':Nat->DV) (F':Nat->Nat->Prop),St G w S δ' F'/\(λs=>(δ' s).er)=τ/\(∀s,(δ' s).Aq=(δ s).Aq)/\(∀s x,F' s x->¬FD x)/\(∀x,A2 F' x->A2 Fr x):=by
 induction rvs with
 |nil=>
  intro rs δ Fr vs τ h ha hc ht
  cases rs with
  |nil=>simp only[FG,AAN,AAc]at ht;obtain⟨rfl,rfl⟩:=ht;exact⟨[],λ_=>False,rfl,by simp,λ_ h=>h,λ_ h=>h.elim,δ,Fr,h,rfl,λ_=>rfl,λ_ _ _ h=>h,λ_ h=>h⟩
  |cons=>simp[OM]at hc
 |cons rv rvs ih=>
  intro rs δ Fr vs τ h ha hc ht
  cases rs with
  |nil=>simp[OM]at hc
  |cons r rs=>
   simp only[OM,AAP]at hc
   obtain⟨X6,ML⟩:=hc
   cases r with
   |tmp t=>
    cases rv with
    |cell=>simp[aN]at X6
    |tmp t'=>
     simp only[aN,AAd]at X6
     subst X6
     simp only[FG]at ht
     split at ht
     . rename_i v τ1 XL
       split at ht
       . rename_i vs' τ' oU
         simp only[AAN,AAc]at ht
         obtain⟨rfl,rfl⟩:=ht
         obtain⟨δ',F',D,Ff,ZD,Iw,Er,Qc⟩:=h.tk (x:=.t t') trivial XL
         subst Iw
         obtain⟨Ds,FD,g1,g2,g3,g4,δ2,F2,k1,k2,k3,k4,k5⟩:=ih ZD.st (λs=>(ha s).trans (ZD.Aq s).symm) ML oU
         refine⟨D::Ds,λx=>Ff x∨FD x,by simp[Er,g1],?_,⟨Ff,FD,ZD.ok,g3,?_,λx=>ABe⟩,?_,δ2,F2,k1,k2,λs=>(k3 s).trans (ZD.Aq s),?_,λx hx=>ZD.own x (.inl (k5 x hx))⟩
         . refine MB _ _ _ ?_ g2
           simp[Qz,ha,Qc,CQ]
         . intro x hx hy
           obtain⟨s,hs⟩:=g4 x hy
           exact ZD.LF s x hs hx
         . rintro x (hx|hx)
           . exact ZD.own x (.inr hx)
           . exact ZD.own x (.inl (g4 x hx))
         . rintro s x hx (hy|hy)
           . obtain⟨s',Fl⟩:=k5 x ⟨s,hx⟩;exact ZD.LF s' x Fl hy
           . exact k4 s x hx hy
       . cases ht
     . cases ht
   |cell a agg n=>
    cases rv with
    |tmp=>simp[aN]at X6
    |cell a' t=>
     simp only[aN,AAP,AAd,AAx]at X6
     obtain⟨⟨⟨rfl,hn⟩,hg⟩,hg1⟩:=X6
     simp only[FG]at ht
     split at ht
     . rename_i k row hs
       split at ht
       . rename_i v hv
         split at ht
         . rename_i vs' τ' oU
           simp only[AAN,AAc]at ht
           obtain⟨rfl,rfl⟩:=ht
           obtain⟨Aj,hd,DZ⟩:=h.WQ hs
           have CH:=h.ok a'
           rw[hd]at CH
           match Aj,DZ with
           |[IH],DZ=>
            simp only[AAg,AA2,ABg,and_true]at DZ
            generalize xM:(δ a').Aq=va at*
            cases CH with
            |own _ _ _ b c arr E Fs _ hb hk De Ko hvv hr LJ BP Jb hF=>
             have hkr:IH.length=k:=hk IH (by simp)
             simp only[AAs]at De
             have xC:JF w S IH (λx=>∃j,Fs 0 j x):=by
              refine JK.2 ⟨λj=>Fs 0 j,λj d hj=>hr 0 j IH d rfl hj,λi i' x hx hy=>(LJ 0 i 0 i' x hx hy).2,λj x hx=> ?_,λx=>ABe⟩
              obtain⟨row',d,h1,h2⟩:=BP 0 j x hx
              simp only[AAw,AAN]at h1
              exact⟨d,h1▸h2⟩
             have hlen:IH.length=n:=by
              have:row.length=n:=by
               unfold Hx at hv
               split at hv
               . assumption
               . cases hv
              rw[← this,← DZ];simp
             have Bs:=h.set (w':=w) (S':=S) a' (.lf .dead (I7 true b 1 c)) (λ_=>False) (λ_ _=>rfl) (λ_ _ _ _=>rfl) (λ_ h=>h) (λs _ x hx=>(h.ok s).EZ x hx) (.lf _ _ _ trivial (λ_ h=>h)) (λ_ _ _ h=>h.elim) (by simp) (.lf _ _ trivial)
             have Iw:(λs=>(C1 (Gp G a' δ) a' (.lf .dead (I7 true b 1 c)) s).er)=C1 (I9 G a' λs=>(δ s).er) a' .dead:=by
              funext s
              simp only[C1]
              split
              . simp
              . exact h.bO a' s
             rw[← Iw]at oU
             have C9:∀s,tmps.getD s undef=(C1 (Gp G a' δ) a' (.lf .dead (I7 true b 1 c)) s).Aq:=by
              intro s
              simp only[C1]
              split
              . rename_i e;subst e;rw[ha,xM];simp
              . rw[ha,h.TP a' s]
             obtain⟨Ds,FD,g1,g2,g3,g4,δ2,F2,q1,q2,q3,q4,q5⟩:=ih Bs C9 ML oU
             have q3':∀s,(δ2 s).Aq=(δ s).Aq:=λs=>by rw[q3 s,← C9 s,ha]
             have q5':∀x,A2 F2 x->A2 Fr x/\¬∃j,Fs 0 j x:=by
              intro x hx
              obtain⟨s,hs⟩:=q5 x hx
              simp only[C1]at hs
              split at hs
              . exact hs.elim
              . rename_i Np
                exact⟨⟨s,hs⟩,λ⟨j,hj⟩=>Np (h.LF s a' x hs ((hF x).2 (.inr ⟨0,j,hj⟩)))⟩
             have hload:(loadVar t ⟨b,0,none⟩).run P w= .ok (if agg=true then .agg (IH.map DV.Aq).toArray else(IH.map DV.Aq).headD undef) w:=by
              refine KU hn hg hg1 (by simp[hlen]) ?_
              intro j v hj
              simp only[AAZ]at hj
              cases hjd:IH[j]? with
              |none=>simp[hjd]at hj
              |some d=>
               simp only[hjd,AAl,AAN]at hj
               subst hj
               have:=hvv 0 j IH d rfl hjd
               simp only[World.cell?,hb]
               simpa using this
             have Rl:(Qz tmps (.cell a' t)).run P w= .ok (if agg=true then .agg (IH.map DV.Aq).toArray else(IH.map DV.Aq).headD undef) w:=by
              simp only[Qz,ha,xM,I7,AAs]
              simpa[asAddr]using hload
             have Xk:∀x,(∃j,Fs 0 j x)->A2 Fr x:=λx ⟨j,hx⟩=>⟨a',(hF x).2 (.inr ⟨0,j,hx⟩)⟩
             have CS:∀x,(∃j,Fs 0 j x)->¬FD x:=by
              intro x ⟨j,hx⟩ hy
              obtain⟨s,hs⟩:=g4 x hy
              simp only[C1]at hs
              split at hs
              . exact hs
              . rename_i Np
                exact Np (h.LF s a' x hs ((hF x).2 (.inr ⟨0,j,hx⟩)))
             have hFDo:∀x,FD x->A2 Fr x:=by
              intro x hx
              obtain⟨s,hs⟩:=g4 x hx
              simp only[C1]at hs
              split at hs
              . exact hs.elim
              . exact⟨s,hs⟩
             unfold Hx at hv
             split at hv
             . cases agg with
               |true=>
                simp only[AAs,AAN]at hv Rl
                subst hv
                refine⟨.agg IH::Ds,λx=>(∃j,Fs 0 j x)∨FD x,by simp[DZ,g1],?_,⟨_,FD,Be.2 xC,g3,CS,λx=>ABe⟩,?_,δ2,F2,q1,q2,q3',?_,λx hx=>(q5' x hx).1⟩
                . have:=MB _ _ _ Rl g2
                  simpa using this
                . rintro x (hx|hx)
                  . exact Xk x hx
                  . exact hFDo x hx
                . rintro s x hx (hy|hy)
                  . exact(q5' x ⟨s,hx⟩).2 hy
                  . exact q4 s x hx hy
               |false=>
                simp only[AAW,AAe]at hv Rl
                split at hv
                . rename_i c0 hn1
                  simp only[AAN]at hv
                  subst hv
                  match IH,DZ with
                  |[D0],DZ=>
                   simp only[AAg,AA2,ABg,and_true]at DZ
                   obtain⟨F1,F2q,k1,k2,k3,k4⟩:=xC
                   refine⟨D0::Ds,λx=>F1 x∨FD x,by simp[DZ,g1],?_,⟨_,FD,k1,g3,λx hx=>CS x ((k4 x).2 (.inl hx)),λx=>ABe⟩,?_,δ2,F2,q1,q2,q3',?_,λx hx=>(q5' x hx).1⟩
                   . have:=MB _ _ _ Rl g2
                     simpa using this
                   . rintro x (hx|hx)
                     . exact Xk x ((k4 x).2 (.inl hx))
                     . exact hFDo x hx
                   . rintro s x hx (hy|hy)
                     . exact(q5' x ⟨s,hx⟩).2 ((k4 x).2 (.inl hy))
                     . exact q4 s x hx hy
                . cases hv
             . cases hv
         . cases ht
       . cases ht
     . cases ht
def Y1:AV->Bool
 | .sc _| .sl .. | .dead| .fp _| .own .. | .fZ .. =>true
 |_=>false
def Il:AV->Bool
 | .agg cs=>cs.all Y1
 | .BJ cs=>cs.all Y1
 |a=>Y1 a
theorem Va {L:List Nat} {a:AV} (h:Y1 a=true):E9 L a=true:=by cases a<;>simp_all [Y1,E9]
theorem YD {L:List Nat} {a:AV} (h:Il a=true):E9 L a=true:=by
 cases a with
 |agg cs=>simp only[Il,AAU]at h;rw[E9,VD,AAU];exactλx hx=>Va (h x hx)
 |BJ cs=>simp only[Il,AAU]at h;rw[E9,VD,AAU];exactλx hx=>Va (h x hx)
 |_=>exact Va h
theorem Y2 {d:DV} (hl:X9 d) (h:Y1 d.er=true):C3 δ d:=by
 cases hl with
 |lf a v hl=>refine .lf _ _ ?_;simp only[Ea]at h;cases a<;>simp_all [Y1,Lp]
 |own=>exact .own _ _ _ _
 |agg=>simp[Y1]at h
 |BJ=>simp[Y1]at h
theorem aC {d:DV} (hl:X9 d) (h:Il d.er=true):C3 δ d:=by
 cases hl with
 |lf a v hl=>exact Y2 (.lf a v hl) (by simp only[Ea]at h ⊢;cases a<;>simp_all [Il,CR])
 |own=>exact .own _ _ _ _
 |agg cs hr=>simp only[Gz,Il,ABG,AAU,Function.comp]at h;exact .agg _ λi d hd=>Y2 (hr i d hd) (h d (AAb hd))
 |BJ cs hr=>simp only[Iz,Il,ABG,AAU,Function.comp]at h;exact .BJ _ λi d hd=>Y2 (hr i d hd) (h d (AAb hd))
structure FI where
 c:IC
 g:Gi
 r:List RV
def JP (P:Program) (fn:Func) (I:FI):Bool:=
 (match fn.body with
 |some c=>GQ P I.g fn.ntmps c I.c
 |none=>false)&&OM P fn.results.toList I.r&&I.g.rt.all (λx=> !x.2.contains x.1)
theorem lU {G:Gi} (h:G.rt.all (λx=> !x.2.contains x.1)=true) (s:Nat):s∉G.GJ s:=by
 unfold Gi.GJ
 split
 . rename_i x hx
   have hm:=ABb hx
   have hp:=List.find?_some hx
   simp only[AAU]at h
   have:=h _ hm
   simp only[AAd]at hp
   rw[← hp]
   simpa using this
 . simp
theorem Vr (ds:List DV) (n s:Nat):((ds.map DV.Aq).toArray++Array.replicate (n-(ds.map DV.Aq).toArray.size) undef).getD s undef=(ds.getD s (.lf .un undef)).Aq:=by
 simp only[AAh,Array.getElem?_append,List.getD_eq_getElem?_getD]
 simp only[ABi,AAo]
 split
 . rename_i h;simp[h]
 . rename_i h
   simp only[Array.getElem?_replicate]
   rw[ABQ (by omega)]
   split<;>simp
def N4:List DV->DV
 |[d]=>d
 |ds=>.BJ ds
theorem SB (ds:List DV):(N4 ds).er=one (ds.map DV.er):=by
 match ds with
 |[]=>simp[N4,one]
 |[d]=>simp[N4,one]
 |_::_::_=>simp[N4,one]
theorem NC {ds:List DV} {F:Nat->Prop} (h:JF w S ds F):Ok w S (N4 ds) F:=by
 match ds with
 |[]=>exact A9.2 h
 |[d]=>
  obtain⟨F1,F2,h1,h2,h3,h4⟩:=h
  have:F=F1:=funext λx=>propext ⟨λhx=>((h4 x).1 hx).elim id λhf=>absurd hf (h2 x),λhx=>(h4 x).2 (.inl hx)⟩
  exact this▸h1
 |_::_::_=>exact A9.2 h
def WS:List Value->Value
 |[v]=>v
 |vs=>.tuple vs.toArray
theorem cP {fn:Func} {tmps:Array Value} {vs:List Value} (h:(fn.results.toList.mapM (Qz tmps)).run P w= .ok vs w):
 (results fn tmps).run P w= .ok (WS vs) w:=by
 have e:results fn tmps=(do
  let vs ← fn.results.mapM (Qz tmps)
  pure (if h:vs.size=1 then vs[0]else .tuple vs)):=by
  unfold results
  congr 1
 rw[e,Array.mapM_eq_mapM_toList,map_eq_pure_bind,bind_assoc]
 have h1:∀(m:Sem (List Value)) (k:List Value->Sem Value),m.run P w= .ok vs w->(m >>= k).run P w=(k vs).run P w:=by
  intro m k hm
  simp[hm]
 rw[h1 _ _ h]
 match vs with
 |[]=>simp[WS]
 |[v]=>simp[WS]
 |_::_::_=>simp[WS]
theorem PS {f m:Nat} {fn:Func} {I:FI} {ds:List DV} {F:Nat->Prop} {Q:Exit->Sg->Prop} {R:Ending->World->Prop} (hm:P.follows .mixedOrders=true) (hf:P.funcs[f]? =some fn) (hc:JP P fn I=true) (hn:ds.length≤fn.ntmps) (FK:(ds.map DV.er).all Il=true)
 (PW:∀c,fn.body=some c->GR m c=true) (MX:GI w S) (CH:Ok w S (.BJ ds) F) (hS:∀b,S b->b<w.heap.size) (h:HX P I.g I.c Q (start (ds.map DV.er)))
 (wQ:∀ex w1 S1 δ1 F1 (tmps:Array Value),Q ex (λs=>(δ1 s).er)->St I.g w1 S1 δ1 F1->Nx w S F w1 S1 (A2 F1)->(∀b,S1 b->b<w1.heap.size)->(∀s,tmps.getD s undef=(δ1 s).Aq)->(ex= .outgrown∨∀i,i<m->tmps.getD i undef=(ds.getD i (.lf .un undef)).Aq)->
  OM P fn.results.toList I.r=true->(ex= .normal∨ex= .ret)/\∃v,(results fn tmps).run P w1= .ok v w1/\R (.returned v) w1):Calls P f (ds.map DV.Aq).toArray w R:=by
 simp only[JP,AAP]at hc
 obtain⟨⟨X6,ML⟩,hc3⟩:=hc
 split at X6
 . rename_i c hb
   obtain⟨Fs,hr,hd,BP,hF⟩:sU w S ds F:=by cases CH with|BJ _ Fs _ hr hd BP hF=>exact⟨Fs,hr,hd,BP,hF⟩
   have Vv:∀(i:Nat) d,ds[i]? =some d->Il d.er=true:=λi d hi=>by
    simp only[AAU]at FK
    exact FK _ (ABP (AAb hi))
   refine calls_of_wp hf hb ?_
   let δ:Nat->DV:=λs=>ds.getD s (.lf .un undef)
   have hδ:∀s,(∃d,ds[s]? =some d/\δ s=d)∨(ds[s]? =none/\δ s= .lf .un undef):=by
    intro s
    cases hs:ds[s]? with
    |some d=>exact .inl ⟨d,rfl,by simp[δ,hs]⟩
    |none=>exact .inr ⟨rfl,by simp[δ,hs]⟩
   have Bs:St I.g w S δ Fs:=by
    refine⟨λs=> ?_,λs t x=>hd s t x,λs=> ?_,λs=> ?_,lU hc3⟩
    . rcases hδ s with⟨d,hs,e⟩|⟨hs,e⟩
      . rw[e];exact hr s d hs
      . rw[e]
        exact .lf _ _ _ rfl λx hx=>by obtain⟨d,hd⟩:=BP s x hx;rw[hs]at hd;cases hd
    . rcases hδ s with⟨d,hs,e⟩|⟨hs,e⟩
      . rw[e];exact aC (hr s d hs).KQ (Vv s d hs)
      . rw[e];exact .lf _ _ trivial
    . rcases hδ s with⟨d,hs,e⟩|⟨hs,e⟩
      . rw[e];exact YD (Vv s d hs)
      . rw[e];simp
   have hσ:(λs=>(δ s).er)=start (ds.map DV.er):=by
    funext s
    unfold start
    rcases hδ s with⟨d,hs,e⟩|⟨hs,e⟩
    . simp[e,hs]
    . simp[e,hs]
   have Ha:Rel I.g fn.ntmps w S F {tmps:=(ds.map DV.Aq).toArray++Array.replicate (fn.ntmps-(ds.map DV.Aq).toArray.size) undef,defers:=[]} w (start (ds.map DV.er)):=by
    refine⟨S,δ,Fs,by simp;omega,rfl,λs=>Vr ds fn.ntmps s,hσ,Bs,Nx.less λx ⟨s,hx⟩=>(hF x).2 ⟨s,hx⟩,hS⟩
   refine wp_mono (YG ⟨MX,λb hb=>⟨λhf=>CH.EZ b hf hb,hS b hb⟩⟩ hm (m:=m) (a0:={tmps:=(ds.map DV.Aq).toArray++Array.replicate (fn.ntmps-(ds.map DV.Aq).toArray.size) undef,defers:=[]}) c I.c _ _ w _ X6 (PW c hb) (Pg.refl _ _) Ha h) ?_
   rintro e a' w1 ⟨⟨σ,⟨S1,δ1,F1,hn1,Dv,QB,rfl,Ed,EO,D5⟩,hq⟩,IK⟩
   obtain⟨hex,v,hv,hR⟩:=wQ e w1 S1 δ1 F1 a'.tmps hq Ed EO D5 QB (IK.imp id λhk i hi=>(hk i hi).trans (Vr ds fn.ntmps i)) ML
   rcases hex with rfl|rfl
   . exact⟨Dv,v,hv,hR⟩
   . exact⟨Dv,v,hv,hR⟩
 . cases X6
theorem jU {rs:List RV} {res:AV} {e:Exit} {σ:Sg} (h:Ends G rs res e σ):e= .normal∨e= .ret:=by
 obtain⟨h,_⟩:=h
 cases e<;>simp_all
theorem Sm {fn:Func} {tmps:Array Value} {Ds:List DV} (h:(fn.results.toList.mapM (Qz tmps)).run P w= .ok (Ds.map DV.Aq) w):(results fn tmps).run P w= .ok (N4 Ds).Aq w:=by
 rw[cP h]
 match Ds with
 |[]=>simp[N4,WS]
 |[d]=>simp[N4,WS]
 |_::_::_=>simp[N4,WS]
theorem Gu {f:Nat} {fn:Func} {I:FI} {args:List AV} {res:AV} (hm:P.follows .mixedOrders=true) (hf:P.funcs[f]? =some fn) (hc:JP P fn I=true) (hn:args.length≤fn.ntmps) (FK:args.all Il=true)
 (h:HX P I.g I.c (Ends I.g I.r res) (start args)):Says P f args res:=by
 intro w S ds F MX Jd CH hS
 subst Jd
 refine PS (m:=0) hm hf hc (by simpa using hn) FK (λc _=>OO c) MX CH hS h ?_
 rintro ex w1 S1 δ1 F1 tmps hq Ed EO D5 QB _ ML
 refine⟨jU hq,?_⟩
 obtain⟨_,vs,τ,XL,Rl⟩:=hq
 obtain⟨Ds,FD,g1,g2,g3,g4,_⟩:=Is fn.results.toList Ed QB ML XL
 have hO:JF w1 S1 (ds.map λd=>DV.lf .dead d.Aq) (λ_=>False):=by
  refine B7 λd hd=> ?_
  obtain⟨x,_,rfl⟩:=ABZ.1 hd
  exact .lf _ _ _ trivial (λ_ h=>h)
 exact⟨_,Sm g2,N4 Ds,ds.map λd=>DV.lf .dead d.Aq,S1,FD,rfl,by rw[SB,g1,Rl],by simp,by simp,A9.2 ⟨FD,λ_=>False,NC g3,hO,λ_ _ h=>h,λx=>by simp⟩,⟨EO.os,EO.tape,EO.output,EO.size,EO.block⟩,EO.sub,EO.sup,D5,λx hx=>EO.own x (g4 x hx)⟩
def SE (σ:Sg):Nat->List AV->Prop
 |_,[]=>True
 |i,o::os=>(match o with| .dead=>True|o=>σ i=o)/\SE σ (i+1) os
def VN (G:Gi) (rs:List RV) (res:AV) (outs:List AV) (e:Exit) (σ:Sg):Prop:=
 (match e with| .normal=>True| .ret=>True|_=>False)/\∃vs τ,FG G rs σ=some (vs,τ)/\one vs=res/\SE τ 0 outs
def fI (fn:Func) (m:Nat):Bool:=match fn.body with
 |some c=>GR m c
 |none=>false
theorem WT {δ':Nat->DV} {F':Nat->Nat->Prop} (Bs:St G w S δ' F') (outs:List AV):∀(i:Nat),SE (λs=>(δ' s).er) i outs->
 ∃os:List DV,os.map DV.er=outs/\os.map DV.Aq=(List.range' i outs.length).map (λs=>(δ' s).Aq)/\∃Fo,JF w S os Fo/\(∀x,Fo x->∃s,i≤s/\F' s x):=by
 induction outs with
 |nil=>intro i _;exact⟨[],rfl,rfl,λ_=>False,λ_ h=>h,λ_ h=>h.elim⟩
 |cons o outs ih=>
  intro i h
  obtain⟨h1,h2⟩:=h
  obtain⟨os,e1,e2,Fo,e3,e4⟩:=ih (i+1) h2
  have key:∃(D:DV) (FD:Nat->Prop),D.er=o/\D.Aq=(δ' i).Aq/\Ok w S D FD/\∀x,FD x->F' i x:=by
   by_cases hd:o= .dead
   . subst hd;exact⟨.lf .dead (δ' i).Aq,λ_=>False,by simp,by simp,.lf _ _ _ trivial (λ_ h=>h),λ_ h=>h.elim⟩
   . refine⟨δ' i,F' i,?_,rfl,Bs.ok i,λ_ h=>h⟩
     cases o<;>first|exact h1|exact absurd rfl hd
  obtain⟨D,FD,k1,k2,k3,k4⟩:=key
  refine⟨D::os,by simp[k1,e1],by simp[k2,e2,ABo],λx=>FD x∨Fo x,⟨FD,Fo,k3,e3,?_,λx=>ABe⟩,?_⟩
  . intro x hx hy
    obtain⟨s,hs,Fl⟩:=e4 x hy
    have:=Bs.LF i s x (k4 x hx) Fl
    omega
  . rintro x (hx|hx)
    . exact⟨i,AAy _,k4 x hx⟩
    . obtain⟨s,hs,Fl⟩:=e4 x hx;exact⟨s,by omega,Fl⟩
theorem Sp {f:Nat} {fn:Func} {I:FI} {args:List AV} {res:AV} {outs:List AV} (hm:P.follows .mixedOrders=true) (hf:P.funcs[f]? =some fn) (hc:JP P fn I=true) (hD:fI fn args.length=true) (hn:args.length≤fn.ntmps) (FK:args.all Il=true) (wY:outs.length=args.length)
 (h:HX P I.g I.c (VN I.g I.r res outs) (start args)):BD P f args res outs:=by
 intro w S ds F MX Jd CH hS
 subst Jd
 refine PS (m:=ds.length) hm hf hc (by simpa using hn) FK (λc hb=>by simp only[fI,hb]at hD;simpa using hD) MX CH hS h ?_
 rintro ex w1 S1 δ1 F1 tmps hq Ed EO D5 QB IK ML
 have hex:ex= .normal∨ex= .ret:=by obtain⟨h,_⟩:=hq;cases ex<;>simp_all
 refine⟨hex,?_⟩
 obtain⟨_,vs,τ,XL,Rl,Xk⟩:=hq
 have OU:=IK.resolve_left (by rcases hex with rfl|rfl<;>simp)
 obtain⟨Ds,FD,g1,g2,g3,g4,δ2,F2,k1,k2,k3,k4,k5⟩:=Is fn.results.toList Ed QB ML XL
 rw[← k2]at Xk
 obtain⟨os,e1,e2,Fo,e3,e4⟩:=WT k1 outs 0 Xk
 have C9:os.map DV.Aq=ds.map DV.Aq:=by
  rw[e2]
  have hl:outs.length=ds.length:=by simpa using wY
  rw[hl]
  apply ABV
  intro i
  simp only[AAZ]
  by_cases hi:i<ds.length
  . rw[List.getElem?_range' (by simpa using hi),AAT hi]
    simp only[ABS,Nat.one_mul,AAl,AAN]
    rw[k3,← QB,OU i hi]
    simp[hi]
  . rw[ABQ (by simp;omega),ABQ (by omega)]
    rfl
 refine⟨_,Sm g2,N4 Ds,os,S1,λx=>FD x∨Fo x,rfl,by rw[SB,g1,Rl],e1,C9,A9.2 ⟨FD,Fo,NC g3,e3,?_,λx=>ABe⟩,⟨EO.os,EO.tape,EO.output,EO.size,EO.block⟩,EO.sub,EO.sup,D5,?_⟩
 . intro x hx hy
   obtain⟨s,_,hs⟩:=e4 x hy
   exact k4 s x hs hx
 . rintro x (hx|hx)
   . exact EO.own x (g4 x hx)
   . obtain⟨s,_,hs⟩:=e4 x hx;exact EO.own x (k5 x ⟨s,hs⟩)
end Go.Abs
namespace Go.Abs
open Go.Sort
variable {w w':World} {S S':Nat->Prop} {P:Program}
def ints (l:List Int):List (List AV):=l.map λz=>[AV.sc (.int .i64 z)]
theorem xR (l:List Int) (i:Nat):(ints l)[i]? =(l[i]?).map λz=>[AV.sc (.int .i64 z)]:=by simp[ints]
theorem WU {d:DV} {F:Nat->Prop} {zs:List Int} (h:Ok w S d F) (he:d.er= .own false 1 (ints zs)):
 (d.Aq= .slice none 0 0/\zs=[]/\∀x,¬F x)∨∃b c arr E,d.Aq= .slice (some ⟨b,0,none⟩) zs.length c/\w.heap[b]? =some (.cells arr E (0,0))/\c=arr.size/\zs.length≤c/\¬S b/\
  (∀(i:Nat) (z:Int),zs[i]? =some z->arr[i]? =some (.int .i64 z))/\(∀x,F x↔x=b):=by
 cases h with
 |lf a v _ ha hF=>simp only[Ea]at he;subst he;exact ha.elim
 |agg=>simp at he
 |BJ=>simp at he
 |nil k _ hF=>
  simp only[EE,AA2,AV.own.injEq,true_and]at he
  left
  refine⟨by simp,?_,hF⟩
  have:=congrArg List.length he.2
  simpa[ints]using this.symm
 |own bx k rows b c arr E Fs _ hb hk De Ko hv hr hd BP Jb hF=>
  simp only[EE,AV.own.injEq]at he
  obtain⟨rfl,rfl,he⟩:=he
  right
  have hlen:rows.length=zs.length:=by have:=congrArg List.length he;simpa[ints]using this
  simp only[AAW,AAe,Nat.mul_one]at De
  have BR:∀(i:Nat) (z:Int),zs[i]? =some z->∃d v,rows[i]? =some [d]/\d= .lf (.sc (.int .i64 z)) v/\v= .int .i64 z:=by
   intro i z hz
   have h1:(rows.map (·.map DV.er))[i]? =some [AV.sc (.int .i64 z)]:=by rw[he,xR,hz];rfl
   rw[AAZ]at h1
   cases IW:rows[i]? with
   |none=>simp[IW]at h1
   |some row=>
    simp only[IW,AAl,AAN]at h1
    obtain⟨d,rfl,h2⟩:=List.map_eq_singleton_iff.1 h1
    clear h1
    have h1:=h2
    clear h2
    have CH:=hr i 0 [d] d IW rfl
    cases CH with
    |lf a v _ ha hF=>rw[Ea]at h1;subst h1;exact⟨_,v,rfl,rfl,ha.1⟩
    |nil=>simp at h1
    |own=>simp at h1
    |agg=>simp at h1
    |BJ=>simp at h1
  refine⟨b,c,arr,E,by simp[I7,hlen],hb,De.1,by omega,Ko,?_,?_⟩
  . intro i z hz
    obtain⟨d,v,h1,rfl,rfl⟩:=BR i z hz
    have:=hv i 0 _ _ h1 rfl
    simpa using this
  . intro x
    rw[hF x]
    constructor
    . rintro(h|⟨i,j,h⟩)
      . exact h
      . obtain⟨row,d,h1,h2⟩:=BP i j x h
        have hi:i<zs.length:=by rw[← hlen];exact(AAQ.1 h1).1
        obtain⟨d',v,h3,rfl,_⟩:=BR i zs[i] (AAT hi)
        rw[h1]at h3
        obtain rfl:=AAR h3
        have hj:j=0:=by have:=(AAQ.1 h2).1;simp at this;exact this
        subst hj
        simp only[AAw,AAN]at h2
        subst h2
        have CH:=hr i 0 _ _ h1 rfl
        cases CH with
        |lf _ _ _ _ Vt=>exact absurd h (Vt x)
    . exact .inl
theorem ZM {b c:Nat} {arr:Array Value} {E:TypeId} {zs:List Int} (hb:w.heap[b]? =some (.cells arr E (0,0))) (hc:c=arr.size) (hl:zs.length≤c) (hS:¬S b) (hz:∀(i:Nat) (z:Int),zs[i]? =some z->arr[i]? =some (.int .i64 z)):
 ∃d,d.er= .own false 1 (ints zs)/\d.Aq= .slice (some ⟨b,0,none⟩) zs.length c/\Ok w S d (λx=>x=b):=by
 have DZ:∀(i j:Nat) row d,(zs.map λz=>[DV.lf (.sc (.int .i64 z)) (.int .i64 z)])[i]? =some row->row[j]? =some d->∃z,zs[i]? =some z/\j=0/\d= .lf (.sc (.int .i64 z)) (.int .i64 z):=by
  intro i j row d h1 h2
  rw[AAZ]at h1
  cases hi:zs[i]? with
  |none=>simp[hi]at h1
  |some z=>
   simp only[hi,AAl,AAN]at h1
   subst h1
   have hj:j=0:=by have:=(AAQ.1 h2).1;simp at this;exact this
   subst hj
   simp only[AAw,AAN]at h2
   exact⟨z,rfl,rfl,h2.symm⟩
 have CH:=Ok.own (w:=w) (S:=S) false 1 (zs.map λz=>[DV.lf (.sc (.int .i64 z)) (.int .i64 z)]) b c arr E (λ_ _ _=>False) (λx=>x=b) hb (by simp) (by simp[hc];omega) hS
  (by intro i j row d h1 h2;obtain⟨z,h3,rfl,rfl⟩:=DZ i j row d h1 h2;simpa using hz i z h3)
  (by intro i j row d h1 h2;obtain⟨z,h3,rfl,rfl⟩:=DZ i j row d h1 h2;exact .lf _ _ _ ⟨rfl,rfl⟩ (λ_ h=>h))
  (λ_ _ _ _ _ h=>h.elim) (λ_ _ _ h=>h.elim) (λ_ _ h=>h) (λx=>by simp)
 exact⟨_,by simp[ints],by simp[I7],CH⟩
theorem Qf {b:Nat} {arr:Array Value} {E:TypeId} {zs:List Int} (hb:w.heap[b]? =some (.cells arr E (0,0))) (hz:∀(i:Nat) (z:Int),zs[i]? =some z->arr[i]? =some (.int .i64 z)):Holds (Value.int .i64) w b 0 zs.toArray:=by
 intro j hj
 have wW:j<zs.length:=by simpa using hj
 refine⟨?_,by simp[World.frozen?,hb]⟩
 have:=hz j zs[j] (AAT wW)
 simp only[World.cell?,hb,ABS]
 simp[this,wW]
theorem Vx {g n:Nat} {os:Array Obj} {cur:Array Value} {e:TypeId} {fr:Nat×Nat} (d:Array Int) (hb:w.heap[g]? =some (.cells cur e fr)):
 (grow (putRow (Value.int .i64) (Sort.ahead w n) g 0 d) os).heap[g]? =some (.cells (putCells (Value.int .i64) 0 d cur) e fr):=by
 have hg:g<w.heap.size:=(AAz.1 hb).1
 rw[heap_grow_old _ _ (by simpa using hg)]
 simp[putRow,mapBlock,Sort.ahead,ABX,hb,onCells]
theorem ZA {g n:Nat} {os:Array Obj} (d:Array Int) {F:Nat->Prop} (hF:F g):Ext w (grow (putRow (Value.int .i64) (Sort.ahead w n) g 0 d) os) F:=by
 refine⟨rfl,rfl,rfl,by simp,λk hk Np=> ?_⟩
 rw[heap_grow_old _ _ (by simpa using hk)]
 have:g≠k:=λe=>Np (e▸hF)
 simp[putRow,mapBlock,Sort.ahead,ABX,this]
theorem iJ {cur:Array Value} (ts:List Int) (h:ts.length≤cur.size):∀(i:Nat) (z:Int),ts[i]? =some z->(putCells (Value.int .i64) 0 ts.toArray cur)[i]? =some (.int .i64 z):=by
 intro i z hz
 obtain⟨hi,rfl⟩:=AAQ.1 hz
 simp[putCells,hi,show i<cur.size by omega]
theorem jA {f:Nat}
 (hsort:∀(LO off cap:Nat) (zs:List Int) (w:World),Holds (Value.int .i64) w LO off zs.toArray->LO<w.heap.size->zs.length<4611686018427387904->
  Calls P f #[.slice (some ⟨LO,off,none⟩) zs.length cap] w λe w'=>e= .returned (.tuple #[])/\∃n os,w'=grow (putRow (Value.int .i64) (Sort.ahead w n) LO off (zs.mergeSort λx y=>decide (x≤y)).toArray) os)
 (bE:∀(p:ABp Addr) (cap:Nat) (w:World),Calls P f #[.slice p 0 cap] w λe w'=>e= .returned (.tuple #[])/\w'=w)
 (zs:List Int) (hl:zs.length<4611686018427387904):BD P f [.own false 1 (ints zs)] (.BJ []) [.own false 1 (ints (zs.mergeSort λx y=>decide (x≤y)))]:=by
 intro w S ds F _ Jd CH hS
 obtain⟨d,rfl,LJ⟩:=List.map_eq_singleton_iff.1 Jd
 replace Jd:=LJ
 obtain⟨F1,F2,h1,h2,_,h4⟩:=A9.1 CH
 have hF:∀x,F x↔F1 x:=λx=>by rw[h4 x];exact⟨λh=>h.elim id λh=>absurd h (h2 x),.inl⟩
 rcases WU h1 Jd with⟨ha,rfl,KX⟩|⟨b,c,arr,E,ha,hb,hc,RE,Ko,hz,QA⟩
 . simp only[AAg,AA2,ha]
   refine(bE none 0 w).mono ?_
   rintro e w' ⟨rfl,rfl⟩
   refine⟨.BJ [],[d],S,F,by simp,by simp,by simpa using Jd,by simp[ha],?_,⟨rfl,rfl,rfl,AAy _,λ_ _ _=>rfl⟩,λ_ h=>h,λ_ h=>.inl h,hS,λ_ h=>.inl h⟩
   exact A9.2 ⟨λ_=>False,F,A9.2 (λ_ h=>h),⟨F1,F2,h1,h2,λx hx=>absurd hx (KX x),h4⟩,λ_ h=>h.elim,λx=>by simp⟩
 . simp only[AAg,AA2,ha]
   refine(hsort b 0 c zs w (Qf hb hz) (AAz.1 hb).1 hl).mono ?_
   rintro e w' ⟨rfl,n,os,rfl⟩
   have hms:(zs.mergeSort λx y=>decide (x≤y)).length=zs.length:=by simp
   obtain⟨d',k1,k2,k3⟩:=ZM (S:=S) (c:=c) (Vx (n:=n) (os:=os) (zs.mergeSort λx y=>decide (x≤y)).toArray hb) (by simp[putCells,hc]) (by rw[hms];exact RE) Ko (iJ _ (by rw[hms];omega))
   refine⟨.BJ [],[d'],S,λx=>x=b,by simp,by simp,by simp[k1],by simp[k2],?_,ZA _ ((hF b).2 ((QA b).2 rfl)),λ_ h=>h,λ_ h=>.inl h,λx hx=> ?_,λx hx=>.inl ((hF x).2 ((QA x).2 hx))⟩
   . exact A9.2 ⟨λ_=>False,λx=>x=b,A9.2 (λ_ h=>h),⟨_,λ_=>False,k3,λ_ h=>h,λ_ _ h=>h,λx=>by simp⟩,λ_ h=>h.elim,λx=>by simp⟩
   . have:=hS x hx;simp;omega
theorem Xe {f:Nat}
 (hcomp:∀(LO off cap:Nat) (zs:List Int) (w:World),Holds (Value.int .i64) w LO off zs.toArray->zs.length≤9223372036854775807->zs.length≤cap->
  Calls P f #[.slice (some ⟨LO,off,none⟩) zs.length cap] w λe w'=>e= .returned (.slice (some ⟨LO,off,none⟩) (Lib.compact zs).length cap)/\∃q,w'=putRow (Value.int .i64) (Sort.ahead w q) LO off (Lib.compact zs++List.replicate (zs.length-(Lib.compact zs).length) 0).toArray)
 (bE:∀(p:ABp Addr) (cap:Nat) (w:World),Calls P f #[.slice p 0 cap] w λe w'=>e= .returned (.slice p 0 cap)/\w'=w)
 (zs:List Int) (hl:zs.length<4611686018427387904) (hle:(Lib.compact zs).length≤zs.length) (w9:Lib.compact ([]:List Int)=[]):BD P f [.own false 1 (ints zs)] (.own false 1 (ints (Lib.compact zs))) [.dead]:=by
 intro w S ds F _ Jd CH hS
 obtain⟨d,rfl,LJ⟩:=List.map_eq_singleton_iff.1 Jd
 replace Jd:=LJ
 obtain⟨F1,F2,h1,h2,_,h4⟩:=A9.1 CH
 have hF:∀x,F x↔F1 x:=λx=>by rw[h4 x];exact⟨λh=>h.elim id λh=>absurd h (h2 x),.inl⟩
 have QE:∀w',JF w' S [DV.lf .dead d.Aq] (λ_=>False):=λw'=>B7 λx hx=>by simp at hx;subst hx;exact .lf _ _ _ trivial (λ_ h=>h)
 rcases WU h1 Jd with⟨ha,rfl,KX⟩|⟨b,c,arr,E,ha,hb,hc,RE,Ko,hz,QA⟩
 . simp only[AAg,AA2,ha]
   refine(bE none 0 w).mono ?_
   rintro e w' ⟨rfl,rfl⟩
   refine⟨d,[.lf .dead d.Aq],S,F1,by rw[ha],by rw[Jd,w9],by simp,by simp[ha],?_,⟨rfl,rfl,rfl,AAy _,λ_ _ _=>rfl⟩,λ_ h=>h,λ_ h=>.inl h,hS,λx h=>.inl ((hF x).2 h)⟩
   exact A9.2 ⟨F1,λ_=>False,h1,QE _,λ_ _ h=>h,λx=>by simp⟩
 . simp only[AAg,AA2,ha]
   refine(hcomp b 0 c zs w (Qf hb hz) (by omega) RE).mono ?_
   rintro e w' ⟨rfl,n,rfl⟩
   have GX:(Lib.compact zs++List.replicate (zs.length-(Lib.compact zs).length) (0:Int)).length=zs.length:=by simp;omega
   have hh:=Vx (n:=n) (os:= #[]) (Lib.compact zs++List.replicate (zs.length-(Lib.compact zs).length) 0).toArray hb
   have he:=ZA (w:=w) (n:=n) (os:= #[]) (g:=b) (F:=F) (Lib.compact zs++List.replicate (zs.length-(Lib.compact zs).length) 0).toArray ((hF b).2 ((QA b).2 rfl))
   rw[grow_empty]at hh he
   obtain⟨d',k1,k2,k3⟩:=ZM (S:=S) (c:=c) (zs:=Lib.compact zs) hh (by simp[putCells,hc]) (by omega) Ko (λi z hi=>iJ (Lib.compact zs++List.replicate (zs.length-(Lib.compact zs).length) 0) (by rw[GX];omega) i z (by
    rw[AAr (AAQ.1 hi).1];exact hi))
   refine⟨d',[.lf .dead d.Aq],S,λx=>x=b,by rw[k2],k1,by simp,by simp[ha],?_,he,λ_ h=>h,λ_ h=>.inl h,λx hx=> ?_,λx hx=>.inl ((hF x).2 ((QA x).2 hx))⟩
   . exact A9.2 ⟨_,λ_=>False,k3,QE _,λ_ _ h=>h,λx=>by simp⟩
   . have:=hS x hx;simpa using this
end Go.Abs
namespace Go.Abs
variable {P:Program} {G:Gi}
theorem Gl {d:ABp Dg} {v:AV} {K K':Sg->Prop} {τ:Sg} (h:∀σ,K σ->K' σ) (ht:CM d v K τ):CM d v K' τ:=by
 unfold CM at*
 split at ht
 . split at ht
   . exact h _ ht
   . exact ht.elim
 . exact h _ ht
theorem OI {o:BH} {K K':Sg->Prop} {σ:Sg} (h:∀σ,K σ->K' σ) (ht:KH P G o K σ):KH P G o K' σ:=by
 obtain⟨τ,h1,h2⟩:=OJ.1 ht
 exact OJ.2 ⟨τ,h1,h _ h2⟩
theorem PR {K K':Sg->Prop} (h:∀σ,K σ->K' σ):∀{os:List BH} {σ:Sg},Mo P G os K σ->Mo P G os K' σ
 |[],_,ht=>h _ ht
 |_::_,_,ht=>OI (λ_ hx=>PR h hx) ht
theorem KI {K K':Sg->Prop} (h:∀σ,K σ->K' σ):∀{xs:List dM} {σ:Sg},Kx P G xs K σ->Kx P G xs K' σ
 |[],_,ht=>h _ ht
 | .o _::_,_,ht=>OI (λ_ hx=>KI h hx) ht
 | .Ry d neg x::xs,σ,ht=>by
  simp only[Kx]at ht ⊢
  split at ht
  . split at ht
    . exactλb hb=>Gl (λ_ hx=>KI h hx) (ht b hb)
    . exact ht.elim
  . exact ht.elim
 | .gld d g n::xs,σ,ht=>by
  simp only[Kx]at ht ⊢
  split at ht
  . exact Gl (λ_ hx=>KI h hx) ht
  . exact ht.elim
 | .bxv d n s::xs,σ,ht=>by
  simp only[Kx]at ht ⊢
  split at ht
  . exact⟨ht.1,λus hu=>Gl (λ_ hx=>KI h hx) (ht.2 us hu)⟩
  . exact ht.elim
 | .lb d f x dS y::xs,σ,ht=>by
  have hm:∀τ,Kx P G xs K τ->Kx P G xs K' τ:=λ_ hx=>KI h hx
  simp only[Kx,lbP]at ht ⊢
  split at ht
  case h_2=>exact ht.elim
  split at ht
  case h_2=>exact ht.elim
  split at ht
  case h_2=>exact ht.elim
  split at ht
  case h_2=>exact ht.elim
  unfold lbQ at ht ⊢
  obtain⟨h1,res,out,h2,h3,h4,h5⟩:=ht
  refine⟨h1,res,out,h2,h3,h4,?_⟩
  split at h5
  case h_2=>exact h5.elim
  split at h5
  case h_2=>exact h5.elim
  exact Gl hm h5
 | .clo d f x args g::xs,σ,ht=>by
  have hm:∀τ,Kx P G xs K τ->Kx P G xs K' τ:=λ_ hx=>KI h hx
  have hA:fQ P d f x args (Kx P G xs K) σ->fQ P d f x args (Kx P G xs K') σ:=by
   unfold fQ;intro ht
   split at ht
   . obtain⟨res,h1,h3⟩:=ht
     refine⟨res,h1,?_⟩
     split at h3
     . exact Gl hm h3
     . exact h3.elim
   . exact ht.elim
  have hB:W6 d (Kx P G xs K) σ->W6 d (Kx P G xs K') σ:=by cases d<;>exact hm _
  show gdP g _ _ σ
  have ht:gdP g _ _ σ:=ht
  cases g with
  |none=>exact hA ht
  |some g=>
   obtain⟨g,want⟩:=g
   simp only[gdP]at ht ⊢
   cases hg:σ g with
   |sc v=>
    cases v with
    |bool b=>
     rw[hg]at ht
     by_cases e:b=want
     . simp only[AAY e]at ht ⊢;exact hA ht
     . simp only[AAX e]at ht ⊢;exact hB ht
    |_=>rw[hg]at ht;exact ht.elim
   |un=>rw[hg]at ht;exact hB ht
   |_=>rw[hg]at ht;exact ht.elim
theorem VX {f:rG} {K K':Sg->Prop} (h:∀σ,K σ->K' σ):∀{os:List BH} {m:Nat} {σ:Sg},NX P G f m os K σ->NX P G f m os K' σ
 |[],_,_,ht=>⟨ht.1,h _ ht.2⟩
 |_::_,_,_,ht=>⟨ht.1,OI (λ_ hx=>VX h hx) ht.2⟩
theorem VW {f:rH} {K K':Sg->Prop} (h:∀σ,K σ->K' σ):∀{os:List BH} {σ:Sg},P7 P G f os K σ->P7 P G f os K' σ
 |[],_,ht=>h _ ht
 |_::_,_,ht=>⟨ht.1,OI (λ_ hx=>VW h hx) ht.2⟩
theorem aG {ic:IC}:∀{Q Q':Exit->Sg->Prop} {σ:Sg},(∀e σ,Q e σ->Q' e σ)->HX P G ic Q σ->HX P G ic Q' σ:=by
 induction ic with
 |skip=>exactλh ht=>h _ _ ht
 |bad=>exactλ_ ht=>ht
 |X2 xs=>exactλh ht=>KI (h .normal) ht
 |OD ops=>exactλh ht=>PR (h .normal) ht
 |Zq fs ops=>exactλh ht=>PR (h .normal) ht
 |flo f a b=>exactλh ht=>VW (λ_ hx=>PR (h .normal) hx) ht
 |apd f ops=>
  intro Q Q' σ h ht
  exact VX (λ_ hx=>OI (h .normal) hx) ht
 |pg _ r p a Rn=>
  intro Q Q' σ h ht
  refine Rn (λe σ' hq=> ?_) ht
  cases e with
  |normal=>
   simp only[pgQ]at hq ⊢
   split at hq
   . exact h _ _ hq
   . exact hq.elim
  |_=>exact h _ _ hq
 |gz _ r p a Rn=>
  intro Q Q' σ h ht
  simp only[HX]at ht ⊢
  split at ht
  . exact Rn h ht
  . exact ht.elim
 |seq a b Rn xP=>
  intro Q Q' σ h ht
  refine Rn (λe σ' hq=> ?_) ht
  cases e with
  |normal=>exact xP h hq
  |_=>exact h _ _ hq
 |cond c a b Rn xP=>
  intro Q Q' σ h ht
  rw[aF]at ht ⊢
  split at ht
  . split at ht
    . rename_i hx;simp only[hx,AAs];exact Rn h ht
    . rename_i hx;simp only[hx];exact xP h ht
  . exact ht.elim
 |block id a Rn=>
  intro Q Q' σ h ht
  refine Rn (λe σ' hq=> ?_) ht
  cases e with
  |exit i=>
   rw[OL]at hq ⊢
   split
   . rename_i hi;rw[AAY hi]at hq;exact h _ _ hq
   . rename_i hi;rw[AAX hi]at hq;exact h _ _ hq
  |_=>exact h _ _ hq
 |loop a Rn=>
  intro Q Q' σ h ht
  obtain⟨I,h0,hr⟩:=ht
  refine⟨I,h0,λn τ hI=>Rn (λe σ' hq=> ?_) (hr n τ hI)⟩
  cases e with
  |normal=>exact hq
  |_=>exact h _ _ hq
 |exit id=>exactλh ht=>h _ _ ht
 |ret=>exactλh ht=>h _ _ ht
abbrev si (n:Int):AV:=.sc (.int .i64 n)
abbrev sb (b:Bool):AV:=.sc (.bool b)
def zB (x:ABp (List AV×Sg)) (res:AV):Prop:=match x with
 |some (vs,_)=>one vs=res
 |none=>False
theorem iR (vs:List AV) (τ:Sg) (res:AV):zB (some (vs,τ)) res=(one vs=res):=(rfl)
theorem sR (G:Gi) (rs:List RV) (res:AV) (σ:Sg):Ends G rs res .ret σ=zB (FG G rs σ) res:=by
 unfold Ends zB
 cases FG G rs σ with
 |none=>simp
 |some x=>obtain⟨vs,τ⟩:=x;simp
theorem one_one (v:AV):one [v]=v:=(rfl)
theorem one_two (v u:AV) (l:List AV):one (v::u::l)= .BJ (v::u::l):=(rfl)
end Go.Abs
namespace Go.Abs
variable {P:Program} {G:Gi}
theorem pH (d:Nat) (σ:Sg):JA [] d σ=σ:=(rfl)
theorem o8 (G:Gi) (n d:Nat) (σ:Sg) (s:Nat):FV G n d σ s=if s∈G.NW d then Ek n d (σ s)else σ s:=(rfl)
theorem xU (G:Gi) (d:Nat) (σ:Sg) (s:Nat):I9 G d σ s=if s∈G.NW d then C8 d (σ s)else σ s:=(rfl)
theorem zU (args:List AV) (s:Nat):start args s=args.getD s .un:=(rfl)
def bK (x:ABp Sg) (K:Sg->Prop):Prop:=match x with
 |some τ=>K τ
 |none=>False
theorem bK_some (τ:Sg) (K:Sg->Prop):bK (some τ) K=K τ:=(rfl)
theorem bK_none (K:Sg->Prop):bK none K=False:=(rfl)
theorem awp_apd (f:rG) (ops:List BH) (Q:Exit->Sg->Prop) (σ:Sg):HX P G (.apd f ops) Q σ=NX P G f 0 ops (KH P G ⟨none,.st 1 (.t f.ap) (.t f.s),none⟩ (Q .normal)) σ:=(rfl)
theorem mL (f:rG) (m:Nat) (K:Sg->Prop) (σ:Sg):NX P G f m [] K σ=bK (if p6 f m σ=true then some σ else none) K:=by
 by_cases h:p6 f m σ=true<;>simp[NX,bK,h]
theorem eQ (f:rG) (m:Nat) (o:BH) (os:List BH) (K:Sg->Prop) (σ:Sg):NX P G f m (o::os) K σ=bK (if p6 f m σ=true then some σ else none) (KH P G o (NX P G f (m+1) os K)):=by
 by_cases h:p6 f m σ=true<;>simp[NX,bK,h]
theorem uI (d:ABp Dg) (x:Ar) (g:ABp (Nat×Bool)) (K:Sg->Prop) (σ:Sg):Dp P G ⟨d,.std x,g⟩ K σ=bK (Fk G (.std x) d σ) K:=(rfl)
theorem awp_pg (P:Program) (G:Gi) (c:Bool) (r:Nat) (p:List Step) (a:IC) (Q:Exit->Sg->Prop) (σ:Sg):HX P G (.pg c r p a) Q σ=HX P G a (pgQ G c r p Q) σ:=(rfl)
theorem iG (G:Gi) (c:Bool) (r:Nat) (p:List Step) (Q:Exit->Sg->Prop) (σ:Sg):pgQ G c r p Q .normal σ=bK (gzS G c r p σ) (Q .normal):=(rfl)
theorem awp_gz (P:Program) (G:Gi) (c:Bool) (r:Nat) (p:List Step) (a:IC) (Q:Exit->Sg->Prop) (σ:Sg):HX P G (.gz c r p a) Q σ=bK (gzS G c r p σ) (HX P G a Q):=(rfl)
def RQ (x:AV) (a b:Sg->Prop) (σ:Sg):Prop:=match x with
 | .sc (.bool x)=>if x=true then a σ else b σ
 |_=>False
theorem kE (a b:Sg->Prop) (σ:Sg):RQ (.sc (.bool true)) a b σ=a σ:=by simp[RQ]
theorem kD (a b:Sg->Prop) (σ:Sg):RQ (.sc (.bool false)) a b σ=b σ:=by simp[RQ]
theorem nC (P:Program) (G:Gi) (c:Ar) (a b:IC) (Q:Exit->Sg->Prop) (σ:Sg):HX P G (.cond c a b) Q σ=RQ (ar σ c) (HX P G a Q) (HX P G b Q) σ:=(rfl)
def lX (d:ABp Dg) (K:Sg->Prop) (σ:Sg):Prop:=match d with
 |some d=>K (C1 (JA d.kl d.d σ) d.d .un)
 |none=>K σ
theorem skipK_s (d:Dg) (K:Sg->Prop) (σ:Sg):lX (some d) K σ=K (C1 (JA d.kl d.d σ) d.d .un):=(rfl)
theorem skipK_n (K:Sg->Prop) (σ:Sg):lX none K σ=K σ:=(rfl)
def gK (x:AV) (want:Bool) (a b:Sg->Prop) (σ:Sg):Prop:=match x with
 | .sc (.bool x)=>if x=want then a σ else b σ
 | .un=>b σ
 |_=>False
theorem gK_tt (a b:Sg->Prop) (σ:Sg):gK (.sc (.bool true)) true a b σ=a σ:=by simp[gK]
theorem gK_tf (a b:Sg->Prop) (σ:Sg):gK (.sc (.bool true)) false a b σ=b σ:=by simp[gK]
theorem gK_ft (a b:Sg->Prop) (σ:Sg):gK (.sc (.bool false)) true a b σ=b σ:=by simp[gK]
theorem gK_ff (a b:Sg->Prop) (σ:Sg):gK (.sc (.bool false)) false a b σ=a σ:=by simp[gK]
theorem gK_un (want:Bool) (a b:Sg->Prop) (σ:Sg):gK .un want a b σ=b σ:=(rfl)
theorem aop_n (d:ABp Dg) (op:XJ) (K:Sg->Prop) (σ:Sg):KH P G ⟨d,op,none⟩ K σ=Dp P G ⟨d,op,none⟩ K σ:=(rfl)
theorem aop_g (d:ABp Dg) (op:XJ) (g:Nat) (want:Bool) (K:Sg->Prop) (σ:Sg):KH P G ⟨d,op,some (g,want)⟩ K σ=gK (σ g) want (Dp P G ⟨d,op,some (g,want)⟩ K) (lX d K) σ:=(rfl)
theorem awp_flc (fs:List (Nat×Nat×Nat×Nat)) (ops:List BH) (Q:Exit->Sg->Prop) (σ:Sg):HX P G (.Zq fs ops) Q σ=Mo P G ops (Q .normal) σ:=(rfl)
theorem awp_flo (f:rH) (a b:List BH) (Q:Exit->Sg->Prop) (σ:Sg):HX P G (.flo f a b) Q σ=P7 P G f a (Mo P G b (Q .normal)) σ:=(rfl)
theorem mK (f:rH) (K:Sg->Prop) (σ:Sg):P7 P G f [] K σ=K σ:=(rfl)
theorem eP (f:rH) (o:BH) (os:List BH) (K:Sg->Prop) (σ:Sg):P7 P G f (o::os) K σ=bK (if ZI f.kb f.off (σ f.r)=true then some σ else none) (KH P G o (P7 P G f os K)):=by
 show(_/\_)=_
 by_cases h:ZI f.kb f.off (σ f.r)=true
 . simp[h,bK]
 . simp[h,bK]
theorem tH (K:Sg->Prop) (σ:Sg):Mo P G [] K σ=K σ:=(rfl)
theorem mM (o:BH) (os:List BH) (K:Sg->Prop) (σ:Sg):Mo P G (o::os) K σ=KH P G o (Mo P G os K) σ:=(rfl)
theorem toDst_s (d:Dg) (v:AV) (K:Sg->Prop) (τ:Sg):CM (some d) v K τ=bK (wr d v τ) K:=(rfl)
theorem toDst_n (v:AV) (K:Sg->Prop) (τ:Sg):CM none v K τ=K τ:=(rfl)
def iT (x:ABp AV) (d:ABp Dg) (K:Sg->Prop) (τ:Sg):Prop:=match x with
 |some v=>CM d v K τ
 |none=>False
theorem qE (v:AV) (d:ABp Dg) (K:Sg->Prop) (τ:Sg):iT (some v) d K τ=CM d v K τ:=(rfl)
def callK (P:Program) (x:ABp (List AV×Sg)) (f m:Nat) (d:ABp Dg) (K:Sg->Prop):Prop:=match x with
 |some (Dt,τ)=>∃res,Says P f Dt res/\iT (Q0 m res) d K τ
 |none=>False
theorem fA (Dt:List AV) (τ:Sg) (f m:Nat) (d:ABp Dg) (K:Sg->Prop):callK P (some (Dt,τ)) f m d K=∃res,Says P f Dt res/\iT (Q0 m res) d K τ:=(rfl)
theorem mQ (d:ABp Dg) (f:Nat) (args:List Ar) (m:Nat) (g:ABp (Nat×Bool)) (K:Sg->Prop) (σ:Sg):Dp P G ⟨d,.call f args m,g⟩ K σ=callK P (Fj G m args σ) f m d K:=(rfl)
theorem axs_nil (K:Sg->Prop) (σ:Sg):Kx P G [] K σ=K σ:=(rfl)
theorem axs_o (o:BH) (xs:List dM) (K:Sg->Prop) (σ:Sg):Kx P G (.o o::xs) K σ=KH P G o (Kx P G xs K) σ:=(rfl)
def nilK (x:ABp (AV×ABp (Nat×List Step))) (d:Dg) (neg:Bool) (K:Sg->Prop) (σ:Sg):Prop:=match x with
 |some (a,_)=>(match rowsOf a with
  |some rows=>∀b:Bool,(b=true->rows=[])->CM (some d) (.sc (.bool (if neg=true then !b else b))) K σ
  |none=>False)
 |none=>False
theorem nilK_sl (e:Bool) (k:Nat) (rows:List (List AV)) (pl:ABp (Nat×List Step)) (d:Dg) (neg:Bool) (K:Sg->Prop) (σ:Sg):nilK (some (.sl e k rows,pl)) d neg K σ=∀b:Bool,(b=true->rows=[])->CM (some d) (.sc (.bool (if neg=true then !b else b))) K σ:=(rfl)
theorem uP (d:Dg) (neg:Bool) (x:Ar) (xs:List dM) (K:Sg->Prop) (σ:Sg):Kx P G (.Ry d neg x::xs) K σ=nilK (hd σ x) d neg (Kx P G xs K) σ:=(rfl)
def gldK (x:ABp (List Value)) (d:Dg) (K:Sg->Prop) (σ:Sg):Prop:=match x with
 |some cs=>CM (some d) (.agg (cs.map .sc)) K σ
 |none=>False
theorem oK (cs:List Value) (d:Dg) (K:Sg->Prop) (σ:Sg):gldK (some cs) d K σ=CM (some d) (.agg (cs.map .sc)) K σ:=(rfl)
theorem axs_gld (d:Dg) (g n:Nat) (xs:List dM) (K:Sg->Prop) (σ:Sg):Kx P G (.gld d g n::xs) K σ=gldK (aW g n) d (Kx P G xs K) σ:=(rfl)
def bxvK (x:AV) (d:Dg) (n s:Nat) (K:Sg->Prop) (σ:Sg):Prop:=match x with
 | .agg cs=>cs.length=n/\∀us:List Value,us.length=n->CM (some d) (.vb s 0 us) K σ
 |_=>False
theorem uU (cs:List AV) (d:Dg) (n s:Nat) (K:Sg->Prop) (σ:Sg):bxvK (.agg cs) d n s K σ=(cs.length=n/\∀us:List Value,us.length=n->CM (some d) (.vb s 0 us) K σ):=(rfl)
theorem axs_bxv (d:Dg) (n s:Nat) (xs:List dM) (K:Sg->Prop) (σ:Sg):Kx P G (.bxv d n s::xs) K σ=bxvK (σ s) d n s (Kx P G xs K) σ:=(rfl)
def cloK (P:Program) (x:ABp (List AV)) (f:Nat) (d:ABp Dg) (K:Sg->Prop) (σ:Sg):Prop:=match x with
 |some Dt=>∃res,Says P f Dt res/\iT (Q0 0 res) d K σ
 |none=>False
theorem nO (f:Nat) (Dt:List AV) (d:ABp Dg) (K:Sg->Prop) (σ:Sg):cloK P (some Dt) f d K σ=∃res,Says P f Dt res/\iT (Q0 0 res) d K σ:=(rfl)
theorem uO (d:ABp Dg) (f:Nat) (x:Ar) (args:List Ar) (g:Nat) (b:Bool) (xs:List dM) (K:Sg->Prop) (σ:Sg):Kx P G (.clo d f x args (some (g,b))::xs) K σ=gK (σ g) b (fQ P d f x args (Kx P G xs K)) (lX d (Kx P G xs K)) σ:=(rfl)
theorem cloP_at (d:ABp Dg) (f:Nat) (x:Ar) (args:List Ar) (K:Sg->Prop) (σ:Sg):fQ P d f x args K σ=cloK P (uW σ f x args) f d K σ:=(rfl)
theorem uG (d:ABp Dg) (f:Nat) (xs:List Ar) (g:ABp (Nat×Bool)) (K:Sg->Prop) (σ:Sg):Dp P G ⟨d,.yI f xs,g⟩ K σ=bK (Fk G (.yI f xs) d σ) K:=(rfl)
def lndK (P:Program) (G:Gi) (x:ABp (Nat×List Step)) (Dt bs:ABp (List AV)) (a:AV->AV) (c:ABp Nat) (f:Nat) (d:ABp Dg) (K:Sg->Prop) (σ:Sg):Prop:=match x,Dt,bs with
 |some (r,p),some Dt,some bs=>(match sub (σ r) p with
  |some (.own b k rows)=>∃res out o,BD P f (Dt++a (.own b k rows)::bs) res ((Dt.map λ_=>.dead)++out::bs.map λ_=>.dead)/\RI c out=some o/\Hk o=true/\clean res=true/\(match put (σ r) p o with
   |some t=>CM d res K (C1 (FV G (Ru o b k p) r σ) r t)
   |none=>False)
  |_=>False)
 |_,_,_=>False
theorem uF (d:ABp Dg) (f:Nat) (pre:List Ar) (x:Ar) (c:ABp Nat) (post:List Ar) (g:ABp (Nat×Bool)) (K:Sg->Prop) (σ:Sg):Dp P G ⟨d,.WN f pre x c post,g⟩ K σ=lndK P G (Om σ x c) (N5 σ pre) (N5 σ post) (Rt σ x c) c f d K σ:=(rfl)
theorem arun_cp (d:ABp Dg) (x:Ar) (g:ABp (Nat×Bool)) (K:Sg->Prop) (σ:Sg):Dp P G ⟨d,.cp x,g⟩ K σ=bK (Fk G (.cp x) d σ) K:=(rfl)
theorem arun_mv (d:ABp Dg) (x:Ar) (g:ABp (Nat×Bool)) (K:Sg->Prop) (σ:Sg):Dp P G ⟨d,.mv x,g⟩ K σ=bK (Fk G (.mv x) d σ) K:=(rfl)
theorem mT (d:ABp Dg) (c:Ar) (a:Ar) (b:Ar) (g:ABp (Nat×Bool)) (K:Sg->Prop) (σ:Sg):Dp P G ⟨d,.pick c a b,g⟩ K σ=bK (Fk G (.pick c a b) d σ) K:=(rfl)
theorem arun_bx (d:ABp Dg) (n:Nat) (x:Ar) (g:ABp (Nat×Bool)) (K:Sg->Prop) (σ:Sg):Dp P G ⟨d,.bx n x,g⟩ K σ=bK (Fk G (.bx n x) d σ) K:=(rfl)
theorem tV (d:ABp Dg) (z:List AV) (ps:List (Nat×Nat×Ar)) (g:ABp (Nat×Bool)) (K:Sg->Prop) (σ:Sg):Dp P G ⟨d,.RD z ps,g⟩ K σ=bK (Fk G (.RD z ps) d σ) K:=(rfl)
theorem tW (d:ABp Dg) (n:Nat) (z:List (List AV)) (ps:List (Nat×Ar)) (g:ABp (Nat×Bool)) (K:Sg->Prop) (σ:Sg):Dp P G ⟨d,.Mr n z ps,g⟩ K σ=bK (Fk G (.Mr n z ps) d σ) K:=(rfl)
theorem arun_ld (d:ABp Dg) (ag:Bool) (n:Nat) (x:Ar) (g:ABp (Nat×Bool)) (K:Sg->Prop) (σ:Sg):Dp P G ⟨d,.ld ag n x,g⟩ K σ=bK (Fk G (.ld ag n x) d σ) K:=(rfl)
theorem arun_st (d:ABp Dg) (n:Nat) (x:Ar) (y:Ar) (g:ABp (Nat×Bool)) (K:Sg->Prop) (σ:Sg):Dp P G ⟨d,.st n x y,g⟩ K σ=bK (Fk G (.st n x y) d σ) K:=(rfl)
theorem tZ (d:ABp Dg) (n:Nat) (x:Ar) (g:ABp (Nat×Bool)) (K:Sg->Prop) (σ:Sg):Dp P G ⟨d,.Tu n x,g⟩ K σ=bK (Fk G (.Tu n x) d σ) K:=(rfl)
theorem uB (d:ABp Dg) (n:Nat) (x:Ar) (y:Ar) (g:ABp (Nat×Bool)) (K:Sg->Prop) (σ:Sg):Dp P G ⟨d,.VA n x y,g⟩ K σ=bK (Fk G (.VA n x y) d σ) K:=(rfl)
theorem tQ (d:ABp Dg) (n:Nat) (m:Nat) (x:Ar) (y:Ar) (g:ABp (Nat×Bool)) (K:Sg->Prop) (σ:Sg):Dp P G ⟨d,.aad n m x y,g⟩ K σ=bK (Fk G (.aad n m x y) d σ) K:=(rfl)
theorem uC (d:ABp Dg) (ag:Bool) (n:Nat) (m:Nat) (x:Ar) (y:Ar) (g:ABp (Nat×Bool)) (K:Sg->Prop) (σ:Sg):Dp P G ⟨d,.idx ag n m x y,g⟩ K σ=bK (Fk G (.idx ag n m x y) d σ) K:=(rfl)
theorem tU (d:ABp Dg) (bop:BinOp) (x:Ar) (y:Ar) (g:ABp (Nat×Bool)) (K:Sg->Prop) (σ:Sg):Dp P G ⟨d,.bin bop x y,g⟩ K σ=bK (Fk G (.bin bop x y) d σ) K:=(rfl)
theorem tT (d:ABp Dg) (ag:Bool) (x:Ar) (y:Ar) (g:ABp (Nat×Bool)) (K:Sg->Prop) (σ:Sg):Dp P G ⟨d,.beq ag x y,g⟩ K σ=bK (Fk G (.beq ag x y) d σ) K:=(rfl)
theorem arun_un (d:ABp Dg) (uop:UnOp) (x:Ar) (g:ABp (Nat×Bool)) (K:Sg->Prop) (σ:Sg):Dp P G ⟨d,.un uop x,g⟩ K σ=bK (Fk G (.un uop x) d σ) K:=(rfl)
theorem tX (d:ABp Dg) (ik:IntKind) (x:Ar) (g:ABp (Nat×Bool)) (K:Sg->Prop) (σ:Sg):Dp P G ⟨d,.cvt ik x,g⟩ K σ=bK (Fk G (.cvt ik x) d σ) K:=(rfl)
theorem uE (d:ABp Dg) (x:Ar) (g:ABp (Nat×Bool)) (K:Sg->Prop) (σ:Sg):Dp P G ⟨d,.len x,g⟩ K σ=bK (Fk G (.len x) d σ) K:=(rfl)
theorem mV (d:ABp Dg) (x y:Ar) (g:ABp (Nat×Bool)) (K:Sg->Prop) (σ:Sg):Dp P G ⟨d,.X4 x y,g⟩ K σ=bK (Fk G (.X4 x y) d σ) K:=(rfl)
theorem arun_mm (d:ABp Dg) (mx:Bool) (x y:Ar) (g:ABp (Nat×Bool)) (K:Sg->Prop) (σ:Sg):Dp P G ⟨d,.mm mx x y,g⟩ K σ=bK (Fk G (.mm mx x y) d σ) K:=(rfl)
theorem mU (d:ABp Dg) (neg:Bool) (kd:List Nat) (x y:Ar) (g:ABp (Nat×Bool)) (K:Sg->Prop) (σ:Sg):Dp P G ⟨d,.Up neg kd x y,g⟩ K σ=bK (Fk G (.Up neg kd x y) d σ) K:=(rfl)
theorem mW (d:ABp Dg) (x:Ar) (g:ABp (Nat×Bool)) (K:Sg->Prop) (σ:Sg):Dp P G ⟨d,.Te x,g⟩ K σ=bK (Fk G (.Te x) d σ) K:=(rfl)
theorem tS (d:ABp Dg) (n:Nat) (m:Nat) (x:Ar) (y:Ar) (g:ABp (Nat×Bool)) (K:Sg->Prop) (σ:Sg):Dp P G ⟨d,.app n m x y,g⟩ K σ=bK (Fk G (.app n m x y) d σ) K:=(rfl)
theorem uH (d:ABp Dg) (n:Nat) (ag:Bool) (x:Ar) (lo:ABp Ar) (hi:ABp Ar) (mx:ABp Ar) (g:ABp (Nat×Bool)) (K:Sg->Prop) (σ:Sg):Dp P G ⟨d,.sF n ag x lo hi mx,g⟩ K σ=bK (Fk G (.sF n ag x lo hi mx) d σ) K:=(rfl)
theorem tY (d:ABp Dg) (x:Ar) (n:Nat) (g:ABp (Nat×Bool)) (K:Sg->Prop) (σ:Sg):Dp P G ⟨d,.ext x n,g⟩ K σ=bK (Fk G (.ext x n) d σ) K:=(rfl)
theorem arun_mk (d:ABp Dg) (n:Nat) (m:Nat) (z:List AV) (l:Ar) (c:Ar) (g:ABp (Nat×Bool)) (K:Sg->Prop) (σ:Sg):Dp P G ⟨d,.mk n m z l c,g⟩ K σ=bK (Fk G (.mk n m z l c) d σ) K:=(rfl)
theorem arun_fl (d:ABp Dg) (g:ABp (Nat×Bool)) (K:Sg->Prop) (σ:Sg):Dp P G ⟨d,.fl,g⟩ K σ=bK (Fk G .fl d σ) K:=(rfl)
theorem uA (d:ABp Dg) (x:Ar) (k:Nat) (g:ABp (Nat×Bool)) (K:Sg->Prop) (σ:Sg):Dp P G ⟨d,.flk x k,g⟩ K σ=bK (Fk G (.flk x k) d σ) K:=(rfl)
theorem mR (d:ABp Dg) (r off kb k:Nat) (i:Ar) (g:ABp (Nat×Bool)) (K:Sg->Prop) (σ:Sg):Dp P G ⟨d,.bL r off kb k i,g⟩ K σ=bK (Fk G (.bL r off kb k i) d σ) K:=(rfl)
theorem uD (d:ABp Dg) (x:Ar) (g:ABp (Nat×Bool)) (K:Sg->Prop) (σ:Sg):Dp P G ⟨d,.WM x,g⟩ K σ=bK (Fk G (.WM x) d σ) K:=(rfl)
theorem uJ (d:ABp Dg) (x y:Ar) (g:ABp (Nat×Bool)) (K:Sg->Prop) (σ:Sg):Dp P G ⟨d,.VG x y,g⟩ K σ=bK (Fk G (.VG x y) d σ) K:=(rfl)
theorem mS (d:ABp Dg) (x:Ar) (g:ABp (Nat×Bool)) (K:Sg->Prop) (σ:Sg):Dp P G ⟨d,.JT x,g⟩ K σ=bK (Fk G (.JT x) d σ) K:=(rfl)
end Go.Abs
namespace Go.Abs
variable {w w':World} {S S':Nat->Prop} {G:Gi} {δ:Nat->DV} {Fr:Nat->Nat->Prop} {P:Program}
def jS (G:Gi) (rs:List RV) (res:AV) (e:Exit) (σ:Sg):Prop:=
 (match e with| .normal=>True| .ret=>True|_=>False)/\∃vs τ,FG G rs σ=some (vs,τ)/\one (vs.map rX)=res
def iM (x:ABp (List AV×Sg)) (res:AV):Prop:=match x with
 |some (vs,_)=>one (vs.map rX)=res
 |none=>False
theorem cJ (vs:List AV) (τ:Sg) (res:AV):iM (some (vs,τ)) res=(one (vs.map rX)=res):=(rfl)
theorem mA (G:Gi) (rs:List RV) (res:AV) (σ:Sg):jS G rs res .ret σ=iM (FG G rs σ) res:=by
 unfold jS iM
 cases FG G rs σ with
 |none=>simp
 |some x=>obtain⟨vs,τ⟩:=x;simp
theorem YP (ds:List DV):∀{F:Nat->Prop},JF w S ds F->∃Ds:List DV,Ds.map DV.er=(ds.map DV.er).map rX/\Ds.map DV.Aq=ds.map DV.Aq/\JF w (λx=>S x∨F x) Ds (λ_=>False):=by
 induction ds with
 |nil=>intro F h;exact⟨[],rfl,rfl,λ_ h=>h⟩
 |cons d ds ih=>
  rintro F ⟨F1,F2,h1,h2,h3,h4⟩
  obtain⟨D,e1,e2,e3⟩:=aV h1
  obtain⟨Ds,d1,d2,d3⟩:=ih h2
  refine⟨D::Ds,by simp[e1,d1],by simp[e2,d2],⟨λ_=>False,λ_=>False,?_,?_,λ_ h=>h.elim,λx=>by simp⟩⟩
  . exact e3.mono (λ_ _=>rfl) (λ_ h=>h.elim) (λb hb=>hb.imp id λh=>(h4 b).2 (.inl h)) (λ_ h=>h.elim)
  . exact d3.mono (λ_ _=>rfl) (λ_ h=>h.elim) (λb hb=>hb.imp id λh=>(h4 b).2 (.inr h)) (λ_ h=>h.elim)
theorem SA (ds:List DV):(N4 ds).Aq=WS (ds.map DV.Aq):=by
 match ds with
 |[]=>simp[N4,WS]
 |[d]=>simp[N4,WS]
 |_::_::_=>simp[N4,WS]
theorem cU {f:Nat} {fn:Func} {I:FI} {args:List AV} {res:AV} (hm:P.follows .mixedOrders=true) (hf:P.funcs[f]? =some fn) (hc:JP P fn I=true) (hn:args.length≤fn.ntmps) (FK:args.all Il=true)
 (h:HX P I.g I.c (jS I.g I.r res) (start args)):Says P f args res:=by
 intro w S ds F MX Jd CH hS
 subst Jd
 refine PS (m:=0) hm hf hc (by simpa using hn) FK (λc _=>OO c) MX CH hS h ?_
 rintro ex w1 S1 δ1 F1 tmps hq Ed EO D5 QB _ ML
 have hex:ex= .normal∨ex= .ret:=by obtain⟨h,_⟩:=hq;cases ex<;>simp_all
 refine⟨hex,?_⟩
 obtain⟨_,vs,τ,XL,Rl⟩:=hq
 obtain⟨Ds,FD,g1,g2,g3,g4,_⟩:=Is fn.results.toList Ed QB ML XL
 obtain⟨Ds',k1,k2,k3⟩:=YP _ g3
 have hO:JF w1 (λx=>S1 x∨FD x) (ds.map λd=>DV.lf .dead d.Aq) (λ_=>False):=by
  refine B7 λd hd=> ?_
  obtain⟨x,_,rfl⟩:=ABZ.1 hd
  exact .lf _ _ _ trivial (λ_ h=>h)
 refine⟨_,Sm g2,N4 Ds',ds.map λd=>DV.lf .dead d.Aq,λx=>S1 x∨FD x,λ_=>False,by rw[SA,SA,k2],by rw[SB,k1,g1,Rl],by simp,by simp,A9.2 ⟨λ_=>False,λ_=>False,NC k3,hO,λ_ h=>h.elim,λx=>by simp⟩,⟨EO.os,EO.tape,EO.output,EO.size,EO.block⟩,λb hb=>.inl (EO.sub b hb),?_,?_,λx hx=>hx.elim⟩
 . rintro b (hb|hb)
   . exact EO.sup b hb
   . exact .inr (EO.own b (g4 b hb))
 . rintro b (hb|hb)
   . exact D5 b hb
   . exact(NC g3).lt b hb
def Ww (x:ABp (List AV×Sg)) (res:AV) (outs:List AV):Prop:=match x with
 |some (vs,τ)=>one vs=res/\SE τ 0 outs
 |none=>False
theorem cK (vs:List AV) (τ:Sg) (res:AV) (outs:List AV):Ww (some (vs,τ)) res outs=(one vs=res/\SE τ 0 outs):=(rfl)
theorem mB (G:Gi) (rs:List RV) (res:AV) (outs:List AV) (σ:Sg):VN G rs res outs .ret σ=Ww (FG G rs σ) res outs:=by
 unfold VN Ww
 cases FG G rs σ with
 |none=>simp
 |some x=>
  obtain⟨vs,τ⟩:=x
  simp only[AAN,AAc,true_and,eq_iff_iff]
  exact⟨λ⟨_,_,⟨e1,e2⟩,h⟩=>by subst e1;subst e2;exact h,λh=>⟨_,_,⟨rfl,rfl⟩,h⟩⟩
theorem Yx (G:Gi) (rs:List RV) (res:AV) (outs:List AV) (σ:Sg):VN G rs res outs .normal σ=Ww (FG G rs σ) res outs:=by
 unfold VN Ww
 cases FG G rs σ with
 |none=>simp
 |some x=>
  obtain⟨vs,τ⟩:=x
  simp only[AAN,AAc,true_and,eq_iff_iff]
  exact⟨λ⟨_,_,⟨e1,e2⟩,h⟩=>by subst e1;subst e2;exact h,λh=>⟨_,_,⟨rfl,rfl⟩,h⟩⟩
end Go.Abs
namespace Go.Abs
attribute [go_sem] jY awp_reg awp_rex nA uN uL awp_ret awp_gz awp_pg awp_apd mL eQ uI p6 OZ Qh iG gzS czS nC kE kD tH mM aop_n aop_g gK_tt gK_tf gK_ft gK_ff
attribute [go_sem] gK_un skipK_s skipK_n bK_some bK_none toDst_s toDst_n qE fA mQ axs_nil axs_o nilK_sl uP arun_cp arun_mv
attribute [go_sem] mT arun_bx tV tW arun_ld arun_st tZ uB tQ uC tU tT arun_un tX uE mW tS uH
attribute [go_sem] arun_mm mU nV PV mV axs_gld oK QO tY arun_mk awp_flc awp_flo mK eP ZI arun_fl uA mR uD uJ mS Fk tk Zh wr valOf binF binI unF view PB PA Lo vC vF Hx I3
attribute [go_sem] G1 Ex cellsOf CR ar hd eT Dr pH Rq xU o8 Ek TL C8 Oa C1 E9 O6 UL UM Zd zS
attribute [go_sem] sub put Pk I0 RR Md sD UJ VY Fj JU cC SK sE MG dU rX fzl Q0 YO
attribute [go_sem] fresh OP QZ plc rowsOf Hk cW qL zK Xb OL eY Gi.NW zU if_true ite_true ite_false if_false Option.map_some
attribute [go_sem] Bool.false_eq_true List.getD_cons_zero List.getD_cons_succ true_and and_true and_self false_and and_false Int.natCast_nonneg Int.toNat_natCast List.take_succ_cons List.take_zero List.drop_zero List.drop_succ_cons List.map_cons List.map_nil List.length_cons List.length_nil Nat.zero_add decide_eq_true_eq
attribute [go_sem] List.getElem?_cons_zero List.getElem?_cons_succ List.all_cons List.all_nil Bool.and_true Bool.true_and Nat.le_refl List.nil_append List.append_nil beq_self_eq_true bne_self_eq_false beq_iff_eq bne_iff_ne ne_eq not_true_eq_false not_false_eq_true sR mA
attribute [go_sem] cJ FG iR one_one one_two AV.sc.injEq Value.bool.injEq Value.int.injEq AV.BJ.injEq AV.agg.injEq List.cons.injEq AV.own.injEq AV.sl.injEq Option.some.injEq Prod.mk.injEq exists_and_left exists_eq_left exists_eq_left' exists_eq
attribute [go_sem] List.contains_nil List.filter_nil List.flatMap_nil List.not_mem_nil List.filter_cons Bool.not_true Bool.not_false Int.toNat_zero Nat.lt_irrefl Nat.sub_zero List.isEmpty_nil List.contains_cons Bool.or_false Bool.false_or Bool.or_true Bool.true_or List.mem_cons or_false false_or
attribute [go_sem] or_true true_or or_self Nat.lt_add_one Nat.zero_lt_one List.set_cons_zero List.set_cons_succ Xg MU List.cons_append List.drop_nil List.take_nil Bool.not_eq_true Bool.and_false Bool.false_and Bool.and_self List.any_cons List.any_nil decide_true decide_false
attribute [go_sem] eq_self Us Ve axs_bxv uU uO cloP_at nO uW nJ RK uG uF Qo rdF N5 Om Rt RI clean Jo mB Yx cK SE
theorem vP (a:List (List AV)) (i:Nat) (x:List AV):MU (a.set i x)=(MU a).set i (Xg x):=by simp[U6,U5,List.map_set]
attribute [go_sem] vP
end Go.Abs
namespace Go.Abs
variable {w w':World} {S S':Nat->Prop} {G:Gi} {δ:Nat->DV} {Fr:Nat->Nat->Prop} {P:Program}
inductive MO where
 |mp (es:List (ABq×Value))
 |it (s:ABq) (pos:Nat)
def MO.is:MO->Obj->Prop
 | .mp es,o=>∃arr c,o= .map arr c/\arr.toList.map (λe=>(e.key,e.val))=es.map λx=>(Value.string x.1,x.2)
 | .it s p,o=>o= .stringIter s p
abbrev Mu:=Nat->ABp MO
def JG (G:Gi) (n:Nat) (w0:World) (S0 U0:Nat->Prop) (a:Act) (w:World) (σ:Sg) (μ:Mu):Prop:=
 ∃(w1:World) (S1 U1:Nat->Prop),Nx w0 S0 U0 w1 S1 U1/\XY w1 S1 U1/\
  (∀b o,μ b=some o->b<w1.heap.size/\¬S1 b/\¬U1 b/\w0.heap.size≤b/\∃ob,w1.heap[b]? =some ob/\o.is ob)/\Rel G n w1 S1 U1 a w σ
variable {n:Nat} {w0:World} {S0 U0:Nat->Prop} {a:Act} {σ:Sg} {μ:Mu}
theorem JG.start (hG:XY w0 S0 U0) (h:Rel G n w0 S0 U0 a w σ):JG G n w0 S0 U0 a w σ (λ_=>none):=
 ⟨w0,S0,U0,Nx.refl _ _ _,hG,λ_ _ h=>by(cases h),h⟩
theorem JG.AAJ (h:JG G n w0 S0 U0 a w σ μ):Rel G n w0 S0 U0 a w σ:=by
 obtain⟨w1,S1,U1,hx,hG,hμ,S,δ,F,h1,h2,h3,h4,h5,h6,h7⟩:=h
 exact⟨S,δ,F,h1,h2,h3,h4,h5,hx.trans h6,h7⟩
theorem JG.obj (h:JG G n w0 S0 U0 a w σ μ) {b:Nat} {o:MO} (hb:μ b=some o):∃ob,w.heap[b]? =some ob/\o.is ob:=by
 obtain⟨w1,S1,U1,hx,hG,hμ,S,δ,F,h1,h2,h3,h4,h5,h6,h7⟩:=h
 obtain⟨g1,g2,g3,g4,ob,g5,g6⟩:=hμ b o hb
 exact⟨ob,by rw[h6.block b g1 g3];exact g5,g6⟩
theorem JG.fresh (h:JG G n w0 S0 U0 a w σ μ):μ w.heap.size=none:=by
 cases hb:μ w.heap.size with
 |none=>rfl
 |some o=>
  obtain⟨ob,h1,_⟩:=h.obj hb
  have:=(AAz.1 h1).1
  omega
theorem JG.turn (h:JG G n w0 S0 U0 a w σ μ) {b:Nat} {o':MO} {ob':Obj} (hb:(∃o,μ b=some o)∨b=w.heap.size) (xF:w'.os=w.os) (htp:w'.tape=w.tape) (hou:w'.output=w.output) (Po:w.heap.size≤w'.heap.size)
 (hbl:∀c,c<w.heap.size->c≠b->w'.heap[c]? =w.heap[c]?) (oQ:w'.heap[b]? =some ob') (his:o'.is ob'):JG G n w0 S0 U0 a w' σ (C1 μ b (some o')):=by
 obtain⟨w1,S1,U1,hx,hG,hμ,S,δ,F,h1,h2,h3,rfl,h5,h6,h7⟩:=h
 have ZC:∀c o,μ c=some o->c<w.heap.size/\¬S c/\¬A2 F c/\w0.heap.size≤c/\∃ob,w.heap[c]? =some ob/\o.is ob:=by
  intro c o hc
  obtain⟨g1,g2,g3,g4,ob,g5,g6⟩:=hμ c o hc
  have hs:=h6.size
  refine⟨by omega,?_,?_,g4,ob,by rw[h6.block c g1 g3];exact g5,g6⟩
  . intro hS
    rcases h6.sup c hS with k|k|k
    . exact g2 k
    . exact g3 k
    . omega
  . intro hU
    rcases h6.own c hU with k|k
    . exact g3 k
    . omega
 have hFlt:∀x,A2 F x->x<w.heap.size:=λx ⟨s,hs⟩=>(h5.ok s).lt x hs
 have hbS:¬S b:=by
  rcases hb with⟨o,ho⟩|rfl
  . exact(ZC b o ho).2.1
  . intro k;have:=h7 _ k;omega
 have Jb:¬A2 F b:=by
  rcases hb with⟨o,ho⟩|rfl
  . exact(ZC b o ho).2.2.1
  . intro k;have:=hFlt _ k;omega
 have Qg:=hx.trans h6
 have rZ:w0.heap.size≤b:=by
  rcases hb with⟨o,ho⟩|rfl
  . exact(ZC b o ho).2.2.2.1
  . exact Qg.size
 have hblt:b<w'.heap.size:=(AAz.1 oQ).1
 have hSame:∀c,S c->w'.heap[c]? =w.heap[c]? :=λc hc=>hbl c (h7 c hc) (by rintro rfl;exact hbS hc)
 have hFame:∀s x,F s x->w'.heap[x]? =w.heap[x]? :=λs x hc=>hbl x (hFlt x ⟨s,hc⟩) (by rintro rfl;exact Jb ⟨s,hc⟩)
 have Jr:St G w' S δ F:=h5.world hSame hFame (λ_ h=>h) (λs x hx=>(h5.ok s).EZ x hx)
 refine⟨w',S,A2 F,?_,?_,?_,S,δ,F,h1,h2,h3,rfl,Jr,Nx.refl _ _ _,λc hc=>ABM (h7 c hc) Po⟩
 . refine⟨xF.trans Qg.os,htp.trans Qg.tape,hou.trans Qg.output,ABO Qg.size Po,?_,Qg.sub,Qg.sup,λhl c hc=>ABM (Qg.lt hl c hc) Po,Qg.own⟩
   intro c hc hU
   rw[hbl c (ABM hc Qg.size) (by omega),Qg.block c hc hU]
 . refine⟨?_,λc hc=>⟨λ⟨s,hs⟩=>(h5.ok s).EZ c hs hc,ABM (h7 c hc) Po⟩⟩
   intro x hxm
   obtain⟨k1,arr,E,fz,k2,k3⟩:=(hG.now h6) x hxm
   exact⟨k1,arr,E,fz,by rw[hSame _ k1];exact k2,k3⟩
 . intro c o hc
   by_cases hcb:c=b
   . subst hcb
     rw[A6]at hc
     obtain rfl:=AAR hc
     exact⟨hblt,hbS,Jb,rZ,ob',oQ,his⟩
   . rw[BN _ _ hcb]at hc
     obtain⟨g1,g2,g3,g4,ob,g5,g6⟩:=ZC c o hc
     exact⟨by omega,g2,g3,g4,ob,by rw[hbl c g1 hcb];exact g5,g6⟩
theorem Rel.DA (h:Rel G n w0 S0 U0 a w σ) {o:Oper} {dst:ABp Dg} (Zr:DX G n o.dst dst=true) {D:DV} {K:Sg->Prop} (hD:∀w S,Ok w S D (λ_=>False)) (F6:∀δ,C3 δ D) (hK:CM dst D.er K σ):
 ∃σ',Rel G n w0 S0 U0 (a.put o.dst D.Aq) w σ'/\K σ':=by
 obtain⟨S,δ,Fr,hn,Dv,ha,rfl,Bs,EO,CN⟩:=h
 have hd:=EJ Zr hn
 exact Ky (S2:=S) (D:=D) (FD:=λ_=>False) (v:=D.er) (K:=K) Bs hn Dv ha hd rfl (λ_ _=>rfl) CN (λ_ h=>h) (λ_ h=>.inl h) CN (hD w S) (λ_ h=>h.elim) (F6 δ) EO rfl rfl rfl (AAy _) hK
theorem JG.DA (h:JG G n w0 S0 U0 a w σ μ) {o:Oper} {dst:ABp Dg} (Zr:DX G n o.dst dst=true) {D:DV} {K:Sg->Prop} (hD:∀w S,Ok w S D (λ_=>False)) (F6:∀δ,C3 δ D) (hK:CM dst D.er K σ):
 ∃σ',JG G n w0 S0 U0 (a.put o.dst D.Aq) w σ' μ/\K σ':=by
 obtain⟨w1,S1,U1,hx,hG,hμ,hr⟩:=h
 obtain⟨σ',h1,h2⟩:=hr.DA Zr hD F6 hK
 exact⟨σ',⟨w1,S1,U1,hx,hG,hμ,h1⟩,h2⟩
theorem JG.Eg (h:JG G n w0 S0 U0 a w σ μ) {x:Operand} {y:Ar} (hc:Bt x y=true) {v:Value} (hv:ar σ y= .sc v):a.eval x=v/\FW v=true:=by
 obtain⟨S,δ,Fr,hn,Dv,ha,rfl,Bs,EO,CN⟩:=h.AAJ
 obtain⟨hy,he⟩:=Ah hc ha
 rw[he]
 exact Bs.Eg hy hv
def LZ (es:List (ABq×Value)) (s:ABq) (z:Value):Value:=match es.find? (λx=>x.1==s)with
 |some x=>x.2
 |none=>z
def eN (es:List (ABq×Value)) (s:ABq) (v:Value):List (ABq×Value):=es++[(s,v)]
inductive eH where
 |x (o:dM)
 |mkm (d:Dg)
 |lkp (g:ABp (Nat×Bool)) (d:Dg) (m k:Ar)
 |mup (m k v:Ar)
 |rng (d:Dg) (x:Ar)
 |nxt (d:Dg) (x:Ar)
def gM (g:ABp (Nat×Bool)) (d:Dg) (A:Sg->Prop) (K:Sg->Prop) (σ:Sg):Prop:=match g with
 |none=>A σ
 |some (s,want)=>gK (σ s) want A (λσ=>K (C1 (JA d.kl d.d σ) d.d .un)) σ
theorem gM_gd {g:ABp (Nat×Bool)} {d:Dg} {A K:Sg->Prop} {σ:Sg} (h:gM g d A K σ):gdP g A (W6 (some d) K) σ:=by cases g<;>exact h
def yA (m k:AV) (μ:Mu) (d:Dg) (K:Sg->Prop) (σ:Sg):Prop:=match m,k with
 | .sc (.map (some b)),.sc (.string s)=>match μ b with
  |some (.mp es)=>FW (LZ es s (.bool false))=true/\CM (some d) (.sc (LZ es s (.bool false))) K σ
  |_=>False
 |_,_=>False
def yJ (m k v:AV) (μ:Mu) (K:Mu->Prop):Prop:=match m,k,v with
 | .sc (.map (some b)),.sc (.string s),.sc u=>match μ b with
  |some (.mp es)=>es.all (λx=> !(x.1==s))=true/\K (C1 μ b (some (.mp (eN es s u))))
  |_=>False
 |_,_,_=>False
def zC (x:AV) (d:Dg) (K:Sg->Mu->Prop) (σ:Sg) (μ:Mu):Prop:=match x with
 | .sc (.string s)=>∀b,μ b=none->CM (some d) (.sc (.pointer (some ⟨b,0,none⟩))) (λσ'=>K σ' (C1 μ b (some (.it s 0)))) σ
 |_=>False
def yQ (x:AV) (d:Dg) (K:Sg->Mu->Prop) (σ:Sg) (μ:Mu):Prop:=match x with
 | .sc (.pointer (some ⟨b,0,none⟩))=>match μ b with
  |some (.it s pos)=>if pos<s.size then CM (some d) (.BJ [.sc (.bool true),.sc (.int .i64 pos),.sc (.int .i32 (Utf8.decode s pos).1)]) (λσ'=>K σ' (C1 μ b (some (.it s (pos+(Utf8.decode s pos).2))))) σ
   else CM (some d) (.BJ [.sc (.bool false)]) (λσ'=>K σ' μ) σ
  |_=>False
 |_=>False
def Ns (P:Program) (G:Gi):List eH->(Sg->Mu->Prop)->Sg->Mu->Prop
 |[],K,σ,μ=>K σ μ
 | .x o::l,K,σ,μ=>Kx P G [o] (λσ'=>Ns P G l K σ' μ) σ
 | .mkm d::l,K,σ,μ=>∀b,μ b=none->CM (some d) (.sc (.map (some b))) (λσ'=>Ns P G l K σ' (C1 μ b (some (.mp [])))) σ
 | .lkp g d m k::l,K,σ,μ=>gM g d (λσ=>yA (ar σ m) (ar σ k) μ d (λσ'=>Ns P G l K σ' μ) σ) (λσ'=>Ns P G l K σ' μ) σ
 | .mup m k v::l,K,σ,μ=>yJ (ar σ m) (ar σ k) (ar σ v) μ (λν=>Ns P G l K σ ν)
 | .rng d x::l,K,σ,μ=>zC (ar σ x) d (Ns P G l K) σ μ
 | .nxt d x::l,K,σ,μ=>yQ (ar σ x) d (Ns P G l K) σ μ
def U3 (P:Program) (t:TypeId) (zb:Bool):Bool:=match P.underlying t with
 |some (.map kt et)=>(match P.underlying kt with|some .string=>true|_=>false)&&(!zb||(match(P.info? et).bind (·.zero)with|some (.bool false)=>true|_=>false))
 |_=>false
def fM (P:Program) (G:Gi) (n:Nat) (ops:Array Oper) (o:Oper):eH->Bool
 | .x io=>aO P G n ops o io
 | .mkm d=>o.guard.isNone&&DX G n o.dst (some d)&&(match o.op with| .makeMap _ none=>true|_=>false)
 | .lkp g d m k=>KJ n ops o.guard g&&DX G n o.dst (some d)&&(match o.op with| .lookup t m' k' false=>Bt m' m&&Bt k' k&&U3 P t true|_=>false)
 | .mup m k v=>o.guard.isNone&&DX G n o.dst none&&(match o.op with| .mapUpdate t m' k' v'=>Bt m' m&&Bt k' k&&Bt v' v&&U3 P t false|_=>false)
 | .rng d x=>o.guard.isNone&&DX G n o.dst (some d)&&(match o.op with| .range t x'=>Bt x' x&&(match P.underlying t with|some .string=>true|_=>false)|_=>false)
 | .nxt d x=>o.guard.isNone&&DX G n o.dst (some d)&&(match o.op with| .next x' true=>Bt x' x|_=>false)
end Go.Abs
namespace Go.Abs
open Go.MapKept
variable {w w':World} {S S':Nat->Prop} {G:Gi} {δ:Nat->DV} {Fr:Nat->Nat->Prop} {P:Program}
variable {n:Nat} {w0:World} {S0 U0:Nat->Prop} {a:Act} {σ:Sg} {μ:Mu}
theorem okSc (v:Value) (hp:FW v=true) (w:World) (S:Nat->Prop):Ok w S (.lf (.sc v) v) (λ_=>False):=.lf _ _ _ ⟨rfl,hp⟩ (λ_ h=>h)
theorem okTup (l:List Value) (hp:∀v∈l,FW v=true) (w:World) (S:Nat->Prop):Ok w S (.BJ (l.map λv=>.lf (.sc v) v)) (λ_=>False):=by
 refine A9.2 (B7 λD hD=> ?_)
 obtain⟨v,hv,rfl⟩:=ABZ.1 hD
 exact okSc v (hp v hv) w S
theorem alTup (l:List Value) (δ:Nat->DV):C3 δ (.BJ (l.map λv=>.lf (.sc v) v)):=by
 refine .BJ _ λi D hD=> ?_
 obtain⟨v,hv,rfl⟩:=ABZ.1 (AAb hD)
 exact .lf _ _ trivial
theorem RU {es:List (ABq×Value)} {arr:List MapEntry} (h:arr.map (λe=>(e.key,e.val))=es.map λx=>(Value.string x.1,x.2)) (s:ABq) (i:Nat):
 (es.find? (λx=>x.1==s)=none/\Instr.findNow .string (.string s) arr i=some none)∨∃x j,es.find? (λx=>x.1==s)=some x/\Instr.findNow .string (.string s) arr i=some (some (j,x.2)):=by
 induction es generalizing arr i with
 |nil=>cases arr with
  |nil=>exact .inl ⟨rfl,rfl⟩
  |cons e r=>simp at h
 |cons x es ih=>
  cases arr with
  |nil=>simp at h
  |cons e r=>
   simp only[AAg,ABg,AAc]at h
   obtain⟨⟨h1,h2⟩,h3⟩:=h
   by_cases hx:(s==x.1)=true
   . have KY:(x.1==s)=true:=by rw[bytes_beq]at hx ⊢;exact hx.symm
     exact .inr ⟨x,i,by simp[List.find?,KY],by simp[Instr.findNow,h1,Instr.sameNow,hx,h2]⟩
   . have KY:(x.1==s)=false:=by rw[← Bool.not_eq_true,bytes_beq];rw[bytes_beq]at hx;exactλe=>hx e.symm
     have Qg:(s==x.1)=false:=by simpa using hx
     rcases ih h3 (i+1)with⟨k1,k2⟩|⟨y,j,k1,k2⟩
     . exact .inl ⟨by simp[List.find?,KY,k1],by simp[Instr.findNow,h1,Instr.sameNow,Qg,k2]⟩
     . exact .inr ⟨y,j,by simp[List.find?,KY,k1],by simp[Instr.findNow,h1,Instr.sameNow,Qg,k2]⟩
theorem zE {t kt et:TypeId} {b:Nat} {arr:Array MapEntry} {c:Nat} {es:List (ABq×Value)} {i:TypeInfo} (h1:P.underlying t=some (.map kt et)) (h2:P.underlying kt=some .string) (h3:P.info? et=some i) (h4:i.zero=some (.bool false))
 (hb:w.heap[b]? =some (.map arr c)) (he:arr.toList.map (λe=>(e.key,e.val))=es.map λx=>(Value.string x.1,x.2)) (s:ABq):
 (Instr.lookup t (.map (some b)) (.string s) false).run P w= .ok (LZ es s (.bool false)) w:=by
 have Jc:∀em,(Instr.checkKey em 10000 kt (.string s)).run P w= .ok () w:=λem=>MapKept.run_checkKey h2 (k:=.string s) (by simp[IsKey]) em 9999
 rcases RU he s 0 with⟨k1,k2⟩|⟨x,j,k1,k2⟩
 . have hf:=run_findKey (w:=w) h2 k2
   simp[Instr.lookup,run_underlying h1,MapKept.run_getObj_map hb,Jc,hf,LZ,k1,zeroValue,typeInfo,h3,h4]
 . have hf:=run_findKey (w:=w) h2 k2
   simp[Instr.lookup,run_underlying h1,MapKept.run_getObj_map hb,Jc,hf,LZ,k1]
theorem run_upd {t kt et:TypeId} {b:Nat} {arr:Array MapEntry} {c:Nat} {es:List (ABq×Value)} (h1:P.underlying t=some (.map kt et)) (h2:P.underlying kt=some .string)
 (hb:w.heap[b]? =some (.map arr c)) (he:arr.toList.map (λe=>(e.key,e.val))=es.map λx=>(Value.string x.1,x.2)) (s:ABq) (v:Value) (KX:es.all (λx=> !(x.1==s))=true):
 (Instr.mapUpdate t (.map (some b)) (.string s) v).run P w= .ok () {w with heap:=w.heap.setIfInBounds b (.map (arr.push {key:=.string s,val:=v,born:=c}) (c+1))}:=by
 have Jc:(Instr.checkKey false 10000 kt (.string s)).run P w= .ok () w:=MapKept.run_checkKey h2 (k:=.string s) (by simp[IsKey]) false 9999
 rcases RU he s 0 with⟨k1,k2⟩|⟨x,j,k1,k2⟩
 . have hf:=run_findKey (w:=w) h2 k2
   simp[Instr.mapUpdate,run_underlying h1,MapKept.run_getObj_map hb,Jc,hf,MapKept.run_setObj_map _ hb]
 . have hm:=ABb k1
   have hp:=List.find?_some k1
   rw[AAU]at KX
   have:=KX x hm
   simp only[hp]at this
   cases this
end Go.Abs
namespace Go.Abs
variable {w w':World} {S S':Nat->Prop} {G:Gi} {δ:Nat->DV} {Fr:Nat->Nat->Prop} {P:Program}
variable {n:Nat} {w0:World} {S0 U0:Nat->Prop} {a:Act} {σ:Sg} {μ:Mu}
theorem JG.base (h:JG G n w0 S0 U0 a w σ μ):∃(w1:World) (S1 U1:Nat->Prop),XY w1 S1 U1/\Rel G n w1 S1 U1 a w σ/\∀a' w' σ',Rel G n w1 S1 U1 a' w' σ'->JG G n w0 S0 U0 a' w' σ' μ:=by
 obtain⟨w1,S1,U1,hx,hG,hμ,hr⟩:=h
 exact⟨w1,S1,U1,hG,hr,λa' w' σ' h'=>⟨w1,S1,U1,hx,hG,hμ,h'⟩⟩
theorem run_mkm (t:TypeId) (w:World):(Instr.makeMap t none).run P w= .ok (.map (some w.heap.size)) (w.alloc (.map #[] 0)):=rfl
theorem tA {ops:Array Oper} {K:Sg->Mu->Prop} (Q:Exit->Act->World->Prop) {k:Nat} {o:Oper} (ho:ops[k]? =some o) {x:eH} {xs:List eH}
 (h:JG G n w0 S0 U0 a w σ μ) (hc:fM P G n ops o x=true) (hr:Ns P G (x::xs) K σ μ):wpOp P ops Q k (λa' w'=>∃σ' μ',JG G n w0 S0 U0 a' w' σ' μ'/\Ns P G xs K σ' μ') a w:=by
 have M9:o.guard.isNone=true->o.wp P a w (λa' w'=>∃σ' μ',JG G n w0 S0 U0 a' w' σ' μ'/\Ns P G xs K σ' μ') Q->wpOp P ops Q k (λa' w'=>∃σ' μ',JG G n w0 S0 U0 a' w' σ' μ'/\Ns P G xs K σ' μ') a w:=by
  intro hg hwp
  unfold wpOp
  rw[ho]
  have hog:o.guard=none:=by simpa using hg
  simp only
  rw[AAY (by simp[Region.wanted,hog])]
  exact .inl hwp
 cases x with
 |x io=>
  obtain⟨w1,S1,U1,hG,Ha,OS⟩:=h.base
  refine wpOp_mono ?_ (aH hG Q ho Ha ⟨hc,trivial⟩ hr)
  rintro a' w' ⟨σ',h',hk⟩
  exact⟨σ',μ,OS _ _ _ h',hk⟩
 |mkm d=>
  simp only[fM,AAP]at hc
  obtain⟨⟨g1,g2⟩,g3⟩:=hc
  refine M9 g1 ?_
  split at g3
  . rename_i t HT
    have B8:(execOp a.eval o).run P w= .ok (.value (.map (some w.heap.size))) (w.alloc (.map #[] 0)):=by
     simp only[execOp,HT,Option.map_none,Sem.run_bind,run_mkm,Result.andThen_ok,Sem.run_pure]
    unfold Oper.wp
    rw[B8,Oper.upon_value]
    have h':=h.turn (w':=w.alloc (.map #[] 0)) (b:=w.heap.size) (o':=.mp []) (ob':=.map #[] 0) (.inr rfl) rfl rfl rfl (by show w.heap.size≤(w.heap.push _).size;rw[Array.size_push];omega) (λc hc _=>(MapKept.heap_alloc w _).2 c hc) (MapKept.heap_alloc w _).1 ⟨#[],0,rfl,rfl⟩
    obtain⟨σ',r1,r2⟩:=h'.DA (o:=o) g2 (D:=.lf (.sc (.map (some w.heap.size))) (.map (some w.heap.size))) (okSc _ rfl) (λ_=>.lf _ _ trivial) (by simpa using hr w.heap.size h.fresh)
    exact⟨σ',_,by simpa using r1,r2⟩
  . cases g3
 |lkp g d m k=>
  simp only[fM,AAP]at hc
  obtain⟨⟨g1,g2⟩,g3⟩:=hc
  obtain⟨w1,S1,U1,hG,Ha,OS⟩:=h.base
  refine OR Ha g2 g1 Q ?_ (λa' _ XK hk=>⟨_,μ,OS _ _ _ XK,hk⟩) (gM_gd hr) ho
  intro hl
  split at g3
  . rename_i t m' k' HT
    simp only[AAP]at g3
    obtain⟨⟨c1,c2⟩,c3⟩:=g3
    unfold yA at hl
    split at hl
    . rename_i b s hm hk
      split at hl
      . rename_i es hes
        obtain⟨hp,hl⟩:=hl
        obtain⟨ob,hob,arr,c,rfl,Pm⟩:=h.obj hes
        unfold U3 at c3
        split at c3
        . rename_i kt et ht
          simp only[AAP,Bool.not_true,Bool.false_or]at c3
          obtain⟨c4,c5⟩:=c3
          have V1:P.underlying kt=some .string:=by split at c4<;>first|assumption|cases c4
          obtain⟨i,hi,hz⟩:∃i,P.info? et=some i/\i.zero=some (.bool false):=by
           split at c5
           . rename_i hz
             cases hi:P.info? et with
             |none=>rw[hi]at hz;cases hz
             |some i=>rw[hi]at hz;exact⟨i,rfl,hz⟩
           . cases c5
          have B8:(execOp a.eval o).run P w= .ok (.value (LZ es s (.bool false))) w:=by
           simp only[execOp,HT,(h.Eg c1 hm).1,(h.Eg c2 hk).1,Sem.run_bind,zE ht V1 hi hz hob Pm s,Result.andThen_ok,Sem.run_pure]
          unfold Oper.wp
          rw[B8,Oper.upon_value]
          obtain⟨σ',r1,r2⟩:=h.DA (o:=o) g2 (D:=.lf (.sc (LZ es s (.bool false))) (LZ es s (.bool false))) (okSc _ hp) (λ_=>.lf _ _ trivial) (by simpa using hl)
          exact⟨σ',μ,by simpa using r1,r2⟩
        . cases c3
      . exact hl.elim
    . exact hl.elim
  . cases g3
 |mup m k v=>
  simp only[fM,AAP]at hc
  obtain⟨⟨g1,g2⟩,g3⟩:=hc
  refine M9 g1 ?_
  split at g3
  . rename_i t m' k' v' HT
    simp only[AAP]at g3
    obtain⟨⟨⟨c1,c2⟩,c2'⟩,c3⟩:=g3
    simp only[Ns]at hr
    unfold yJ at hr
    split at hr
    . rename_i b s u hm hk hu
      split at hr
      . rename_i es hes
        obtain⟨KX,hr⟩:=hr
        obtain⟨ob,hob,arr,c,rfl,Pm⟩:=h.obj hes
        unfold U3 at c3
        split at c3
        . rename_i kt et ht
          simp only[AAP]at c3
          have V1:P.underlying kt=some .string:=by have c4:=c3.1;split at c4<;>first|assumption|cases c4
          have B8:(execOp a.eval o).run P w= .ok .skip {w with heap:=w.heap.setIfInBounds b (.map (arr.push {key:=.string s,val:=u,born:=c}) (c+1))}:=by
           simp only[execOp,HT,(h.Eg c1 hm).1,(h.Eg c2 hk).1,(h.Eg c2' hu).1,Sem.run_bind,run_upd ht V1 hob Pm s u KX,Result.andThen_ok,Sem.run_pure]
          unfold Oper.wp
          rw[B8,Oper.upon_skip]
          have hd:o.dst=none:=by
           obtain⟨S,δ,Fr,hn,_⟩:=h.AAJ
           exact EJ g2 hn
          rw[hd]
          refine⟨σ,_,h.turn (b:=b) (o':=.mp (eN es s u)) (ob':=.map (arr.push {key:=.string s,val:=u,born:=c}) (c+1)) (.inl ⟨_,hes⟩) rfl rfl rfl (by simp) (λc' _ Np=>(MapKept.heap_set hob).2 c' Np) (MapKept.heap_set hob).1 ⟨_,_,rfl,?_⟩,hr⟩
          simp[eN,Pm]
        . cases c3
      . exact hr.elim
    . exact hr.elim
  . cases g3
 |rng d x=>
  simp only[fM,AAP]at hc
  obtain⟨⟨g1,g2⟩,g3⟩:=hc
  refine M9 g1 ?_
  split at g3
  . rename_i t x' HT
    simp only[AAP]at g3
    obtain⟨c1,c2⟩:=g3
    have ht:P.underlying t=some .string:=by split at c2<;>first|assumption|cases c2
    simp only[Ns]at hr
    unfold zC at hr
    split at hr
    . rename_i s hx
      have B8:(execOp a.eval o).run P w= .ok (.value (.pointer (some ⟨w.heap.size,0,none⟩))) (w.iter s 0):=by
       simp only[execOp,HT,(h.Eg c1 hx).1,Sem.run_bind,run_range_string w t s ht,Result.andThen_ok,Sem.run_pure]
      unfold Oper.wp
      rw[B8,Oper.upon_value]
      have h':=h.turn (w':=w.iter s 0) (b:=w.heap.size) (o':=.it s 0) (ob':=.stringIter s 0) (.inr rfl) rfl rfl rfl (by show w.heap.size≤(w.heap.push _).size;rw[Array.size_push];omega) (λc hc _=>(MapKept.heap_alloc w _).2 c hc) (MapKept.heap_alloc w _).1 rfl
      obtain⟨σ',r1,r2⟩:=h'.DA (o:=o) g2 (D:=.lf (.sc (.pointer (some ⟨w.heap.size,0,none⟩))) (.pointer (some ⟨w.heap.size,0,none⟩))) (okSc _ rfl) (λ_=>.lf _ _ trivial) (by simpa using hr w.heap.size h.fresh)
      exact⟨σ',_,by simpa using r1,r2⟩
    . exact hr.elim
  . cases g3
 |nxt d x=>
  simp only[fM,AAP]at hc
  obtain⟨⟨g1,g2⟩,g3⟩:=hc
  refine M9 g1 ?_
  split at g3
  . rename_i x' HT
    simp only[Ns]at hr
    unfold yQ at hr
    split at hr
    . rename_i b hx
      split at hr
      . rename_i s pos hit
        obtain⟨ob,hob,rfl⟩:=h.obj hit
        split at hr
        . rename_i D5
          have B8:(execOp a.eval o).run P w= .ok (.value (.tuple #[.bool true,.int .i64 pos,.int .i32 (Utf8.decode s pos).1])) (w.iterAt b s (pos+(Utf8.decode s pos).2)):=by
           simp only[execOp,HT,(h.Eg g3 hx).1,Sem.run_bind,Lib.run_next_any_at w b s pos o.type hob D5,Result.andThen_ok,Sem.run_pure]
          unfold Oper.wp
          rw[B8,Oper.upon_value]
          have h':=h.turn (w':=w.iterAt b s (pos+(Utf8.decode s pos).2)) (b:=b) (o':=.it s (pos+(Utf8.decode s pos).2)) (ob':=.stringIter s (pos+(Utf8.decode s pos).2)) (.inl ⟨_,hit⟩) rfl rfl rfl (by simp[World.iterAt]) (λc hc Np=>(MapKept.heap_set hob).2 c Np) (MapKept.heap_set hob).1 rfl
          obtain⟨σ',r1,r2⟩:=h'.DA (o:=o) g2 (D:=.BJ ([.bool true,.int .i64 pos,.int .i32 (Utf8.decode s pos).1].map λv=>.lf (.sc v) v)) (okTup _ (by simp[FW])) (alTup _) (by simpa using hr)
          exact⟨σ',_,by simpa using r1,r2⟩
        . rename_i D5
          have B8:(execOp a.eval o).run P w= .ok (.value (.tuple #[.bool false])) w:=by
           simp only[execOp,HT,(h.Eg g3 hx).1,Sem.run_bind,Lib.run_next_end_at w b s pos o.type hob D5,Result.andThen_ok,Sem.run_pure]
          unfold Oper.wp
          rw[B8,Oper.upon_value]
          obtain⟨σ',r1,r2⟩:=h.DA (o:=o) g2 (D:=.BJ ([.bool false].map λv=>.lf (.sc v) v)) (okTup _ (by simp[FW])) (alTup _) (by simpa using hr)
          exact⟨σ',_,by simpa using r1,r2⟩
      . exact hr.elim
    . exact hr.elim
  . cases g3
def YJ (P:Program) (G:Gi) (n:Nat) (ops:Array Oper):List Oper->List eH->Bool
 |[],[]=>true
 |o::os,x::xs=>fM P G n ops o x&&YJ P G n ops os xs
 |_,_=>false
theorem mJ {ops:Array Oper} {K:Sg->Mu->Prop} (Q:Exit->Act->World->Prop) (hQ:∀a w σ μ,JG G n w0 S0 U0 a w σ μ->K σ μ->Q .normal a w) (xs:List eH):
 ∀(k:Nat) {a:Act} {w:World} {σ:Sg} {μ:Mu},JG G n w0 S0 U0 a w σ μ->YJ P G n ops (ops.toList.drop k) xs=true->Ns P G xs K σ μ->wpOps P ops Q (List.range' k (ops.size-k)) a w:=by
 induction xs with
 |nil=>
  intro k a w σ μ h hc hr
  have hk:ops.toList.drop k=[]:=by cases hd:ops.toList.drop k with|nil=>rfl|cons o os=>rw[hd]at hc;simp[YJ]at hc
  have hlen:ops.size≤k:=by simpa using hk
  rw[show ops.size-k=0 from by omega]
  exact hQ a w σ μ h hr
 |cons x xs ih=>
  intro k a w σ μ h hc hr
  cases hd:ops.toList.drop k with
  |nil=>rw[hd]at hc;simp[YJ]at hc
  |cons o os=>
   rw[hd]at hc
   simp only[YJ,AAP]at hc
   have hk:k<ops.size:=by
    have:(ops.toList.drop k).length=os.length+1:=by rw[hd];rfl
    simp at this;omega
   have ho:ops[k]? =some o:=by
    have:(ops.toList.drop k)[0]? =some o:=by rw[hd];rfl
    simpa using this
   have xF:ops.toList.drop (k+1)=os:=by
    have:(ops.toList.drop k).drop 1=os:=by rw[hd];rfl
    rw[List.drop_drop]at this;exact this
   rw[show ops.size-k=(ops.size-(k+1))+1 from by omega,ABo,wpOps_cons]
   refine wpOp_mono ?_ (tA Q ho h hc.1 hr)
   rintro a' w' ⟨σ',μ',h',hK'⟩
   exact ih (k+1) h' (by rw[xF];exact hc.2) hK'
inductive XZ where
 |ic (c:IC)
 |Xq (xs:List eH)
 |seq (a b:XZ)
 |cond (c:Ar) (a b:XZ)
 |block (id:Nat) (a:XZ)
 |loop (a:XZ)
def HE (P:Program) (G:Gi) (n:Nat):Code->XZ->Bool
 |c,.ic c'=>GQ P G n c c'
 | .region _ ops false,.Xq xs=>YJ P G n ops ops.toList xs
 | .seq a b,.seq a' b'=>HE P G n a a'&&HE P G n b b'
 | .cond c a b,.cond c' a' b'=>Bt c c'&&HE P G n a a'&&HE P G n b b'
 | .block id a,.block id' a'=>id==id'&&HE P G n a a'
 | .loop a,.loop a'=>HE P G n a a'
 |_,_=>false
def Exit.W3 (next:Sg->Mu->Prop) (Q:Exit->Sg->Mu->Prop):Exit->Sg->Mu->Prop
 | .normal,σ,μ=>next σ μ
 |e,σ,μ=>Q e σ μ
def Exit.TC (id:Nat) (Q:Exit->Sg->Mu->Prop):Exit->Sg->Mu->Prop
 | .exit i,σ,μ=>if i=id then Q .normal σ μ else Q (.exit i) σ μ
 |e,σ,μ=>Q e σ μ
def kG (x:AV) (a b:Sg->Mu->Prop) (σ:Sg) (μ:Mu):Prop:=match x with
 | .sc (.bool x)=>if x=true then a σ μ else b σ μ
 |_=>False
def IQ (P:Program) (G:Gi):XZ->(Exit->Sg->Mu->Prop)->Sg->Mu->Prop
 | .ic c,Q,σ,μ=>HX P G c (λe σ'=>Q e σ' μ) σ
 | .Xq xs,Q,σ,μ=>Ns P G xs (Q .normal) σ μ
 | .seq a b,Q,σ,μ=>IQ P G a (Exit.W3 (IQ P G b Q) Q) σ μ
 | .cond c a b,Q,σ,μ=>kG (ar σ c) (IQ P G a Q) (IQ P G b Q) σ μ
 | .block id a,Q,σ,μ=>IQ P G a (Exit.TC id Q) σ μ
 | .loop a,Q,σ,μ=>∃I:Nat->Sg->Mu->Prop,(∃n,I n σ μ)/\∀n τ ν,I n τ ν->IQ P G a (Exit.W3 (λτ' ν'=>∃n',n'<n/\I n' τ' ν') Q) τ ν
def s8 (G:Gi) (n:Nat) (w0:World) (S0 U0:Nat->Prop) (Q:Exit->Sg->Mu->Prop) (e:Exit) (a:Act) (w:World):Prop:=∃σ μ,JG G n w0 S0 U0 a w σ μ/\Q e σ μ
theorem eX (hm:P.follows .mixedOrders=true) (c:Code):∀(ic:XZ) (Q:Exit->Sg->Mu->Prop) (a:Act) (w:World) (σ:Sg) (μ:Mu),HE P G n c ic=true->JG G n w0 S0 U0 a w σ μ->IQ P G ic Q σ μ->c.wp P (s8 G n w0 S0 U0 Q) a w:=by
 have plain:∀(c:Code) (ic:IC) (Q:Exit->Sg->Mu->Prop) (a:Act) (w:World) (σ:Sg) (μ:Mu),GQ P G n c ic=true->JG G n w0 S0 U0 a w σ μ->HX P G ic (λe σ'=>Q e σ' μ) σ->c.wp P (s8 G n w0 S0 U0 Q) a w:=by
  intro c ic Q a w σ μ hc h hw
  obtain⟨w1,S1,U1,hG,Ha,OS⟩:=h.base
  refine wp_mono (YG hG hm (m:=0) (a0:=a) c ic _ a w σ hc (OO c) (Pg.refl _ _) Ha hw) ?_
  rintro e a' w' ⟨⟨σ',h',hq⟩,_⟩
  exact⟨σ',μ,OS _ _ _ h',hq⟩
 induction c with
 |region id ops d=>
  intro ic Q a w σ μ hc h hw
  cases ic with
  |ic c'=>exact plain _ c' Q a w σ μ (by simpa[HE]using hc) h hw
  |Xq xs=>
   cases d with
   |true=>simp[HE]at hc
   |false=>
    simp only[HE]at hc
    refine wp_region ?_
    have:=mJ (P:=P) (G:=G) (ops:=ops) (K:=Q .normal) (s8 G n w0 S0 U0 Q) (λa w σ μ h hk=>⟨σ,μ,h,hk⟩) xs 0 h (by simpa using hc) hw
    rw[List.range_eq_range']
    simpa using this
  |_=>simp[HE]at hc
 |seq x y ZH ihy=>
  intro ic Q a w σ μ hc h hw
  cases ic with
  |ic c'=>exact plain _ c' Q a w σ μ (by simpa[HE]using hc) h hw
  |seq x' y'=>
   simp only[HE,AAP]at hc
   refine wp_seq (wp_mono (ZH x' _ a w σ μ hc.1 h hw) ?_)
   rintro e a' w' ⟨σ',μ',h',hq⟩
   cases e with
   |normal=>exact ihy y' Q a' w' σ' μ' hc.2 h' hq
   |_=>exact⟨σ',μ',h',hq⟩
  |_=>simp[HE]at hc
 |cond c x y ZH ihy=>
  intro ic Q a w σ μ hc h hw
  cases ic with
  |ic c'=>exact plain _ c' Q a w σ μ (by simpa[HE]using hc) h hw
  |cond c' x' y'=>
   simp only[HE,AAP]at hc
   obtain⟨⟨h1,h2⟩,h3⟩:=hc
   simp only[IQ]at hw
   unfold kG at hw
   split at hw
   . rename_i b hb
     have Ku:a.eval c= .bool b:=(h.Eg h1 hb).1
     split at hw
     . rename_i hbt
       subst hbt
       exact wp_cond_true Ku (ZH x' Q a w σ μ h2 h hw)
     . rename_i hbf
       obtain rfl:b=false:=by simpa using hbf
       exact wp_cond_false Ku (ihy y' Q a w σ μ h3 h hw)
   . exact hw.elim
  |_=>simp[HE]at hc
 |block id x ZH=>
  intro ic Q a w σ μ hc h hw
  cases ic with
  |ic c'=>exact plain _ c' Q a w σ μ (by simpa[HE]using hc) h hw
  |block id' x'=>
   simp only[HE,AAP,AAd]at hc
   obtain⟨rfl,h2⟩:=hc
   refine wp_block (wp_mono (ZH x' _ a w σ μ h2 h hw) ?_)
   rintro e a' w' ⟨σ',μ',h',hq⟩
   cases e with
   |exit i=>
    simp only[Exit.inBlock]
    simp only[Exit.TC]at hq
    split
    . rename_i hi;rw[AAY hi]at hq;exact⟨σ',μ',h',hq⟩
    . rename_i hi;rw[AAX hi]at hq;exact⟨σ',μ',h',hq⟩
   |_=>exact⟨σ',μ',h',hq⟩
  |_=>simp[HE]at hc
 |loop x ZH=>
  intro ic Q a w σ μ hc h hw
  cases ic with
  |ic c'=>exact plain _ c' Q a w σ μ (by simpa[HE]using hc) h hw
  |loop x'=>
   simp only[HE]at hc
   obtain⟨I,⟨n0,h0⟩,gQ⟩:=hw
   refine wp_loop_ghost (λk a w=>∃σ μ,JG G n w0 S0 U0 a w σ μ/\I k σ μ) n0 ⟨σ,μ,h,h0⟩ ?_
   rintro k a' w' ⟨τ,ν,h',hI⟩
   refine wp_mono (ZH x' _ a' w' τ ν hc h' (gQ k τ ν hI)) ?_
   rintro e a2 w2 ⟨σ2,μ2,h2,hq⟩
   cases e with
   |normal=>
    obtain⟨k',hk,hI'⟩:=hq
    exact⟨k',hk,σ2,μ2,h2,hI'⟩
   |_=>exact⟨σ2,μ2,h2,hq⟩
  |_=>simp[HE]at hc
 |_=>
  intro ic Q a w σ μ hc h hw
  cases ic with
  |ic c'=>exact plain _ c' Q a w σ μ (by simpa[HE]using hc) h hw
  |_=>simp[HE]at hc
structure FIM where
 c:XZ
 g:Gi
 r:List RV
def kB (P:Program) (fn:Func) (I:FIM):Bool:=
 (match fn.body with
 |some c=>HE P I.g fn.ntmps c I.c
 |none=>false)&&OM P fn.results.toList I.r&&I.g.rt.all (λx=> !x.2.contains x.1)
theorem cV {f:Nat} {fn:Func} {I:FIM} {args:List AV} {res:AV} (hm:P.follows .mixedOrders=true) (hf:P.funcs[f]? =some fn) (hc:kB P fn I=true) (hn:args.length≤fn.ntmps) (FK:args.all Il=true)
 (h:IQ P I.g I.c (λe σ _=>Ends I.g I.r res e σ) (start args) (λ_=>none)):Says P f args res:=by
 intro w S ds F MX Jd CH hS
 subst Jd
 simp only[kB,AAP]at hc
 obtain⟨⟨X6,ML⟩,hc3⟩:=hc
 split at X6
 . rename_i c hb
   obtain⟨Fs,hr,hd,BP,hF⟩:sU w S ds F:=by cases CH with|BJ _ Fs _ hr hd BP hF=>exact⟨Fs,hr,hd,BP,hF⟩
   have Vv:∀(i:Nat) d,ds[i]? =some d->Il d.er=true:=λi d hi=>by
    simp only[AAU]at FK
    exact FK _ (ABP (AAb hi))
   refine calls_of_wp hf hb ?_
   let δ:Nat->DV:=λs=>ds.getD s (.lf .un undef)
   have hδ:∀s,(∃d,ds[s]? =some d/\δ s=d)∨(ds[s]? =none/\δ s= .lf .un undef):=by
    intro s
    cases hs:ds[s]? with
    |some d=>exact .inl ⟨d,rfl,by simp[δ,hs]⟩
    |none=>exact .inr ⟨rfl,by simp[δ,hs]⟩
   have Bs:St I.g w S δ Fs:=by
    refine⟨λs=> ?_,λs t x=>hd s t x,λs=> ?_,λs=> ?_,lU hc3⟩
    . rcases hδ s with⟨d,hs,e⟩|⟨hs,e⟩
      . rw[e];exact hr s d hs
      . rw[e]
        exact .lf _ _ _ rfl λx hx=>by obtain⟨d,hd⟩:=BP s x hx;rw[hs]at hd;cases hd
    . rcases hδ s with⟨d,hs,e⟩|⟨hs,e⟩
      . rw[e];exact aC (hr s d hs).KQ (Vv s d hs)
      . rw[e];exact .lf _ _ trivial
    . rcases hδ s with⟨d,hs,e⟩|⟨hs,e⟩
      . rw[e];exact YD (Vv s d hs)
      . rw[e];simp
   have hσ:(λs=>(δ s).er)=start (ds.map DV.er):=by
    funext s
    unfold start
    rcases hδ s with⟨d,hs,e⟩|⟨hs,e⟩
    . simp[e,hs]
    . simp[e,hs]
   have oP:ds.length≤fn.ntmps:=by simpa using hn
   have Ha:Rel I.g fn.ntmps w S F {tmps:=(ds.map DV.Aq).toArray++Array.replicate (fn.ntmps-(ds.map DV.Aq).toArray.size) undef,defers:=[]} w (start (ds.map DV.er)):=by
    refine⟨S,δ,Fs,by simp;omega,rfl,λs=>Vr ds fn.ntmps s,hσ,Bs,Nx.less λx ⟨s,hx⟩=>(hF x).2 ⟨s,hx⟩,hS⟩
   have hrelM:=JG.start ⟨MX,λb hb=>⟨λhf=>CH.EZ b hf hb,hS b hb⟩⟩ Ha
   refine wp_mono (eX hm c I.c _ _ w _ _ X6 hrelM h) ?_
   rintro e a' w1 ⟨σ,μ,hrM,hq⟩
   obtain⟨S1,δ1,F1,hn1,Dv,QB,rfl,Ed,EO,D5⟩:=hrM.AAJ
   have hex:=jU hq
   obtain⟨_,vs,τ,XL,Rl⟩:=hq
   obtain⟨Ds,FD,g1,g2,g3,g4,_⟩:=Is fn.results.toList Ed QB ML XL
   have hO:JF w1 S1 (ds.map λd=>DV.lf .dead d.Aq) (λ_=>False):=by
    refine B7 λd hd=> ?_
    obtain⟨x,_,rfl⟩:=ABZ.1 hd
    exact .lf _ _ _ trivial (λ_ h=>h)
   have fin:∃v,(results fn a'.tmps).run P w1= .ok v w1/\∃(r:DV) (os:List DV) (S' F':Nat->Prop),Ending.returned v= .returned r.Aq/\r.er=res/\os.map DV.er=((ds.map DV.er).map λ_=>AV.dead)/\os.map DV.Aq=ds.map DV.Aq/\
    Ok w1 S' (.BJ (r::os)) F'/\Ext w w1 F/\(∀b,S b->S' b)/\(∀b,S' b->S b∨F b∨w.heap.size≤b)/\(∀b,S' b->b<w1.heap.size)/\(∀x,F' x->F x∨w.heap.size≤x):=
    ⟨_,Sm g2,N4 Ds,ds.map λd=>DV.lf .dead d.Aq,S1,FD,rfl,by rw[SB,g1,Rl],by simp,by simp,A9.2 ⟨FD,λ_=>False,NC g3,hO,λ_ _ h=>h,λx=>by simp⟩,⟨EO.os,EO.tape,EO.output,EO.size,EO.block⟩,EO.sub,EO.sup,D5,λx hx=>EO.own x (g4 x hx)⟩
   obtain⟨v,hv,hR⟩:=fin
   rcases hex with rfl|rfl
   . exact⟨Dv,v,hv,hR⟩
   . exact⟨Dv,v,hv,hR⟩
 . cases X6
end Go.Abs
namespace Go.Abs
variable {P:Program} {G:Gi}
theorem awpM_ic (c:IC) (Q:Exit->Sg->Mu->Prop) (σ:Sg) (μ:Mu):IQ P G (.ic c) Q σ μ=HX P G c (λe σ'=>Q e σ' μ) σ:=(rfl)
theorem mZ (xs:List eH) (Q:Exit->Sg->Mu->Prop) (σ:Sg) (μ:Mu):IQ P G (.Xq xs) Q σ μ=Ns P G xs (Q .normal) σ μ:=(rfl)
theorem aE (a b:XZ) (Q:Exit->Sg->Mu->Prop) (σ:Sg) (μ:Mu):IQ P G (.seq a b) Q σ μ=IQ P G a (Exit.W3 (IQ P G b Q) Q) σ μ:=(rfl)
theorem Vc (c:Ar) (a b:XZ) (Q:Exit->Sg->Mu->Prop) (σ:Sg) (μ:Mu):IQ P G (.cond c a b) Q σ μ=kG (ar σ c) (IQ P G a Q) (IQ P G b Q) σ μ:=(rfl)
theorem eV (id:Nat) (a:XZ) (Q:Exit->Sg->Mu->Prop) (σ:Sg) (μ:Mu):IQ P G (.block id a) Q σ μ=IQ P G a (Exit.TC id Q) σ μ:=(rfl)
theorem cY (next:Sg->Mu->Prop) (Q:Exit->Sg->Mu->Prop) (σ:Sg) (μ:Mu):Exit.W3 next Q .normal σ μ=next σ μ:=(rfl)
theorem qM (next:Sg->Mu->Prop) (Q:Exit->Sg->Mu->Prop) (id:Nat) (σ:Sg) (μ:Mu):Exit.W3 next Q (.exit id) σ μ=Q (.exit id) σ μ:=(rfl)
theorem zL (next:Sg->Mu->Prop) (Q:Exit->Sg->Mu->Prop) (σ:Sg) (μ:Mu):Exit.W3 next Q .ret σ μ=Q .ret σ μ:=(rfl)
theorem Xc (id:Nat) (Q:Exit->Sg->Mu->Prop) (σ:Sg) (μ:Mu):Exit.TC id Q .normal σ μ=Q .normal σ μ:=(rfl)
theorem Tp (id i:Nat) (Q:Exit->Sg->Mu->Prop) (σ:Sg) (μ:Mu):Exit.TC id Q (.exit i) σ μ=if i=id then Q .normal σ μ else Q (.exit i) σ μ:=(rfl)
theorem eZ (id:Nat) (Q:Exit->Sg->Mu->Prop) (σ:Sg) (μ:Mu):Exit.TC id Q .ret σ μ=Q .ret σ μ:=(rfl)
theorem ams_nil (K:Sg->Mu->Prop) (σ:Sg) (μ:Mu):Ns P G [] K σ μ=K σ μ:=(rfl)
theorem ams_x (o:dM) (l:List eH) (K:Sg->Mu->Prop) (σ:Sg) (μ:Mu):Ns P G (.x o::l) K σ μ=Kx P G [o] (λσ'=>Ns P G l K σ' μ) σ:=(rfl)
theorem ams_mkm (d:Dg) (l:List eH) (K:Sg->Mu->Prop) (σ:Sg) (μ:Mu):Ns P G (.mkm d::l) K σ μ=∀b,μ b=none->CM (some d) (.sc (.map (some b))) (λσ'=>Ns P G l K σ' (C1 μ b (some (.mp [])))) σ:=(rfl)
theorem ams_lkp (g:ABp (Nat×Bool)) (d:Dg) (m k:Ar) (l:List eH) (K:Sg->Mu->Prop) (σ:Sg) (μ:Mu):Ns P G (.lkp g d m k::l) K σ μ=gM g d (λσ=>yA (ar σ m) (ar σ k) μ d (λσ'=>Ns P G l K σ' μ) σ) (λσ'=>Ns P G l K σ' μ) σ:=(rfl)
theorem ams_mup (m k v:Ar) (l:List eH) (K:Sg->Mu->Prop) (σ:Sg) (μ:Mu):Ns P G (.mup m k v::l) K σ μ=yJ (ar σ m) (ar σ k) (ar σ v) μ (λν=>Ns P G l K σ ν):=(rfl)
theorem ams_rng (d:Dg) (x:Ar) (l:List eH) (K:Sg->Mu->Prop) (σ:Sg) (μ:Mu):Ns P G (.rng d x::l) K σ μ=zC (ar σ x) d (Ns P G l K) σ μ:=(rfl)
theorem ams_nxt (d:Dg) (x:Ar) (l:List eH) (K:Sg->Mu->Prop) (σ:Sg) (μ:Mu):Ns P G (.nxt d x::l) K σ μ=yQ (ar σ x) d (Ns P G l K) σ μ:=(rfl)
theorem gM_some (s:Nat) (want:Bool) (d:Dg) (A K:Sg->Prop) (σ:Sg):gM (some (s,want)) d A K σ=gK (σ s) want A (λσ=>K (C1 (JA d.kl d.d σ) d.d .un)) σ:=(rfl)
def lkpV (x:ABp MO) (s:ABq) (d:Dg) (K:Sg->Prop) (σ:Sg):Prop:=match x with
 |some (.mp es)=>FW (LZ es s (.bool false))=true/\CM (some d) (.sc (LZ es s (.bool false))) K σ
 |_=>False
theorem lkpK_at (b:Nat) (s:ABq) (μ:Mu) (d:Dg) (K:Sg->Prop) (σ:Sg):yA (.sc (.map (some b))) (.sc (.string s)) μ d K σ=lkpV (μ b) s d K σ:=(rfl)
theorem lkpV_mp (es:List (ABq×Value)) (s:ABq) (d:Dg) (K:Sg->Prop) (σ:Sg):lkpV (some (.mp es)) s d K σ=(FW (LZ es s (.bool false))=true/\CM (some d) (.sc (LZ es s (.bool false))) K σ):=(rfl)
def mupV (x:ABp MO) (b:Nat) (s:ABq) (u:Value) (μ:Mu) (K:Mu->Prop):Prop:=match x with
 |some (.mp es)=>es.all (λx=> !(x.1==s))=true/\K (C1 μ b (some (.mp (eN es s u))))
 |_=>False
theorem mupK_at (b:Nat) (s:ABq) (u:Value) (μ:Mu) (K:Mu->Prop):yJ (.sc (.map (some b))) (.sc (.string s)) (.sc u) μ K=mupV (μ b) b s u μ K:=(rfl)
theorem mupV_mp (es:List (ABq×Value)) (b:Nat) (s:ABq) (u:Value) (μ:Mu) (K:Mu->Prop):mupV (some (.mp es)) b s u μ K=(es.all (λx=> !(x.1==s))=true/\K (C1 μ b (some (.mp (eN es s u))))):=(rfl)
theorem rngK_s (s:ABq) (d:Dg) (K:Sg->Mu->Prop) (σ:Sg) (μ:Mu):zC (.sc (.string s)) d K σ μ=∀b,μ b=none->CM (some d) (.sc (.pointer (some ⟨b,0,none⟩))) (λσ'=>K σ' (C1 μ b (some (.it s 0)))) σ:=(rfl)
def yR (x:ABp MO) (b:Nat) (d:Dg) (K:Sg->Mu->Prop) (σ:Sg) (μ:Mu):Prop:=match x with
 |some (.it s pos)=>if pos<s.size then CM (some d) (.BJ [.sc (.bool true),.sc (.int .i64 pos),.sc (.int .i32 (Utf8.decode s pos).1)]) (λσ'=>K σ' (C1 μ b (some (.it s (pos+(Utf8.decode s pos).2))))) σ
  else CM (some d) (.BJ [.sc (.bool false)]) (λσ'=>K σ' μ) σ
 |_=>False
theorem nxtK_at (b:Nat) (d:Dg) (K:Sg->Mu->Prop) (σ:Sg) (μ:Mu):yQ (.sc (.pointer (some ⟨b,0,none⟩))) d K σ μ=yR (μ b) b d K σ μ:=(rfl)
theorem Gc {s:ABq} {pos:Nat} (b:Nat) (d:Dg) (K:Sg->Mu->Prop) (σ:Sg) (μ:Mu) (h:pos<s.size):yR (some (.it s pos)) b d K σ μ=CM (some d) (.BJ [.sc (.bool true),.sc (.int .i64 pos),.sc (.int .i32 (Utf8.decode s pos).1)]) (λσ'=>K σ' (C1 μ b (some (.it s (pos+(Utf8.decode s pos).2))))) σ:=by simp[yR,h]
theorem FL {s:ABq} {pos:Nat} (b:Nat) (d:Dg) (K:Sg->Mu->Prop) (σ:Sg) (μ:Mu) (h:¬pos<s.size):yR (some (.it s pos)) b d K σ μ=CM (some d) (.BJ [.sc (.bool false)]) (λσ'=>K σ' μ) σ:=by simp[yR,h]
theorem mX {a:XZ} {Q:Exit->Sg->Mu->Prop} {σ:Sg} {μ:Mu} (I:Nat->Sg->Mu->Prop) (n:Nat) (h:I n σ μ)
 (round:∀n τ ν,I n τ ν->IQ P G a (Exit.W3 (λτ' ν'=>∃n',n'<n/\I n' τ' ν') Q) τ ν):IQ P G (.loop a) Q σ μ:=⟨I,⟨n,h⟩,round⟩
attribute [go_sem] awpM_ic mZ aE Vc eV cY qM zL Xc Tp eZ ams_nil ams_x ams_mkm ams_lkp ams_mup ams_rng ams_nxt gM_some lkpK_at lkpV_mp mupK_at mupV_mp rngK_s nxtK_at
end Go.Abs
namespace Go.Abs
open Go.Proofs Go.Sort Go.RowKit
variable {P:Program}
theorem Y5 {f g:Nat} {q:Int->Int->Bool}
 (hdel:∀(lb:Array Value) (p:Int->Bool) (LO off cap:Nat) (d:Array Int) (w:World),PredAt P g lb (Value.int .i64) p w->PredOver P g lb (Value.int .i64) p LO off d.size w->Holds (Value.int .i64) w LO off d->d.size≤9223372036854775807->d.size≤cap->
  Calls P f #[.slice (some ⟨LO,off,none⟩) d.size cap,.func (.func g) #[] lb] w λe w'=>e= .returned (.slice (some ⟨LO,off,none⟩) (d.toList.filter λx=> !p x).length cap)/\∃q,w'=putRow (Value.int .i64) (Sort.ahead w q) LO off ((d.toList.filter λx=> !p x)++List.replicate (d.size-(d.toList.filter λx=> !p x).length) (0:Int)).toArray)
 (hclo:∀(b off:Nat) (n x:Int) (W:World),W.cell? ⟨b,off,none⟩=some (.int .i64 n)->FnGives P g #[.pointer (some ⟨b,off,none⟩)] #[.int .i64 x] (.bool (q n x)) W)
 (zs:List Int) (n:Int) (Np:zs≠[]) (hl:zs.length<4611686018427387904):Says P f [.own false 1 (ints zs),.fZ g [[si n]]] (.own false 1 (ints (zs.filter λx=> !q n x))):=by
 intro w S ds F _ Jd CH hS
 obtain⟨d,e,rfl⟩:∃d e,ds=[d,e]:=by
  have hlen:ds.length=2:=by simpa using congrArg List.length Jd
  clear Jd CH
  match ds,hlen with
  |[d,e],_=>exact⟨d,e,rfl⟩
 simp only[AAg,AA2,ABg,and_true]at Jd
 obtain⟨hd,he⟩:=Jd
 obtain⟨F1,F2,h1,⟨F3,F4,h3,h4,_,h6⟩,CS,h5⟩:=A9.1 CH
 obtain⟨v,rfl⟩:∃v,e= .lf (.fZ g [[si n]]) v:=by
  cases e with
  |lf a v=>rw[Ea]at he;exact⟨v,by rw[he]⟩
  |own=>simp at he
  |agg=>simp at he
  |BJ=>simp at he
 cases h3 with
 |lf _ _ _ Zt hF3=>
 obtain⟨vs,rfl,hvl,hfp⟩:=Zt
 obtain⟨u,rfl⟩:∃u,vs=[u]:=by
  match vs,hvl with
  |[u],_=>exact⟨u,rfl⟩
 obtain⟨b',bZ,rfl,hSb',BR⟩:=hfp 0 [si n] u rfl rfl
 obtain⟨u',xL,Mk⟩:=BR 0 (si n) rfl
 cases Mk
 have dK:=hS b' hSb'
 rcases WU h1 hd with⟨ha,rfl,KX⟩|⟨b,c,arr,E,ha,hb,hc,RE,Ko,hz,QA⟩
 . exact absurd rfl Np
 . have hbne:b'≠b:=λe=>Ko (e▸hSb')
   have hF:∀x,F x↔F1 x:=λx=>by
    rw[h5 x]
    refine⟨λh=>h.elim id λh=> ?_,.inl⟩
    rcases(h6 x).1 h with h|h
    . exact absurd h (hF3 x)
    . exact absurd h (h4 x)
   simp only[AAg,AA2,ha,KZ]
   have hp:PredAt P g #[.pointer (some ⟨b',bZ,none⟩)] (Value.int .i64) (q n) w:=λW x hB=>hclo b' bZ n x W (by rw[hB.cell (p:=⟨b',bZ,none⟩) dK];exact xL)
   have hpo:PredOver P g #[.pointer (some ⟨b',bZ,none⟩)] (Value.int .i64) (q n) b 0 zs.toArray.size w:=λm os dk x hdk=>hclo b' bZ n x _ (by
    rw[World.cell?_of_block (w:=w) (a:=⟨b',bZ,none⟩) (by
     show(sortWorld _ w b 0 m dk os).heap[b']? =w.heap[b']?
     unfold sortWorld
     rw[heap_grow_old _ _ (by simpa[putRow,mapBlock,Sort.ahead]using dK)]
     simp[putRow,mapBlock,Sort.ahead,ABX,Ne.symm hbne])]
    exact xL)
   refine(hdel #[.pointer (some ⟨b',bZ,none⟩)] (q n) b 0 c zs.toArray w hp hpo (Qf hb hz) (by simpa using by omega) (by simpa using RE)).mono ?_
   rintro e w' ⟨rfl,m,rfl⟩
   simp only[ABi]at*
   have hle:(zs.filter λx=> !q n x).length≤zs.length:=List.length_filter_le ..
   have GX:((zs.filter λx=> !q n x)++List.replicate (zs.length-(zs.filter λx=> !q n x).length) (0:Int)).length=zs.length:=by simp;omega
   have hh:=Vx (n:=m) (os:= #[]) ((zs.filter λx=> !q n x)++List.replicate (zs.length-(zs.filter λx=> !q n x).length) 0).toArray hb
   have hx:=ZA (w:=w) (n:=m) (os:= #[]) (g:=b) (F:=F) ((zs.filter λx=> !q n x)++List.replicate (zs.length-(zs.filter λx=> !q n x).length) 0).toArray ((hF b).2 ((QA b).2 rfl))
   rw[grow_empty]at hh hx
   obtain⟨d',k1,k2,k3⟩:=ZM (S:=S) (c:=c) (zs:=zs.filter λx=> !q n x) hh (by simp[putCells,hc]) (by omega) Ko (λi z hi=>iJ ((zs.filter λx=> !q n x)++List.replicate (zs.length-(zs.filter λx=> !q n x).length) 0) (by rw[GX];omega) i z (by
    rw[AAr (AAQ.1 hi).1];exact hi))
   refine⟨d',[.lf .dead d.Aq,.lf .dead (.func (.func g) #[] #[.pointer (some ⟨b',bZ,none⟩)])],S,λx=>x=b,by rw[k2],k1,by simp,by simp[ha],?_,hx,λ_ h=>h,λ_ h=>.inl h,λx hx=> ?_,λx hx=>.inl ((hF x).2 ((QA x).2 hx))⟩
   . refine A9.2 ⟨_,λ_=>False,k3,B7 λy hy=> ?_,λ_ _ h=>h,λx=>by simp⟩
     simp only[AAp,ABn,ABd]at hy
     rcases hy with rfl|rfl<;>exact .lf _ _ _ trivial (λ_ h=>h)
   . have:=hS x hx;simpa[putRow,mapBlock,Sort.ahead]using this
end Go.Abs
