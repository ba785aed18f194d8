/- A calculus of abstract states of Go memory, and that it is sound. -/
import Derived.Test.YtkpdblcoclbgbaaGreatDoorCoreB
import Derived.Laws.Sem
import Derived.Sort.Grow
import Derived.Lib.SlicesCompact
import Derived.IntWalk
import Derived.MapKept
import Derived.Lib.OthersKept
import Derived.Shelf.GgClosure.Gives
import Derived.Shelf.Slices.SearchI
set_option linter.unusedSimpArgs false
set_option linter.unusedVariables false
namespace Go.Abs
variable {G:Gi} {P:Program} {w:World}
def Zy (l:List Nat):Nat:=l.foldr (λs m=>m |||2^s) 0
theorem Xv {l:List Nat} {s:Nat} (h:s∈l):(Zy l).testBit s=true:=by
 induction l with
 |nil=>cases h
 |cons a l ih=>
  simp only[Zy,List.foldr_cons,Nat.testBit_or,Bool.or_eq_true]
  simp only[List.mem_cons]at h
  rcases h with rfl|h
  . exact .inr (by simp)
  . exact .inl (ih h)
theorem TG {a b:List Nat} (h:Zy a &&& Zy b=0) {s:Nat} (ha:s∈a) (hb:s∈b):False:=by
 have:(Zy a &&& Zy b).testBit s=true:=by rw[Nat.testBit_and,Xv ha,Xv hb];rfl
 rw[h]at this
 simp at this
def vB (M:List Nat) (o:Oper):Nat:=o.after.toList.foldr (λe s=>if Region.binds .any e=true then s |||2^e.on |||M.getD e.on 0 else s) 0
theorem iM {M:List Nat} {o:Oper} {i:Nat} (h:(vB M o).testBit i=true):∃e∈o.after.toList,Region.binds .any e=true/\(e.on=i∨(M.getD e.on 0).testBit i=true):=by
 unfold vB at h
 generalize o.after.toList=l at h
 induction l with
 |nil=>simp at h
 |cons e l ih=>
  simp only[List.foldr_cons]at h
  split at h
  . rename_i hb
    simp only[Nat.testBit_or,Bool.or_eq_true]at h
    rcases h with(h|h)|h
    . obtain⟨e',h1,h2⟩:=ih h;exact⟨e',by simp[h1],h2⟩
    . exact⟨e,by simp,hb,.inl (by simpa[Nat.testBit_two_pow]using h)⟩
    . exact⟨e,by simp,hb,.inr h⟩
  . obtain⟨e',h1,h2⟩:=ih h;exact⟨e',by simp[h1],h2⟩
def PH:List Oper->List Nat->List Nat
 |[],M=>M
 |o::os,M=>PH os (M++[vB M o])
def NA (M Ws Rs:List Nat) (j:Nat):Nat->Bool
 |0=>true
 |i+1=>((Ws.getD i 0 &&& Rs.getD j 0==0&&Rs.getD i 0 &&& Ws.getD j 0==0)||(M.getD j 0).testBit i)&&NA M Ws Rs j i
theorem Rx {M Ws Rs:List Nat} {j n:Nat} (h:NA M Ws Rs j n=true):∀i,i<n->(Ws.getD i 0 &&& Rs.getD j 0=0/\Rs.getD i 0 &&& Ws.getD j 0=0)∨(M.getD j 0).testBit i=true:=by
 induction n with
 |zero=>intro i hi;omega
 |succ n ih=>
  simp only[NA,Bool.and_eq_true,Bool.or_eq_true,beq_iff_eq]at h
  intro i hi
  by_cases e:i=n
  . subst e;exact h.1
  . exact ih h.2 i (by omega)
def Px (M Ws Rs:List Nat):Nat->List Oper->Bool
 |_,[]=>true
 |j,o::os=>M.getD j 0==vB M o&&(o.after.toList.all λe=> !Region.binds .any e||decide (e.on<j))&&NA M Ws Rs j j&&Px M Ws Rs (j+1) os
theorem T1 {M Ws Rs:List Nat} (os:List Oper):∀{j0:Nat},Px M Ws Rs j0 os=true->∀i o,os[i]? =some o->M.getD (j0+i) 0=vB M o/\(∀e∈o.after.toList,Region.binds .any e=true->e.on<j0+i)/\∀x,x<j0+i->(Ws.getD x 0 &&& Rs.getD (j0+i) 0=0/\Rs.getD x 0 &&& Ws.getD (j0+i) 0=0)∨(M.getD (j0+i) 0).testBit x=true:=by
 induction os with
 |nil=>intro j0 _ i o h;simp at h
 |cons o os ih=>
  intro j0 h i o' ho
  simp only[Px,Bool.and_eq_true,beq_iff_eq,List.all_eq_true,Bool.or_eq_true,Bool.not_eq_true',decide_eq_true_eq]at h
  obtain⟨⟨⟨h1,h2⟩,h3⟩,h4⟩:=h
  cases i with
  |zero=>
   simp only[List.getElem?_cons_zero,Option.some.injEq]at ho
   subst ho
   refine⟨h1,λe he hb=>(h2 e he).resolve_left (by simp[hb]),Rx h3⟩
  |succ i=>
   simp only[List.getElem?_cons_succ]at ho
   have:=ih h4 i o' ho
   rw[show j0+1+i=j0+(i+1)from by omega]at this
   exact this
def wOf (G:Gi) (ios:List A7) (j:Nat):List Nat:=match ios[j]? with|some o=>Mr G o|none=>[]
theorem Yi {n:Nat} {all:Array Oper} (os:List Oper):∀{ios:List A7},IG P G n all os ios=true->os.length=ios.length/\∀(i:Nat) o io,os[i]? =some o->ios[i]? =some io->Eo P G n all o io=true:=by
 induction os with
 |nil=>intro ios h;cases ios<;>simp[IG]at h ⊢
 |cons o os ih=>
  intro ios h
  cases ios with
  |nil=>simp[IG]at h
  |cons io ios=>
   simp only[IG,Bool.and_eq_true]at h
   obtain⟨g1,g2⟩:=ih h.2
   refine⟨by simp[g1],?_⟩
   intro i o' io' h1 h2
   cases i with
   |zero=>simp only[List.getElem?_cons_zero,Option.some.injEq]at h1 h2;subst h1;subst h2;exact h.1
   |succ i=>exact g2 i o' io' h1 h2
theorem Yk {p p':Nat->Bool} (h:∀j,p' j=true->p j=true) {i:Nat} (h1:p i=true) (h2:p' i=false):∀N,i<N->(List.range N).countP p'<(List.range N).countP p:=by
 have le:∀N,(List.range N).countP p'≤(List.range N).countP p:=λN=>List.countP_mono_left (λj _=>h j)
 intro N
 induction N with
 |zero=>intro h;omega
 |succ N ih=>
  intro hi
  rw[List.range_succ,List.countP_append,List.countP_append]
  by_cases e:i=N
  . subst e
    have:=le i
    simp[h1,h2]
    omega
  . have h3:=ih (by omega)
    have:(List.countP p' [N])≤List.countP p [N]:=List.countP_mono_left (λj _=>h j)
    omega
theorem QR {n:Nat} {all:Array Oper} {o:Oper} {io:A7} (h:Eo P G n all o io=true):∀d,io.dst=some d->d.rs=G.Ee d.d:=by
 intro d hd
 simp only[Eo,Bool.and_eq_true]at h
 have h1:=h.1.1
 rw[hd]at h1
 cases ho:o.dst with
 |none=>rw[ho]at h1;simp[C6]at h1
 |some t=>rw[ho]at h1;simp only[C6,Bool.and_eq_true,beq_iff_eq]at h1;exact h1.1.2
mutual
def JV:AV->AV
 | .sc _=>.un
 | .own b k rows=>.own b k (Zh rows)
 | .agg cs=>.agg (XH cs)
 | .A9 cs=>.A9 (XH cs)
 |a=>a
def XH:List AV->List AV
 |[]=>[]
 |a::r=>JV a::XH r
def Zh:List (List AV)->List (List AV)
 |[]=>[]
 |a::r=>XH a::Zh r
end
theorem XI (l:List AV):XH l=l.map JV:=by
 induction l with
 |nil=>rfl
 |cons a r ih=>simp[XH,ih]
theorem UG (l:List (List AV)):Zh l=l.map XH:=by
 induction l with
 |nil=>rfl
 |cons a r ih=>simp[Zh,ih]
def F5:AV->AV
 | .sc v=>.sc v
 |a=>JV a
theorem OC {a a':AV} (h:F5 a'=F5 a):JV a'=JV a:=by
 cases a<;>cases a'<;>simp only[F5,JV]at h ⊢ <;>first|rfl|exact h|cases h
theorem Ik {a a':AV} (h:F5 a'=F5 a) (ht:match a with| .own .. | .agg _| .A9 _=>False|_=>True):a'=a:=by
 cases a<;>first|exact ht.elim| (cases a'<;>simp only[F5,JV]at h<;>first|rfl|exact h|cases h)
theorem OB {a:AV} {b:Bool} {k:Nat} {rows:List (List AV)} (h:JV a= .own b k rows):∃rows',a= .own b k rows'/\Zh rows'=rows:=by
 cases a<;>simp only[JV]at h<;>first| (cases h;done)| (cases h;exact⟨_,rfl,rfl⟩)
theorem sP {a:AV} {b:Bool} {k:Nat} {rows:List (List AV)} (h:JV a= .sl b k rows):a= .sl b k rows:=by
 cases a<;>simp only[JV]at h<;>first|exact h|cases h
theorem X4 {r r':List (List AV)} (h:Zh r'=Zh r):r'.length=r.length:=by
 have:=congrArg List.length h;simpa[UG]using this
theorem eP {r r':List (List AV)} (h:Zh r'=Zh r) (i:Nat):(r'[i]?).map XH=(r[i]?).map XH:=by
 have:=congrArg (·[i]?) h;simpa[UG]using this
theorem eO {r r':List AV} (h:XH r'=XH r) (i:Nat):(r'[i]?).map JV=(r[i]?).map JV:=by
 have:=congrArg (·[i]?) h;simpa[XI]using this
theorem eW (p:List Step):∀{a a':AV},JV a'=JV a->(sub a' p).map JV=(sub a p).map JV:=by
 induction p with
 |nil=>intro a a' h;simp[sub,h]
 |cons s p ih=>
  obtain⟨i,j,k0⟩:=s
  intro a a' h
  have lst:∀{cs cs':List AV},XH cs'=XH cs->(match cs'[j]? with|some c=>sub c p|none=>none).map JV=(match cs[j]? with|some c=>sub c p|none=>none).map JV:=by
   intro cs cs' hc
   have:=eO hc j
   cases h1:cs[j]? with
   |none=>rw[h1]at this;simp at this;simp[this]
   |some c=>
    rw[h1]at this
    simp only[Option.map_some]at this
    obtain⟨c',h2,h3⟩:=Option.map_eq_some_iff.1 this
    simp only[h2];exact ih h3
  cases a with
  |own b k rows=>
   obtain⟨rows',rfl,hr⟩:=OB h
   simp only[sub]
   have:=eP hr i
   cases h1:rows[i]? with
   |none=>rw[h1]at this;simp at this;simp[this]
   |some row=>
    rw[h1]at this
    simp only[Option.map_some]at this
    obtain⟨row',h2,h3⟩:=Option.map_eq_some_iff.1 this
    simp only[h2];exact lst h3
  |agg cs=>cases a'<;>simp only[JV,AV.agg.injEq,reduceCtorEq]at h;simp only[sub];exact lst h
  |A9 cs=>cases a'<;>simp only[JV,AV.A9.injEq,reduceCtorEq]at h;simp only[sub];exact lst h
  |_=>cases a'<;>simp only[JV]at h<;>first|rfl|cases h
theorem sH (q:List Step):∀{a t:AV} {u0 u:Value},sub a q=some (.sc u0)->put a q (.sc u)=some t->JV t=JV a:=by
 induction q with
 |nil=>intro a t u0 u h1 h2;simp only[sub,Option.some.injEq]at h1;simp only[put,Option.some.injEq]at h2;subst h1;subst h2;rfl
 |cons s q ih=>
  obtain⟨i,j,k0⟩:=s
  have lst:∀{cs:List AV} {c c':AV},cs[j]? =some c->JV c'=JV c->XH (cs.set j c')=XH cs:=by
   intro cs c c' h1 h2
   rw[XI,XI,List.map_set,h2]
   obtain⟨hj,rfl⟩:=List.getElem?_eq_some_iff.1 h1
   apply List.ext_getElem?;intro m
   rw[List.getElem?_set]
   split
   . rename_i hm;subst hm;simp[hj]
   . rfl
  intro a t u0 u h1 h2
  cases a with
  |own b k rows=>
   simp only[sub]at h1
   simp only[put]at h2
   cases hr:rows[i]? with
   |none=>rw[hr]at h1;cases h1
   |some row=>
    rw[hr]at h1 h2
    simp only at h1 h2
    cases hc:row[j]? with
    |none=>rw[hc]at h1;cases h1
    |some c=>
     rw[hc]at h1 h2
     simp only at h1 h2
     cases hp:put c q (.sc u)with
     |none=>rw[hp]at h2;cases h2
     |some c'=>
      rw[hp]at h2
      obtain rfl:=Option.some.inj h2
      simp only[JV,AV.own.injEq,true_and]
      rw[UG,UG,List.map_set,lst hc (ih h1 hp)]
      obtain⟨hi,rfl⟩:=List.getElem?_eq_some_iff.1 hr
      apply List.ext_getElem?;intro m
      rw[List.getElem?_set]
      split
      . rename_i hm;subst hm;simp[hi]
      . rfl
  |agg cs=>
   simp only[sub]at h1
   simp only[put]at h2
   cases hc:cs[j]? with
   |none=>rw[hc]at h1;cases h1
   |some c=>
    rw[hc]at h1 h2
    simp only at h1 h2
    cases hp:put c q (.sc u)with
    |none=>rw[hp]at h2;cases h2
    |some c'=>
     rw[hp]at h2
     obtain rfl:=Option.some.inj h2
     simp only[JV,AV.agg.injEq]
     exact lst hc (ih h1 hp)
  |A9 cs=>
   simp only[sub]at h1
   simp only[put]at h2
   cases hc:cs[j]? with
   |none=>rw[hc]at h1;cases h1
   |some c=>
    rw[hc]at h1 h2
    simp only at h1 h2
    cases hp:put c q (.sc u)with
    |none=>rw[hp]at h2;cases h2
    |some c'=>
     rw[hp]at h2
     obtain rfl:=Option.some.inj h2
     simp only[JV,AV.A9.injEq]
     exact lst hc (ih h1 hp)
  |_=>simp[sub]at h1
theorem eX (p:List Step):∀{a:AV} {b:Bool} {k:Nat} {rows:List (List AV)} {row:List AV} {c:AV} {i j k':Nat},sub a p=some (.own b k rows)->rows[i]? =some row->row[j]? =some c->sub a (p++[(i,j,k')])=some c:=by
 induction p with
 |nil=>intro a b k rows row c i j k' h h1 h2;simp only[sub,Option.some.injEq]at h;subst h;simp[sub,h1,h2]
 |cons s p ih=>
  obtain⟨i0,j0,k0⟩:=s
  intro a b k rows row c i j k' h h1 h2
  cases a with
  |own b0 k1 rows0=>
   simp only[List.cons_append,sub]at h ⊢
   cases hr:rows0[i0]? with
   |none=>rw[hr]at h;cases h
   |some r0=>
    rw[hr]at h;simp only at h ⊢
    cases hc:r0[j0]? with
    |none=>rw[hc]at h;cases h
    |some c0=>rw[hc]at h;exact ih h h1 h2
  |agg cs=>
   simp only[List.cons_append,sub]at h ⊢
   cases hc:cs[j0]? with
   |none=>rw[hc]at h;cases h
   |some c0=>rw[hc]at h;exact ih h h1 h2
  |A9 cs=>
   simp only[List.cons_append,sub]at h ⊢
   cases hc:cs[j0]? with
   |none=>rw[hc]at h;cases h
   |some c0=>rw[hc]at h;exact ih h h1 h2
  |_=>simp[sub]at h
def tH (G:Gi) (σ σ':Sg):Ar->Prop
 | .t s=>(∀r∈EL G (.t s),F5 (σ' r)=F5 (σ r))/\D9 (G.Ee s) (σ s)=true
 | .c _=>True
theorem UI {a a':AV} {p:List Step} (h:F5 a'=F5 a) {b:Bool} {k:Nat} {rows:List (List AV)} (hs:sub a p=some (.own b k rows)):∃rows',sub a' p=some (.own b k rows')/\Zh rows'=Zh rows:=by
 have:=eW p (OC h)
 rw[hs]at this
 simp only[Option.map_some,JV]at this
 obtain⟨c,h1,h2⟩:=Option.map_eq_some_iff.1 this
 obtain⟨rows',rfl,h3⟩:=OB h2
 exact⟨rows',h1,h3⟩
theorem kG {a a':AV} {p:List Step} (h:F5 a'=F5 a) {b:Bool} {k:Nat} {rows:List (List AV)} (hs:sub a p=some (.sl b k rows)):sub a' p=some (.sl b k rows):=by
 have:=eW p (OC h)
 rw[hs]at this
 simp only[Option.map_some,JV]at this
 obtain⟨c,h1,h2⟩:=Option.map_eq_some_iff.1 this
 rw[sP h2]at h1
 exact h1
theorem Ue {σ σ':Sg} {x:Ar} (h:tH G σ σ' x) {v:Nat×List Step×Nat×Nat×Nat} (hv:C3 σ x=some v):C3 σ' x=some v/\F5 (σ' v.1)=F5 (σ v.1):=by
 cases x with
 |c=>cases hv
 |t s=>
  obtain⟨hk,hri⟩:=h
  have h0:=hk s (by simp[EL])
  simp only[C3]at hv ⊢
  cases hs:σ s with
  |own b k rows=>
   rw[hs]at hv h0
   obtain⟨rows',hs',_⟩:=OB (show JV (σ' s)= .own b k (Zh rows)from by have:=OC h0;simpa[JV]using this)
   rw[hs']
   cases b with
   |false=>cases hv
   |true=>
    simp only[Option.some.injEq]at hv ⊢
    subst hv
    exact⟨rfl,by simpa[hs,hs']using h0⟩
  |al r p=>
   rw[hs]at hv h0 hri
   have e:=Ik h0 trivial
   rw[e]
   simp only[HB,List.contains_iff_mem]at hri
   have hr:=hk r (by simp[EL,hri])
   simp only at hv ⊢
   split at hv
   . rename_i k rows hsub
     obtain⟨rows',g1,_⟩:=UI hr hsub
     rw[g1]
     simp only[Option.some.injEq]at hv ⊢
     subst hv
     exact⟨rfl,hr⟩
   . cases hv
  |HX r p i j k=>
   rw[hs]at hv h0 hri
   have e:=Ik h0 trivial
   rw[e]
   simp only[Pz,List.contains_iff_mem]at hri
   have hr:=hk r (by simp[EL,hri])
   simp only[Option.some.injEq]at hv ⊢
   subst hv
   exact⟨rfl,hr⟩
  |_=>rw[hs]at hv;cases hv
theorem sQ {σ σ':Sg} {off:Nat} {x:Ar} (h:tH G σ σ' x) {v:AV} (hv:valOf (.PL off x) σ=some v):valOf (.PL off x) σ'=some v:=by
 cases x with
 |c=>cases hv
 |t s=>
  have h0:=h.1 s (by simp[EL])
  simp only[valOf]at hv ⊢
  cases hs:σ s with
  |fp cs=>rw[hs]at hv h0;rw[Ik h0 trivial];exact hv
  |vb q o us=>rw[hs]at hv h0;rw[Ik h0 trivial];exact hv
  |_=>
   rw[hs]at hv
   simp only at hv
   cases ha:C3 σ (.t s)with
   |none=>rw[ha]at hv;cases hv
   |some q=>
    rw[ha]at hv
    obtain⟨g1,_⟩:=Ue h ha
    have hn:∀cs,σ' s≠ .fp cs:=λcs e=>by rw[e,hs]at h0;simp[F5,JV]at h0
    have hn2:∀q o us,σ' s≠ .vb q o us:=λq o us e=>by rw[e,hs]at h0;simp[F5,JV]at h0
    cases hs':σ' s with
    |fp cs=>exact absurd hs' (hn cs)
    |vb q o us=>exact absurd hs' (hn2 q o us)
    |_=>simp only[g1];exact hv
theorem sS {σ σ':Sg} {x:Ar} (h:tH G σ σ' x) {v:AV} (hv:valOf (.Qt x) σ=some v):valOf (.Qt x) σ'=some v:=by
 simp only[valOf]at hv ⊢
 split at hv
 . rename_i r p i j k ha
   obtain⟨g1,g2⟩:=Ue h ha
   rw[g1]
   simp only at g2 ⊢
   split at hv
   . rename_i b k' rows hsub
     obtain⟨rows',g3,g4⟩:=UI g2 hsub
     rw[g3]
     simp only
     split at hv
     . rename_i row hr
       have:=eP g4 i
       rw[hr]at this
       obtain⟨row',g5,g6⟩:=Option.map_eq_some_iff.1 this
       rw[g5]
       simp only
       split at hv
       . rename_i b2 k2 rows2 hc
         have:=eO g6 j
         rw[hc]at this
         simp only[Option.map_some,JV]at this
         obtain⟨c',g7,g8⟩:=Option.map_eq_some_iff.1 this
         obtain⟨rows3,rfl,_⟩:=OB g8
         rw[g7]
         exact hv
       . cases hv
     . cases hv
   . cases hv
 . cases hv
theorem sR {σ σ':Sg} {k:Nat} {x i:Ar} (h:tH G σ σ' x) (h2:tH G σ σ' i) {v:AV} (hv:valOf (.Lr k x i) σ=some v):valOf (.Lr k x i) σ'=some v:=by
 simp only[valOf]at hv ⊢
 have hi:∀n,WG (ar σ i)=some n->WG (ar σ' i)=some n:=by
  intro n hn
  cases i with
  |c=>exact hn
  |t s=>
   have h0:=h2.1 s (by simp[EL])
   simp only[ar]at hn ⊢
   cases hs:σ s with
   |sc u=>rw[hs]at hn h0;rw[Ik h0 trivial];exact hn
   |_=>rw[hs]at hn;cases hn
 split at hv
 . rename_i k' rows r p n hh hn
   rw[hi n hn]
   have:∃rows',hd σ' x=some (.own false k' rows',some (r,p))/\rows'.length=rows.length:=by
    cases x with
    |c a=>cases a<;>simp[hd]at hh
    |t s=>
     have h0:=h.1 s (by simp[EL])
     have hri:=h.2
     simp only[hd]at hh ⊢
     cases hs:σ s with
     |own b0 k0 rows0=>
      rw[hs]at hh h0
      simp only[Option.some.injEq,Prod.mk.injEq,AV.own.injEq]at hh
      obtain⟨⟨rfl,rfl,rfl⟩,rfl,rfl⟩:=hh
      obtain⟨rows',hs',hk⟩:=OB (show JV (σ' s)= .own false k0 (Zh rows0)from by have:=OC h0;simpa[JV]using this)
      rw[hs']
      exact⟨rows',rfl,X4 hk⟩
     |al r0 p0=>
      rw[hs]at hh h0 hri
      rw[Ik h0 trivial]
      simp only[HB,List.contains_iff_mem]at hri
      have hr:=h.1 r0 (by simp[EL,hri])
      simp only at hh ⊢
      split at hh
      . rename_i m hm
        simp only[Option.some.injEq,Prod.mk.injEq]at hh
        obtain⟨rfl,rfl,rfl⟩:=hh
        obtain⟨rows',g1,g2⟩:=UI hr hm
        rw[g1]
        exact⟨rows',rfl,X4 g2⟩
      . cases hh
     |_=>rw[hs]at hh;simp at hh
   obtain⟨rows',g1,g2⟩:=this
   rw[g1]
   simp only[g2]
   exact hv
 . rename_i b k' rows o n hh hn
   rw[hi n hn]
   have:∃o',hd σ' x=some (.sl b k' rows,o'):=by
    cases x with
    |c a=>cases a<;>simp[hd]at hh
    |t s=>
     have h0:=h.1 s (by simp[EL])
     have hri:=h.2
     simp only[hd]at hh ⊢
     cases hs:σ s with
     |sl b0 k0 rows0=>rw[hs]at hh h0;rw[Ik h0 trivial];simp only[Option.some.injEq,Prod.mk.injEq]at hh;exact⟨none,by rw[hh.1]⟩
     |al r0 p0=>
      rw[hs]at hh h0 hri
      rw[Ik h0 trivial]
      simp only[HB,List.contains_iff_mem]at hri
      have hr:=h.1 r0 (by simp[EL,hri])
      simp only at hh ⊢
      split at hh
      . rename_i m hm
        simp only[Option.some.injEq,Prod.mk.injEq]at hh
        obtain⟨rfl,_⟩:=hh
        rw[kG hr hm]
        exact⟨_,rfl⟩
      . cases hh
     |_=>rw[hs]at hh;simp at hh
   obtain⟨o',g1⟩:=this
   rw[g1]
   exact hv
 . cases hv
def W2 (G:Gi) (o:A7):List Nat:=match o.op,o.guard,o.dst with
 | .P1 a _,none,none=>(EL G a).map λs=>2*s+1
 |_,_,_=>(Mr G o).flatMap λs=>[2*s,2*s+1]
def R2 (G:Gi) (o:A7):List Nat:=W2 G o++(match o.op,o.guard,o.dst with
 | .P1 _ v,none,none=>(EL G v).map λs=>2*s+1
 | .PL _ x,none,some _=>(EL G x).map λs=>2*s
 | .Qt x,none,some _=>(EL G x).map λs=>2*s
 | .Lr _ x i,none,some _=>(EL G x++EL G i).map λs=>2*s
 |_,_,_=>(T9 G o).map λs=>2*s+1)
theorem JO {l:List Nat} {s:Nat}:2*s+1∈(l.flatMap λs=>[2*s,2*s+1])↔s∈l:=by
 simp only[List.mem_flatMap,List.mem_cons,List.not_mem_nil,or_false]
 exact⟨λ⟨a,h1,h2⟩=>(show a=s by omega)▸h1,λh=>⟨s,h,.inr rfl⟩⟩
theorem VP {l:List Nat} {s:Nat}:2*s∈(l.flatMap λs=>[2*s,2*s+1])↔s∈l:=by
 simp only[List.mem_flatMap,List.mem_cons,List.not_mem_nil,or_false]
 exact⟨λ⟨a,h1,h2⟩=>(show a=s by omega)▸h1,λh=>⟨s,h,.inl rfl⟩⟩
theorem LD {kl:List Nat} {d:Nat} {σ:Sg} (s:Nat):Fh kl d σ s=if s∈kl then Cb d (σ s)else σ s:=by
 unfold Fh;cases kl<;>simp
theorem kK {d:DU} {v:AV} {σ σ' τ:Sg} (hk:∀s∈d.kl,σ' s=σ s) (he:wr d v σ=some τ):∃τ',wr d v σ'=some τ'/\(∀s∈d.d::d.kl,τ' s=τ s)/\∀s,s∉d.d::d.kl->τ' s=σ' s:=by
 unfold wr at he ⊢
 split at he
 . rename_i hr
   obtain rfl:=Option.some.inj he
   rw[if_pos hr]
   refine⟨_,rfl,λs hs=> ?_,λs hs=> ?_⟩
   . by_cases e:s=d.d
     . subst e;simp[DF]
     . have:s∈d.kl:=by simpa[e]using hs
       rw[BK _ _ e,BK _ _ e,LD,LD,hk s this]
   . simp only[List.mem_cons,not_or]at hs
     rw[BK _ _ hs.1,LD,if_neg hs.2]
 . cases he
theorem WA {σ σ' τ:Sg} {o:A7} (hc:KI o=true) (hrs:∀d,o.dst=some d->d.rs=G.Ee d.d) (hri:∀s,D9 (G.Ee s) (σ s)=true) (hf:∀s,2*s+1∈R2 G o->σ' s=σ s) (hk:∀s,2*s∈R2 G o->F5 (σ' s)=F5 (σ s)) (he:HU P G o (· =τ) σ):
 ∃τ',HU P G o (· =τ') σ'/\(∀s,2*s+1∈W2 G o->τ' s=τ s)/\∀s,2*s+1∉W2 G o->τ' s=σ' s:=by
 have gen:W2 G o=((Mr G o).flatMap λs=>[2*s,2*s+1])->(∀s,s∈T9 G o->2*s+1∈R2 G o)->∃τ',HU P G o (· =τ') σ'/\(∀s,2*s+1∈W2 G o->τ' s=τ s)/\∀s,2*s+1∉W2 G o->τ' s=σ' s:=by
  intro h1 h2
  obtain⟨τ',g1,g2⟩:=Se hc hrs (⟨λs hs=>hf s (h2 s hs),λs _=>hri s⟩:Ag G (· ∈T9 G o) σ σ') he
  refine⟨τ',g1,λs hs=> ?_,λs hs=> ?_⟩
  . rw[h1,JO]at hs;exact g2.ag.eq s hs
  . rw[h1,JO]at hs;exact(g2.off s hs).1
 have value:∀d op,o=⟨some d,op,none⟩->takes op=[]->W2 G o=((Mr G o).flatMap λs=>[2*s,2*s+1])->(∀K σ,C5 P G ⟨some d,op,none⟩ K σ=match(match valOf op σ with|some v=>wr d v σ|none=>none)with|some τ=>K τ|none=>False)->
  (∀v,valOf op σ=some v->valOf op σ'=some v)->∃τ',HU P G o (· =τ') σ'/\(∀s,2*s+1∈W2 G o->τ' s=τ s)/\∀s,2*s+1∉W2 G o->τ' s=σ' s:=by
  intro d op ho ht hw hrun hval
  have hws:Mr G o=d.d::d.kl:=by subst ho;simp[Mr,ht]
  subst ho
  simp only[HU]at he ⊢
  rw[hrun]at he
  cases hv:valOf op σ with
  |none=>rw[hv]at he;exact he.elim
  |some v=>
   rw[hv]at he
   simp only at he
   cases hwv:wr d v σ with
   |none=>rw[hwv]at he;exact he.elim
   |some υ=>
    rw[hwv]at he
    simp only at he
    subst he
    obtain⟨τ',g1,g2,g3⟩:=kK (σ':=σ') (λs hs=>hf s (by simp only[R2,List.mem_append];left;rw[hw,JO,hws];simp[hs])) hwv
    refine⟨τ',?_,λs hs=> ?_,λs hs=> ?_⟩
    . rw[hrun,hval v hv];simp only[g1]
    . rw[hw,JO,hws]at hs;exact g2 s hs
    . rw[hw,JO,hws]at hs;exact g3 s hs
 obtain⟨dst,op,guard⟩:=o
 have skA:∀x:Ar,(∀s∈EL G x,2*s∈R2 G ⟨dst,op,guard⟩)->tH G σ σ' x:=by
  intro x hx
  cases x with
  |c=>trivial
  |t s=>exact⟨λr hr=>hk r (hx r hr),hri s⟩
 cases guard with
 |some g=>exact gen (by cases op<;>rfl) (λs hs=>by cases op<;>(simp only[R2,List.mem_append,List.mem_map];exact .inr ⟨s,hs,rfl⟩))
 |none=>
  cases dst with
  |none=>
   cases op with
   |P1 a v=>
    simp only[HU,C5]at he ⊢
    have hv:ar σ' v=ar σ v:=by
     cases v with
     |c=>rfl
     |t s=>exact hf s (by simp[R2,EL])
    have hfa:∀s∈EL G a,σ' s=σ s:=λs hs=>hf s (by simp only[R2,W2,List.mem_append,List.mem_map];exact .inl ⟨s,hs,rfl⟩)
    have hag:Ag G (· ∈EL G a) σ σ':=⟨hfa,λs _=>hri s⟩
    have hca:cOK a=true:=by simp only[KI,takes,Bool.and_eq_true,List.all_eq_true]at hc;exact hc.1 a (by simp)
    have hla:PD G (· ∈EL G a) a:=by
     cases a with
     |c c=>exact hca
     |t s=>exact⟨by simp[EL],λr hr=>by simp[EL,hr]⟩
    split at he
    . rename_i υ hu
      subst he
      simp only[ES]at hu ⊢
      rw[hv,hag.C3 hla]
      split at hu
      . rename_i u hu0
        split at hu
        . rename_i r p i j k ha
          have hr:r∈EL G a:=hag.JF hla ha
          rw[hfa r hr]
          split at hu
          . rename_i b0 k0 rows hsub
            split at hu
            . rename_i row hrow
              split at hu
              . rename_i u0 hc0
                split at hu
                . rename_i t hst
                  cases hu
                  refine⟨DF σ' r t,rfl,λs hs=> ?_,λs hs=> ?_⟩
                  . have hs':s∈EL G a:=by
                     simp only[W2,List.mem_map]at hs
                     obtain⟨x,h1,h2⟩:=hs
                     have:x=s:=by omega
                     exact this▸h1
                    simp only[DF];split
                    . rfl
                    . exact hfa s hs'
                  . have hs':s≠r:=by
                     rintro rfl
                     apply hs
                     simp only[W2,List.mem_map];exact⟨s,hr,rfl⟩
                    rw[BK _ _ hs']
                . cases hu
              . cases hu
            . cases hu
          . cases hu
        . cases hu
      . cases hu
    . exact he.elim
   |_=>exact gen rfl (λs hs=>by simp only[R2,List.mem_append,List.mem_map];exact .inr ⟨s,hs,rfl⟩)
  |some d=>
   cases op with
   |PL off x=>exact value d _ rfl rfl rfl (λK σ=>rfl) (λv hv=>sQ (skA x λs hs=>by simp only[R2,List.mem_append,List.mem_map];exact .inr ⟨s,hs,rfl⟩) hv)
   |Qt x=>exact value d _ rfl rfl rfl (λK σ=>rfl) (λv hv=>sS (skA x λs hs=>by simp only[R2,List.mem_append,List.mem_map];exact .inr ⟨s,hs,rfl⟩) hv)
   |Lr k x i=>exact value d _ rfl rfl rfl (λK σ=>rfl) (λv hv=>sR (skA x λs hs=>by simp only[R2,List.mem_append,List.mem_map];exact .inr ⟨s,.inl hs,rfl⟩) (skA i λs hs=>by simp only[R2,List.mem_append,List.mem_map];exact .inr ⟨s,.inr hs,rfl⟩) hv)
   |_=>exact gen rfl (λs hs=>by simp only[R2,List.mem_append,List.mem_map];exact .inr ⟨s,hs,rfl⟩)
theorem QH {σ τ:Sg} {o:A7} (hc:KI o=true) (hrs:∀d,o.dst=some d->d.rs=G.Ee d.d) (hri:∀s,D9 (G.Ee s) (σ s)=true) (he:HU P G o (· =τ) σ):
 (∀s,2*s+1∉W2 G o->τ s=σ s)/\(∀s,2*s∉W2 G o->F5 (τ s)=F5 (σ s))/\∀s,D9 (G.Ee s) (τ s)=true:=by
 have h0:=gF hc hrs hri he
 have gen:W2 G o=((Mr G o).flatMap λs=>[2*s,2*s+1])->(∀s,2*s+1∉W2 G o->τ s=σ s)/\(∀s,2*s∉W2 G o->F5 (τ s)=F5 (σ s))/\∀s,D9 (G.Ee s) (τ s)=true:=by
  intro h1
  refine⟨λs hs=> ?_,λs hs=> ?_,h0.2⟩
  . rw[h1,JO]at hs;exact h0.1 s hs
  . rw[h1,VP]at hs;rw[h0.1 s hs]
 obtain⟨dst,op,guard⟩:=o
 cases guard with
 |some g=>exact gen (by cases op<;>rfl)
 |none=>
  cases dst with
  |some d=>exact gen (by cases op<;>rfl)
  |none=>
   cases op with
   |P1 a v=>
    simp only[HU,C5]at he
    split at he
    . rename_i υ hu
      subst he
      simp only[ES]at hu
      split at hu
      . rename_i u hu0
        split at hu
        . rename_i r p i j k ha
          have hca:cOK a=true:=by simp only[KI,takes,Bool.and_eq_true,List.all_eq_true]at hc;exact hc.1 a (by simp)
          have hag:Ag G (· ∈EL G a) σ σ:=⟨λ_ _=>rfl,λs _=>hri s⟩
          have hla:PD G (· ∈EL G a) a:=by
           cases a with
           |c c=>exact hca
           |t s=>exact⟨by simp[EL],λr hr=>by simp[EL,hr]⟩
          have hr:r∈EL G a:=hag.JF hla ha
          split at hu
          . rename_i b0 k0 rows hsub
            split at hu
            . rename_i row hrow
              split at hu
              . rename_i u0 hc0
                split at hu
                . rename_i t hst
                  cases hu
                  refine⟨λs hs=> ?_,λs _=> ?_,h0.2⟩
                  . rw[BK]
                    rintro rfl
                    apply hs
                    simp only[W2,List.mem_map];exact⟨s,hr,rfl⟩
                  . by_cases e:s=r
                    . subst e
                      rw[A8]
                      have h1:=sH _ (eX p hsub hrow hc0) hst
                      have hne:∀u,σ s≠ .sc u:=λu e=>by
                       rw[e]at hsub
                       cases p with
                       |nil=>simp[sub]at hsub
                       |cons=>simp[sub]at hsub
                      have hnt:∀u,t≠ .sc u:=λu e=>by
                       subst e
                       cases hσ:σ s<;>rw[hσ]at h1 hsub<;>first|exact absurd hσ (hne _)| (cases p<;>simp[sub]at hsub;done)| (simp[JV]at h1;done)
                      cases hσ:σ s<;>first|exact absurd hσ (hne _)| (rw[hσ]at h1;cases t<;>first|exact absurd rfl (hnt _)|exact h1)
                    . rw[BK _ _ e]
                . cases hu
              . cases hu
            . cases hu
          . cases hu
        . cases hu
      . cases hu
    . exact he.elim
   |_=>exact gen rfl
def IF (G:Gi) (ops:List Oper) (ios:List A7):Bool:=
 ios.all KI&&Px (PH ops []) (ios.map λo=>Zy (W2 G o)) (ios.map λo=>Zy (R2 G o)) 0 ops
def Ea (G:Gi) (ios:List A7) (j:Nat):List Nat:=match ios[j]? with|some o=>W2 G o|none=>[]
def PV (G:Gi) (ios:List A7) (j:Nat):List Nat:=match ios[j]? with|some o=>R2 G o|none=>[]
end Go.Abs
namespace Go.Abs
variable {G:Gi} {P:Program} {w:World}
theorem NG {n:Nat} {w0:World} {S0 U0:Nat->Prop} {ops:Array Oper} {K:Sg->Prop} (Q:Exit->Act->World->Prop) {ios:List A7} {a:Act} {w:World} {σ:Sg}
 (h:Rel G n w0 S0 U0 a w σ) (hN:ios.length=ops.size) (hrsA:∀(i:Nat) (o:Oper) (io:A7),ops.toList[i]? =some o->ios[i]? =some io->∀d:DU,io.dst=some d->d.rs=G.Ee d.d) (hd:IF G ops.toList ios=true)
 (q:Nat->Sg) (hq0:q 0=σ) (hstep:∀i io,ios[i]? =some io->HU P G io (· =q (i+1)) (q i)) (hK:K (q ios.length)) (J:(Nat->Bool)->Act->World->Prop) (hQ:∀(L:Nat->Bool) a w σ,(∀j,j<ops.size->L j=true)->J L a w->Rel G n w0 S0 U0 a w σ->K σ->Q .normal a w) (hJ0:J (λj=>(Array.replicate ops.size false).getD j true) a w)
 (hS:∀(L:Nat->Bool) (i:Nat) o io a w σ τ',ops[i]? =some o->ios[i]? =some io->i<ops.size->L i=false->(∀x,((PH ops.toList []).getD i 0).testBit x=true->L x=true)->(∀j,j<ops.size->L j=true->∀x,((PH ops.toList []).getD j 0).testBit x=true->L x=true)->
  J L a w->Rel G n w0 S0 U0 a w σ->HU P G io (· =τ') σ->(∀s,τ' s=q (Dv (λj=>(L j||j==i)) (Ea G ios) (2*s+1) ops.size) s)->wpOp P ops Q i (λa' w'=>(∃σ',Rel G n w0 S0 U0 a' w' σ'/\σ'=τ')/\J (λj=>(L j||j==i)) a' w') a w):
 wpAny P .any ops Q ops.size (Array.replicate ops.size false) a w:=by
 simp only[IF,Bool.and_eq_true,List.all_eq_true]at hd
 obtain⟨hargs,hrows⟩:=hd
 generalize hM:PH ops.toList []=M at hrows hS
 have hspec:=T1 _ hrows
 simp only[Nat.zero_add]at hspec
 have getop:∀i,i<ops.size->∃o io,ops[i]? =some o/\ops.toList[i]? =some o/\ios[i]? =some io:=by
  intro i hi
  refine⟨ops[i],ios[i]'(by omega),?_,?_,?_⟩<;>simp[hi,hN]
 -- the states of the text's order
 have hwf:∀i,i≤ops.size->∀s,D9 (G.Ee s) (q i s)=true:=by
  intro i
  induction i with
  |zero=>
   intro _ s
   rw[hq0]
   obtain⟨S,δ,Fr,_,_,_,rfl,hst,_⟩:=h
   exact hst.rt s
  |succ i ih=>
   intro hi
   obtain⟨o,io,h1,h2,h3⟩:=getop i (by omega)
   exact(QH (hargs io (List.mem_of_getElem? h3)) (hrsA i o io h2 h3) (ih (by omega)) (hstep i io h3)).2.2
 have hofff:∀j s,j<ops.size->2*s+1∉Ea G ios j->q (j+1) s=q j s:=by
  intro j s hj hs
  obtain⟨o,io,h1,h2,h3⟩:=getop j hj
  exact(QH (hargs io (List.mem_of_getElem? h3)) (hrsA j o io h2 h3) (hwf j (by omega)) (hstep j io h3)).1 s (by simpa[Ea,h3]using hs)
 have hoffk:∀j s,j<ops.size->2*s∉Ea G ios j->F5 (q (j+1) s)=F5 (q j s):=by
  intro j s hj hs
  obtain⟨o,io,h1,h2,h3⟩:=getop j hj
  exact(QH (hargs io (List.mem_of_getElem? h3)) (hrsA j o io h2 h3) (hwf j (by omega)) (hstep j io h3)).2.1 s (by simpa[Ea,h3]using hs)
 -- the states with their skeletons beside them
 let Q2:Nat->Sg:=λj x=>if x%2=1 then q j (x/2)else F5 (q j (x/2))
 have Q2odd:∀j s,Q2 j (2*s+1)=q j s:=λj s=>by
  show(if(2*s+1)%2=1 then q j ((2*s+1)/2)else F5 (q j ((2*s+1)/2)))=q j s
  rw[if_pos (by omega),show(2*s+1)/2=s from by omega]
 have Q2even:∀j s,Q2 j (2*s)=F5 (q j s):=λj s=>by
  show(if(2*s)%2=1 then q j ((2*s)/2)else F5 (q j ((2*s)/2)))=F5 (q j s)
  rw[if_neg (by omega),show(2*s)/2=s from by omega]
 have hoff:∀j x,j<ops.size->x∉Ea G ios j->Q2 (j+1) x=Q2 j x:=by
  intro j x hj hx
  obtain⟨s,rfl|rfl⟩:∃s,x=2*s∨x=2*s+1:=⟨x/2,by omega⟩
  . rw[Q2even,Q2even];exact hoffk j s hj hx
  . rw[Q2odd,Q2odd];exact hofff j s hj hx
 have hWs:∀j,j<ops.size->(ios.map λo=>Zy (W2 G o)).getD j 0=Zy (Ea G ios j):=by
  intro j hj
  obtain⟨o,io,h1,h2,h3⟩:=getop j hj
  simp[List.getD_eq_getElem?_getD,Ea,h3]
 have hRs:∀j,j<ops.size->(ios.map λo=>Zy (R2 G o)).getD j 0=Zy (PV G ios j):=by
  intro j hj
  obtain⟨o,io,h1,h2,h3⟩:=getop j hj
  simp[List.getD_eq_getElem?_getD,PV,h3]
 have hWR:∀j s,s∈Ea G ios j->s∈PV G ios j:=by
  intro j s hs
  cases h3:ios[j]? with
  |none=>simp[Ea,h3]at hs
  |some io=>
   simp only[Ea,PV,h3]at hs ⊢
   simp only[R2,List.mem_append]
   exact .inl hs
 have hodd:∀j s,2*s∈Ea G ios j->2*s+1∈Ea G ios j:=by
  intro j s hs
  cases h3:ios[j]? with
  |none=>simp[Ea,h3]at hs
  |some io=>
   simp only[Ea,h3]at hs ⊢
   unfold W2 at hs ⊢
   split at hs
   . simp only[List.mem_map]at hs
     obtain⟨x,_,hx⟩:=hs
     omega
   . rw[VP]at hs;rw[JO];exact hs
 -- pairs that meet are ordered
 have hmeet:∀i j s,i<j->j<ops.size->(s∈Ea G ios i/\s∈PV G ios j)∨(s∈PV G ios i/\s∈Ea G ios j)->(M.getD j 0).testBit i=true:=by
  intro i j s hij hj hs
  obtain⟨o,io,h1,h2,h3⟩:=getop j hj
  rcases(hspec j o h2).2.2 i hij with⟨g1,g2⟩|g
  . rw[hWs i (by omega),hRs j hj]at g1
    rw[hRs i (by omega),hWs j hj]at g2
    rcases hs with hs|hs
    . exact(TG g1 hs.1 hs.2).elim
    . exact(TG g2 hs.1 hs.2).elim
  . exact g
 -- any order
 have main:∀(fuel:Nat) (listed:Array Bool) (a:Act) (w:World),listed.size=ops.size->(List.range ops.size).countP (λi=> !listed.getD i true)≤fuel->
  (∀j,j<ops.size->listed.getD j true=true->∀i,(M.getD j 0).testBit i=true->listed.getD i true=true)->
  (∃σ,Rel G n w0 S0 U0 a w σ/\∀s,σ s=q (Dv (λj=>listed.getD j true) (Ea G ios) (2*s+1) ops.size) s)->J (λj=>listed.getD j true) a w->wpAny P .any ops Q fuel listed a w:=by
  have done:∀(listed:Array Bool) (a:Act) (w:World),(∀j,j<ops.size->listed.getD j true=true)->J (λj=>listed.getD j true) a w->(∃σ,Rel G n w0 S0 U0 a w σ/\∀s,σ s=q (Dv (λj=>listed.getD j true) (Ea G ios) (2*s+1) ops.size) s)->Q .normal a w:=by
   rintro listed a w hall hJ ⟨σ,h1,h2⟩
   have:σ=q ops.size:=by
    funext s
    rw[h2 s]
    have:=ZF hall hoff (2*s+1) _ (Nat.le_refl _)
    rw[Q2odd,Q2odd]at this
    exact this
   subst this
   exact hQ _ a w _ hall hJ h1 (by rw[← hN];exact hK)
  intro fuel
  induction fuel with
  |zero=>
   intro listed a w hsz hcnt hdown hst hJ
   have hall:∀j,j<ops.size->listed.getD j true=true:=by
    intro j hj
    have h0:(List.range ops.size).countP (λi=> !listed.getD i true)=0:=by omega
    rw[List.countP_eq_zero]at h0
    have:=h0 j (by simp[hj])
    simpa using this
   refine⟨?_,done listed a w hall hJ hst⟩
   simp only[Region.ready,List.filter_eq_nil_iff,List.mem_range]
   intro j hj
   simp[hall j hj]
  |succ fuel ih=>
   intro listed a w hsz hcnt hdown hst hJ
   refine⟨λhnil=> ?_,λi hi=> ?_⟩
   . refine done listed a w ?_ hJ hst
     intro j
     induction j using Nat.strongRecOn with
     |_ j ihj=>
      intro hj
      cases hl:listed.getD j true with
      |true=>rfl
      |false=>
       exfalso
       obtain⟨o,io,h1,h2,h3⟩:=getop j hj
       have:j∈Region.ready .any ops listed:=by
        simp only[Region.ready,List.mem_filter,List.mem_range]
        refine⟨hj,?_⟩
        simp only[hl,Bool.not_false,Bool.true_and,h1,Option.map_some,Option.getD_some,Array.all_eq_true']
        intro e he
        cases hb:Region.binds .any e with
        |false=>rfl
        |true=>
         have hlt:=(hspec j o h2).2.1 e (by simpa using he) hb
         have hl':=ihj e.on hlt (by omega)
         have hs:e.on<listed.size:=by omega
         simp only[Array.getD_eq_getD_getElem?,Array.getElem?_eq_getElem hs,Option.getD_some]at hl' ⊢
         simp[hl']
       rw[hnil]at this
       cases this
   . simp only[Region.ready,List.mem_filter,List.mem_range,Bool.and_eq_true,Bool.not_eq_true']at hi
     obtain⟨hiN,hul,hrd⟩:=hi
     obtain⟨o,io,h1,h2,h3⟩:=getop i hiN
     simp only[h1,Option.map_some,Option.getD_some,Array.all_eq_true',Bool.or_eq_true,Bool.not_eq_true']at hrd
     obtain⟨hsp1,hsp2,_⟩:=hspec i o h2
     obtain⟨σ,hrel,hσ⟩:=hst
     -- all that is ahead of i is listed
     have hahead:∀x,(M.getD i 0).testBit x=true->listed.getD x true=true:=by
      intro x hx
      rw[hsp1]at hx
      obtain⟨e,he,hb,hor⟩:=iM hx
      have hlt:=hsp2 e he hb
      have hle:listed.getD e.on true=true:=by
       have:=(hrd e (by simpa using he)).resolve_left (by simp[hb])
       have hs:e.on<listed.size:=by omega
       simp only[Array.getD_eq_getD_getElem?,Array.getElem?_eq_getElem hs,Option.getD_some]at this ⊢
       exact this
      rcases hor with rfl|hor
      . exact hle
      . exact hdown e.on (by omega) hle x hor
     have hL':∀j,(listed.setIfInBounds i true).getD j true=(listed.getD j true||j==i):=by
      intro j
      simp only[Array.getD_eq_getD_getElem?,Array.getElem?_setIfInBounds]
      by_cases e:i=j
      . subst e;simp;split<;>simp
      . have e':¬j=i:=λx=>e x.symm
        simp[e,e']
     have hpre:∀j s,j<i->s∈Ea G ios j->s∈PV G ios i->listed.getD j true=true:=λj s hj hs hs'=>hahead j (hmeet j i s hj hiN (.inl ⟨hs,hs'⟩))
     have hpost:∀j s,i<j->j<ops.size->s∈Ea G ios j->s∈PV G ios i->listed.getD j true=true->listed.getD i true=true:=λj s hj hjN hs hs' hl=>hdown j hjN hl i (hmeet i j s hj hjN (.inr ⟨hs',hs⟩))
     have hA:∀x,x∈PV G ios i->Q2 (Dv (λj=>listed.getD j true) (Ea G ios) x ops.size) x=Q2 i x:=λx hx=>
      dD (L:=λj=>listed.getD j true) (R:=PV G ios) hul hiN hoff hpre hpost hx
     have hf:∀s,2*s+1∈R2 G io->σ s=q i s:=λs hs=>by
      rw[hσ s]
      have:=hA (2*s+1) (by simpa[PV,h3]using hs)
      rw[Q2odd,Q2odd]at this
      exact this
     -- writers of one slot are ordered
     have hord:∀j m s,j<m->m<ops.size->2*s+1∈Ea G ios j->2*s+1∈Ea G ios m->listed.getD m true=true->listed.getD j true=true:=
      λj m s hjm hm h1 h2 hl=>hdown m hm hl j (hmeet j m (2*s+1) hjm hm (.inl ⟨h1,hWR m _ h2⟩))
     have hall:∀s m,m≤ops.size->(∀j,j<m->2*s∈Ea G ios j->listed.getD j true=true)->F5 (q (Dv (λj=>listed.getD j true) (Ea G ios) (2*s) m) s)=F5 (q m s):=by
      intro s m
      induction m with
      |zero=>intro _ _;rfl
      |succ m ihm=>
       intro hm hl
       simp only[Dv]
       by_cases h:2*s∈Ea G ios m
       . rw[if_pos ⟨hl m (by omega) h,h⟩]
       . rw[if_neg (λx=>h x.2),ihm (by omega) (λj hj=>hl j (by omega)),hoffk m s (by omega) h]
     have hboth:∀s m,m≤ops.size->F5 (q (Dv (λj=>listed.getD j true) (Ea G ios) (2*s+1) m) s)=F5 (q (Dv (λj=>listed.getD j true) (Ea G ios) (2*s) m) s):=by
      intro s m
      induction m with
      |zero=>intro _;rfl
      |succ m ihm=>
       intro hm
       simp only[Dv]
       by_cases hlm:listed.getD m true=true
       . by_cases h0:2*s∈Ea G ios m
         . rw[if_pos ⟨hlm,hodd m s h0⟩,if_pos ⟨hlm,h0⟩]
         . rw[if_neg (c:=_/\2*s∈_) (λx=>h0 x.2)]
           by_cases h1:2*s+1∈Ea G ios m
           . rw[if_pos ⟨hlm,h1⟩,hoffk m s (by omega) h0]
             exact(hall s m (by omega) λj hj hw=>hord j m s hj (by omega) (hodd j s hw) h1 hlm).symm
           . rw[if_neg (λx=>h1 x.2)];exact ihm (by omega)
       . rw[if_neg (λx=>hlm x.1),if_neg (λx=>hlm x.1)];exact ihm (by omega)
     have hk:∀s,2*s∈R2 G io->F5 (σ s)=F5 (q i s):=λs hs=>by
      rw[hσ s,hboth s _ (Nat.le_refl _)]
      have:=hA (2*s) (by simpa[PV,h3]using hs)
      rw[Q2even,Q2even]at this
      exact this
     obtain⟨τ',hτ,hmv1,hmv2⟩:=WA (hargs io (List.mem_of_getElem? h3)) (hrsA i o io h2 h3) (hwf i (by omega)) hf hk (hstep i io h3)
     have hfun:(λj=>(listed.setIfInBounds i true).getD j true)=λj=>(listed.getD j true||j==i):=funext hL'
     have hτs:∀s,τ' s=q (Dv (λj=>(listed.getD j true||j==i)) (Ea G ios) (2*s+1) ops.size) s:=by
      intro s
      by_cases hs:2*s+1∈Ea G ios i
      . rw[dF (L:=λj=>listed.getD j true) hiN (λj=>rfl) hul (λj s hj hjN h1 h2 h3=>hpost j s hj hjN h1 (hWR i s h2) h3) hs]
        exact hmv1 s (by simpa[Ea,h3]using hs)
      . rw[ZG (L:=λj=>listed.getD j true) (i:=i) (λj=>rfl) hs,← hσ s]
        exact hmv2 s (by simpa[Ea,h3]using hs)
     refine wpOp_mono ?_ (hS (λj=>listed.getD j true) i o io a w σ τ' h1 h3 hiN hul hahead hdown hJ hrel hτ hτs)
     . rintro a' w' ⟨⟨σ2,hrel',rfl⟩,hJ'⟩
       refine ih _ a' w' (by simp[hsz]) ?_ ?_ ⟨σ2,hrel',?_⟩ (by rw[hfun];exact hJ')
       . have:=Yk (p:=λi=> !listed.getD i true) (p':=λj=> !(listed.setIfInBounds i true).getD j true) (λj hj=>by simp only[hL']at hj;simp at hj ⊢;exact hj.1) (i:=i) (by simp[hul]) (by simp[hL']) ops.size hiN
         omega
       . intro j hjN hl x hx
         rw[hL']at hl ⊢
         simp only[Bool.or_eq_true,beq_iff_eq]at hl ⊢
         rcases hl with hl|rfl
         . exact .inl (hdown j hjN hl x hx)
         . exact .inl (hahead x hx)
       . intro s
         rw[hfun];exact hτs s
 refine main ops.size _ a w (by simp) (by exact Nat.le_trans (List.countP_le_length) (by simp)) ?_ ⟨σ,h,λs=> ?_⟩ hJ0
 . intro j hj hl
   simp[Array.getD_eq_getD_getElem?,hj]at hl
 . have:∀m,m≤ops.size->Dv (λj=>(Array.replicate ops.size false).getD j true) (Ea G ios) (2*s+1) m=0:=by
    intro m
    induction m with
    |zero=>intro _;rfl
    |succ m ih=>
     intro hm
     simp only[Dv]
     rw[if_neg,ih (by omega)]
     rintro⟨h1,_⟩
     have hm':m<ops.size:=by omega
     simp[Array.getD_eq_getD_getElem?,hm']at h1
   rw[this _ (Nat.le_refl _),hq0]
theorem Ow {L:Nat->Bool} {W:Nat->List Nat} {x b:Nat}:∀m,(∀j,j<m->L j=true->j<b)->Dv L W x m≤b
 |0,_=>Nat.zero_le _
 |m+1,h=>by
  simp only[Dv]
  split
  . rename_i hm;have:=h m (by omega) hm.1;omega
  . exact Ow m λj hj=>h j (by omega)
theorem N0 {n:Nat} {w0:World} {S0 U0:Nat->Prop} {a:Act} {τ:Sg} {S:Nat->Prop} {δ:Nat->DV} {Fr:Nat->Nat->Prop} {o:Oper} {d:DU} {D:DV} (hn:a.tmps.size=n) (hdef:a.defers=[]) (ha:Rd δ a) (hst:St G w S δ Fr) (hnx:Nx w0 S0 U0 w S (A3 Fr)) (hSlt:∀b,S b->b<w.heap.size)
 (hd:GX G a o (some d)) (hD:Ok w S D (λ_=>False)) (hal:Cd δ D) (hwr:wr d D.er (λs=>(δ s).er)=some τ):Rel G n w0 S0 U0 (a.put o.dst D.Al) w τ:=by
 obtain⟨g1,g2,g3,g4⟩:=hd
 obtain⟨δ',F',hst',her,hann,hown⟩:=hst.wr (D:=D) (Ff:=λ_=>False) g2 g3 (λ_ _=>rfl) (λ_ _ _=>rfl) (λ_ h=>h) (λs x hx=>(hst.ok s).D6 x hx) hD (λ_ _ _ h=>h) hal hwr
 refine⟨S,δ',F',?_,?_,?_,her,hst',hnx.trans (Nx.less λx hx=>(hown x hx).elim id False.elim),hSlt⟩
 . rw[g1];simpa[Act.put]using hn
 . rw[g1];simpa[Act.put]using hdef
 . intro s
   rw[g1,GJ a d.d D.Al g4 s,hann s]
   split
   . rfl
   . exact ha s
def Sr:Rq->Bool
 | .cp _| .PL .. | .ld .. | .Qt _| .Lr .. | .fM .. =>true
 |_=>false
def QQ (P:Program) (G:Gi) (n:Nat) (f:Zt) (ops:Array Oper) (M:List Nat) (i:Nat) (o:Oper) (io:A7):Bool:=
 C6 G n o.dst io.dst&&o.guard.isNone&&io.guard.isNone&&
 (if i=f.i0 then(match io.op,io.dst with| .fl,some d=>d.d==f.d0|_,_=>false)&&(match o.op with
  | .fieldAddr t (.tmp s) fi=>s==f.r&&(match P.underlying t with
   |some (.struct fs)=>match fs[fi]? with
    |some fd=>fd.offset==f.off&&(match EV P fd.type with|some m=>m != 0|none=>false)
    |none=>false
   |_=>false)
  |_=>false)
  else if i=f.i1 then(match io.op,io.dst with| .fl,some d=>d.d==f.d1|_,_=>false)&&(match o.op with
   | .load t (.tmp s)=>s==f.d0&&EV P t==some 1&&Gk P t==some false
   |_=>false)&&(M.getD i 0).testBit f.i0
  else(match io.dst with|some d=>d.d != f.r&&d.d != f.d0&&d.d != f.d1|none=>true)&&
   (if i=f.i2 then(match io.op,o.op,io.dst with
    | .VE r off kb k j,.indexAddr t (.tmp s) x,some _=>r==f.r&&off==f.off&&kb==f.kb&&s==f.d1&&(match P.underlying t with|some (.slice e)=>EV P e==some k|_=>false)&&Bf x j
    |_,_,_=>false)&&(M.getD i 0).testBit f.i1&&(M.getD i 0).testBit f.i0
   else Eo P G n ops o io&&(if i<f.i2 then Sr io.op||(match io.op with| .call _ _ 4=>true|_=>false)else(M.getD i 0).testBit f.i2)))
def WZ (P:Program) (G:Gi) (n:Nat) (f:Zt) (ops:Array Oper) (ios:List A7):Bool:=
 decide (ios.length=ops.size)&&decide (f.d0≠f.r)&&decide (f.d1≠f.r)&&decide (f.d0≠f.d1)&&decide (f.i0≠f.i1)&&decide (f.i0<f.i2)&&decide (f.i1<f.i2)&&decide (f.i2<ops.size)&&IF G ops.toList ios&&
 (List.range ops.size).all λi=>match ops[i]?,ios[i]? with
  |some o,some io=>QQ P G n f ops (PH ops.toList []) i o io
  |_,_=>false
theorem Kz {ops:Array Oper} {Q:Exit->Act->World->Prop} {i:Nat} {o:Oper} {a:Act} {u:Value} {K:Act->World->Prop} (hi:ops[i]? =some o) (hg:o.guard=none) (hrun:(execOp a.eval o).run P w= .ok (.value u) w) (h:K (a.put o.dst u) w):wpOp P ops Q i K a w:=by
 unfold wpOp
 rw[hi]
 simp only[Region.wanted,hg,if_true]
 refine .inl ?_
 unfold Oper.wp
 rw[hrun]
 exact h
theorem Vq {ops:Array Oper} {Q:Exit->Act->World->Prop} {i:Nat} {o:Oper} {a:Act} {u:Value} {K J:Act->World->Prop} (hi:ops[i]? =some o) (hg:o.guard=none) (hrun:(execOp a.eval o).run P w= .ok (.value u) w) (hJ:J (a.put o.dst u) w) (h:wpOp P ops Q i K a w):wpOp P ops Q i (λa' w'=>K a' w'/\J a' w') a w:=by
 unfold wpOp at h ⊢
 rw[hi]at h ⊢
 simp only[Region.wanted,hg,if_true]at h ⊢
 refine h.imp (λh=> ?_) id
 unfold Oper.wp at h ⊢
 rw[hrun]at h ⊢
 exact⟨h,hJ⟩
theorem cK {n:Nat} {w0:World} {S0 U0:Nat->Prop} {a:Act} {σ:Sg} (h:Rel G n w0 S0 U0 a w σ) {o:Oper} {io:A7} (hop:Gn P o.op io.op=true) (hf:Sr io.op=true) {v:AV} (hv:valOf io.op σ=some v):∃u,(execOp a.eval o).run P w= .ok (.value u) w:=by
 obtain⟨S,δ,Fr,hn,hdef,ha,rfl,hst,hnx,hSlt⟩:=h
 have go:Gives P w S δ a o v->∃u,(execOp a.eval o).run P w= .ok (.value u) w:=λ⟨u,h,_⟩=>⟨u,h⟩
 apply go
 obtain⟨dst,iop,g⟩:=io
 simp only at hop hf hv
 cases iop with
 |cp y=>cases ho:o.op<;>rw[ho]at hop<;>first| (simp[Gn]at hop;done)|exact NM hst ha (.inl ho) hop hv|exact NM hst ha (.inr ho) hop hv
 |PL off y=>
  cases ho:o.op<;>rw[ho]at hop<;>first| (simp[Gn]at hop;done)|skip
  rename_i t x fi
  simp only[Gn,Bool.and_eq_true]at hop
  obtain⟨h1,h2⟩:=hop
  split at h1
  . rename_i fs hu
    split at h1
    . rename_i fd hff
      simp only[Bool.and_eq_true,beq_iff_eq]at h1
      obtain⟨g1,g2⟩:=h1
      split at g2
      . rename_i m hm
        simp only[bne_iff_ne]at g2
        exact Sv hst ha ho hu hff g1 hm g2 h2 hv
      . cases g2
    . cases h1
  . cases h1
 |ld gg m y=>
  cases ho:o.op<;>rw[ho]at hop<;>first| (simp[Gn]at hop;done)|skip
  simp only[Gn,Bool.and_eq_true,Bool.or_eq_true,beq_iff_eq]at hop
  exact NN hst ha ho hop.1.1.1 hop.1.1.2 hop.1.2 hop.2 hv
 |Qt y=>
  cases ho:o.op<;>rw[ho]at hop<;>first| (simp[Gn]at hop;done)|skip
  simp only[Gn,Bool.and_eq_true,beq_iff_eq]at hop
  exact NN hst ha ho hop.1.1 hop.1.2 (.inr rfl) hop.2 (dG hv)
 |Lr k y j=>
  cases ho:o.op<;>rw[ho]at hop<;>first| (simp[Gn]at hop;done)|skip
  simp only[Gn,Bool.and_eq_true]at hop
  obtain⟨⟨h1,h2⟩,h3⟩:=hop
  split at h1
  . rename_i e hu
    exact Sw hst ha ho hu (OY h1) h2 h3 hv
  . cases h1
 |fM f ys=>
  cases ho:o.op<;>rw[ho]at hop<;>first| (simp[Gn]at hop;done)|skip
  rename_i fn first caps
  cases fn with
  |func f'=>
   simp only[Gn,Bool.and_eq_true,beq_iff_eq]at hop
   obtain⟨⟨rfl,h1⟩,h2⟩:=hop
   exact Sx hst ha ho (by simpa using h1) h2 hv
  |_=>simp[Gn]at hop
 |_=>cases hf
theorem U5 {n:Nat} {w0:World} {S0 U0:Nat->Prop} (hG:Sa w0 S0 U0) {ops:Array Oper} {K:Sg->Prop} (Q:Exit->Act->World->Prop) (hQ:∀a w σ,Rel G n w0 S0 U0 a w σ->K σ->Q .normal a w) {ios:List A7} {a:Act} {w:World} {σ:Sg}
 (h:Rel G n w0 S0 U0 a w σ) (hc:IG P G n ops ops.toList ios=true) (hd:IF G ops.toList ios=true) (hr:KH P G ios K σ):wpAny P .any ops Q ops.size (Array.replicate ops.size false) a w:=by
 obtain⟨hlen,hops⟩:=Yi _ hc
 obtain⟨q,hq0,hstep,hK⟩:=MG ios hr
 refine NG Q h (by rw[← hlen];simp) (λi o io h1 h2=>QR (hops i o io h1 h2)) hd q hq0 hstep hK (λ_ _ _=>True) (λ_ a w σ _ _ h k=>hQ a w σ h k) trivial ?_
 intro L i o io a w σ τ' h1 h2 _ _ _ _ _ hrel haop _
 exact wpOp_mono (λa' w' h=>⟨h,trivial⟩) (F9 hG hrel (hops i o io (by simpa using h1) h2) haop Q h1)
end Go.Abs
namespace Go.Abs
variable {G:Gi} {P:Program} {w:World}
def FJ (f:Zt) (b:Nat) (h:Value) (L:Nat->Bool) (a:Act) (w:World):Prop:=
 L f.i2=false->a.tmps.getD f.r undef= .pointer (some ⟨b,0,none⟩)/\w.cell? ⟨b,f.off,none⟩=some h/\(L f.i0=true->a.tmps.getD f.d0 undef= .pointer (some ⟨b,f.off,none⟩))/\(L f.i1=true->a.tmps.getD f.d1 undef=h)
theorem VF {kb off:Nat} {x:AV} (h:Tt kb off x=true):∃row,x= .own true kb [row]/\off<row.length:=by
 unfold Tt at h
 split at h
 . rename_i k row
   simp only[Bool.and_eq_true,beq_iff_eq,decide_eq_true_eq]at h
   exact⟨row,by rw[h.1],h.2⟩
 . cases h
theorem bQ {S:Nat->Prop} {δ:Nat->DV} {Fr:Nat->Nat->Prop} (h:St G w S δ Fr) {r kb:Nat} {row:List AV} (hr:(δ r).er= .own true kb [row]):∃b rowD,δ r= .own (.pointer (some ⟨b,0,none⟩)) true kb [rowD]/\rowD.map DV.er=row/\
 (∀(j:Nat) d,rowD[j]? =some d->w.cell? ⟨b,j,none⟩=some d.Al/\∃F,Ok w S d F):=by
 have hok:=h.ok r
 cases hδ:δ r with
 |lf x v=>rw[hδ]at hr hok;simp at hr;subst hr;cases hok with|lf _ _ _ hl _=>simp[FG]at hl
 |agg=>rw[hδ]at hr;simp at hr
 |A9=>rw[hδ]at hr;simp at hr
 |own hh bx k0 rowsD=>
  rw[hδ]at hr hok
  simp only[DL,AV.own.injEq]at hr
  obtain⟨rfl,rfl,hrow⟩:=hr
  obtain⟨rowD,rfl,hrd⟩:=List.map_eq_singleton_iff.1 hrow
  cases hok with
  |own _ _ _ b c arr E Fs _ hb hk hcap hSb hv hrr hd hval hbF hF=>
   refine⟨b,rowD,by simp[Gs],hrd,λj d hj=>⟨?_,Fs 0 j,hrr 0 j rowD d rfl hj⟩⟩
   have:=hv 0 j rowD d rfl hj
   simp only[Nat.zero_mul,Nat.zero_add]at this
   simp[World.cell?,hb,this]
theorem Yr {n:Nat} {w0:World} {S0 U0:Nat->Prop} (hG:Sa w0 S0 U0) {ops:Array Oper} {K:Sg->Prop} (Q:Exit->Act->World->Prop) (hQ:∀a w σ,Rel G n w0 S0 U0 a w σ->K σ->Q .normal a w) {ios:List A7} {a:Act} {w:World} {σ:Sg} {f:Zt}
 (h:Rel G n w0 S0 U0 a w σ) (hc:WZ P G n f ops ios=true) (q:Nat->Sg) (hq0:q 0=σ) (hstep:∀i io,ios[i]? =some io->HU P G io (· =q (i+1)) (q i)) (hK:K (q ios.length)) (hbx:∀m,m≤f.i2->Tt f.kb f.off (q m f.r)=true):
 wpAny P .any ops Q ops.size (Array.replicate ops.size false) a w:=by
 simp only[WZ,Bool.and_eq_true,decide_eq_true_eq,List.all_eq_true]at hc
 obtain⟨⟨⟨⟨⟨⟨⟨⟨⟨hN,n1⟩,n2⟩,n3⟩,n4⟩,n5⟩,n6⟩,n7⟩,hdraw⟩,hall⟩:=hc
 have hfl:∀i o io,ops[i]? =some o->ios[i]? =some io->QQ P G n f ops (PH ops.toList []) i o io=true:=by
  intro i o io h1 h2
  have hi:i<ops.size:=(Array.getElem?_eq_some_iff.1 h1).1
  have:=hall i (by simpa using hi)
  rw[h1,h2]at this
  exact this
 -- the beginning
 obtain⟨b7,hL,hJ0⟩:∃b7 hL,FJ f b7 hL (λj=>(Array.replicate ops.size false).getD j true) a w:=by
  obtain⟨S,δ,Fr,hn,hdef,ha,rfl,hst,hnx,hSlt⟩:=h
  obtain⟨row,hr,hlt⟩:=VF (hbx 0 (Nat.zero_le _))
  rw[hq0]at hr
  obtain⟨b,rowD,h1,h2,h3⟩:=bQ hst hr
  have hl:f.off<rowD.length:=by rw[← h2]at hlt;simpa using hlt
  refine⟨b,(rowD[f.off]).Al,λ_=>⟨?_,(h3 f.off _ (List.getElem?_eq_getElem hl)).1,?_,?_⟩⟩
  . rw[ha f.r,h1];simp
  . intro hx;simp[Array.getD_eq_getD_getElem?,show f.i0<ops.size by omega]at hx
  . intro hx;simp[Array.getD_eq_getD_getElem?,show f.i1<ops.size by omega]at hx
 refine NG Q h hN ?_ hdraw q hq0 hstep hK (FJ f b7 hL) (λ_ a w σ _ _ h k=>hQ a w σ h k) hJ0 ?_
 . intro i o io h1 h2 d hd
   have:=hfl i o io (by simpa using h1) h2
   simp only[QQ,Bool.and_eq_true]at this
   have h3:=this.1.1.1
   rw[hd]at h3
   cases ho:o.dst with
   |none=>rw[ho]at h3;simp[C6]at h3
   |some t=>rw[ho]at h3;simp only[C6,Bool.and_eq_true,beq_iff_eq]at h3;exact h3.1.2
 . intro L i o io a w σ τ' h1 h2 hiN hLi hahead hdown hJ hrel haop hτs
   have hck:=hfl i o io h1 h2
   simp only[QQ,Bool.and_eq_true,Option.isNone_iff_eq_none]at hck
   obtain⟨⟨⟨hdst,hgo⟩,hgi⟩,hck⟩:=hck
   obtain⟨dst,iop,g⟩:=io
   simp only at hgi
   subst hgi
   simp only at hdst hck
   by_cases e0:i=f.i0
   . -- the address
     subst e0
     rw[if_pos rfl]at hck
     simp only[Bool.and_eq_true]at hck
     obtain⟨k1,k2⟩:=hck
     split at k1
     . rename_i d
       simp only[beq_iff_eq]at k1
       split at k2
       . rename_i t s fi ho
         simp only[Bool.and_eq_true,beq_iff_eq]at k2
         obtain⟨rfl,k2⟩:=k2
         split at k2
         . rename_i fs hu
           split at k2
           . rename_i fd hff
             simp only[Bool.and_eq_true,beq_iff_eq]at k2
             obtain⟨g1,g2⟩:=k2
             split at g2
             . rename_i m hm
               simp only[bne_iff_ne]at g2
               obtain⟨S,δ,Fr,hn,hdef,ha,rfl,hst,hnx,hSlt⟩:=hrel
               have hd:=DH (a:=a) hdst hn
               have hput:∀u s,(a.put o.dst u).tmps.getD s undef=if s=d.d then u else a.tmps.getD s undef:=λu s=>by rw[hd.1,GJ a d.d u hd.2.2.2 s]
               have hwr:wr d (DV.lf .dead (.pointer (some ⟨b7,f.off,none⟩))).er (λs=>(δ s).er)=some τ':=by
                simp only[HU,C5,ES,valOf]at haop
                split at haop
                . rename_i υ hυ;rw[Dj,hυ,haop]
                . exact haop.elim
               by_cases hL2:L f.i2=true
               . exact absurd (hdown f.i2 n7 hL2 f.i0 (by
                  obtain⟨o2,io2,q1,q2⟩:∃o2 io2,ops[f.i2]? =some o2/\ios[f.i2]? =some io2:=⟨ops[f.i2],ios[f.i2]'(by omega),by simp[n7],by simp[hN,n7]⟩
                  have:=hfl f.i2 o2 io2 q1 q2
                  simp only[QQ,Bool.and_eq_true]at this
                  rw[if_neg (by omega),if_neg (by omega)]at this
                  simp only[if_true,Bool.and_eq_true]at this
                  exact this.2.2.2)) (by rw[hLi];decide)
               . have hL2':L f.i2=false:=by simpa using hL2
                 obtain⟨j1,j2,j3,j4⟩:=hJ hL2'
                 refine Kz (u:=.pointer (some ⟨b7,f.off,none⟩)) h1 hgo ?_ ⟨⟨τ',N0 (D:=.lf .dead (.pointer (some ⟨b7,f.off,none⟩))) hn hdef ha hst hnx hSlt hd (.lf _ _ _ trivial (λ_ h=>h)) (Cd.dead _) hwr,rfl⟩,λhx=> ?_⟩
                 . have he:a.eval (.tmp f.r)= .pointer (some ⟨b7,0,none⟩):=by simpa[Act.eval]using j1
                   simp only[execOp,ho,he,Sem.run_bind,Ii hu hff hm g2,Result.andThen_ok,Sem.run_pure,g1,Nat.zero_add]
                 . simp only[Hk]
                   refine⟨by rw[hput,if_neg (by rw[k1];exact Ne.symm n1)];exact j1,j2,λ_=>by rw[hput,if_pos k1.symm],λhx1=> ?_⟩
                   rw[hput,if_neg (by rw[k1];exact Ne.symm n3)]
                   exact j4 (by simpa[Ne.symm n4]using hx1)
             . cases g2
           . cases k2
         . cases k2
       . cases k2
     . cases k1
   rw[if_neg e0]at hck
   by_cases e1:i=f.i1
   . -- the load
     subst e1
     rw[if_pos rfl]at hck
     simp only[Bool.and_eq_true]at hck
     obtain⟨⟨k1,k2⟩,k3⟩:=hck
     split at k1
     . rename_i d
       simp only[beq_iff_eq]at k1
       split at k2
       . rename_i t s ho
         simp only[Bool.and_eq_true,beq_iff_eq]at k2
         obtain⟨⟨rfl,k2⟩,k4⟩:=k2
         obtain⟨S,δ,Fr,hn,hdef,ha,rfl,hst,hnx,hSlt⟩:=hrel
         have hd:=DH (a:=a) hdst hn
         have hput:∀u s,(a.put o.dst u).tmps.getD s undef=if s=d.d then u else a.tmps.getD s undef:=λu s=>by rw[hd.1,GJ a d.d u hd.2.2.2 s]
         have hwr:wr d (DV.lf .dead hL).er (λs=>(δ s).er)=some τ':=by
          simp only[HU,C5,ES,valOf]at haop
          split at haop
          . rename_i υ hυ;rw[Dj,hυ,haop]
          . exact haop.elim
         by_cases hL2:L f.i2=true
         . exact absurd (hdown f.i2 n7 hL2 f.i1 (by
            obtain⟨o2,io2,q1,q2⟩:∃o2 io2,ops[f.i2]? =some o2/\ios[f.i2]? =some io2:=⟨ops[f.i2],ios[f.i2]'(by omega),by simp[n7],by simp[hN,n7]⟩
            have:=hfl f.i2 o2 io2 q1 q2
            simp only[QQ,Bool.and_eq_true]at this
            rw[if_neg (by omega),if_neg (by omega)]at this
            simp only[if_true,Bool.and_eq_true]at this
            exact this.2.2.1.2)) (by rw[hLi];decide)
         . have hL2':L f.i2=false:=by simpa using hL2
           obtain⟨j1,j2,j3,j4⟩:=hJ hL2'
           have j3':=j3 (hahead f.i0 k3)
           refine Kz (u:=hL) h1 hgo ?_ ⟨⟨τ',N0 (D:=.lf .dead hL) hn hdef ha hst hnx hSlt hd (.lf _ _ _ trivial (λ_ h=>h)) (Cd.dead _) hwr,rfl⟩,λhx=> ?_⟩
           . have he:a.eval (.tmp f.d0)= .pointer (some ⟨b7,f.off,none⟩):=by simpa[Act.eval]using j3'
             have:=Hi (P:=P) (w:=w) (b:=b7) (off:=f.off) (vs:=[hL]) k2 k4 (.inr rfl) rfl (λj v hv=>by
              cases j with
              |zero=>simp only[List.getElem?_cons_zero,Option.some.injEq]at hv;subst hv;exact j2
              |succ j=>simp at hv)
             simp only[execOp,ho,he,Instr.loadAt,Instr.sureAddr,Sem.run_bind,Sem.run_pure,Result.andThen_ok,this]
             rfl
           . simp only[Hk]
             refine⟨by rw[hput,if_neg (by rw[k1];exact Ne.symm n2)];exact j1,j2,λhx0=> ?_,λ_=>by rw[hput,if_pos k1.symm]⟩
             rw[hput,if_neg (by rw[k1];exact n3)]
             exact j3'
       . cases k2
     . cases k1
   rw[if_neg e1]at hck
   simp only[Bool.and_eq_true]at hck
   obtain⟨hdd,hck⟩:=hck
   by_cases e2:i=f.i2
   . -- the index
     subst e2
     rw[if_pos rfl]at hck
     simp only[Bool.and_eq_true]at hck
     obtain⟨⟨k1,k2⟩,k3⟩:=hck
     split at k1
     . rename_i r off kb k j t s x d ho
       simp only[Bool.and_eq_true,beq_iff_eq]at k1
       obtain⟨⟨⟨⟨⟨rfl,rfl⟩,rfl⟩,rfl⟩,k4⟩,k5⟩:=k1
       split at k4
       . rename_i e hu
         have hk:=OY k4
         obtain⟨S,δ,Fr,hn,hdef,ha,rfl,hst,hnx,hSlt⟩:=hrel
         have hd:=DH (a:=a) hdst hn
         obtain⟨j1,j2,j3,j4⟩:=hJ hLi
         have j4':=j4 (hahead f.i1 k2)
         obtain⟨hj,hej⟩:=Aa k5 ha
         simp only[HU,C5,ES]at haop
         cases hv:valOf (.VE f.r f.off f.kb k j) (λs=>(δ s).er)with
         |none=>rw[hv]at haop;exact haop.elim
         |some v=>
          rw[hv]at haop
          simp only at haop
          have hwv:wr d v (λs=>(δ s).er)=some τ':=by
           split at haop
           . rename_i υ hυ;rw[hυ,haop]
           . exact haop.elim
          simp only[valOf]at hv
          split at hv
          . rename_i kb' row n0 hr hn0
            split at hv
            . rename_i k' rows hcell
              split at hv
              . rename_i hcond
                obtain⟨rfl,rfl,h0,hlt⟩:=hcond
                obtain rfl:=Option.some.inj hv
                obtain⟨b,rowD,g1,g2,g3⟩:=bQ hst hr
                have hb:b=b7:=by
                 have:=ha f.r
                 rw[j1,g1]at this
                 simpa using this.symm
                subst hb
                rw[← g2,List.getElem?_map,Option.map_eq_some_iff]at hcell
                obtain⟨D,hD,hDe⟩:=hcell
                obtain⟨g4,FD,g5⟩:=g3 f.off D hD
                rw[j2,Option.some.injEq]at g4
                obtain⟨kk,hn0⟩:=JH hn0
                obtain⟨ei,_⟩:=hst.De hj hn0
                have hsub:Ai (δ f.r) [(0,f.off,f.kb)]=some D:=by rw[g1];simp[Ai,hD]
                have he1:a.eval (.tmp f.d1)=hL:=by simpa[Act.eval]using j4'
                cases hDD:D with
                |lf x1 v1=>rw[hDD]at hDe g5;simp at hDe;subst hDe;cases g5 with|lf _ _ _ hl _=>simp[FG]at hl
                |agg=>rw[hDD]at hDe;simp at hDe
                |A9=>rw[hDD]at hDe;simp at hDe
                |own hh bx k0 rowsD=>
                 rw[hDD]at hDe g5 g4 hsub
                 simp only[DL,AV.own.injEq]at hDe
                 obtain⟨rfl,rfl,hrows⟩:=hDe
                 simp only[Hs]at g4
                 have hlen:rowsD.length=rows.length:=by rw[← hrows];simp
                 cases g5 with
                 |nil=>simp at hlen;rw[← hlen]at hlt;simp at hlt;omega
                 |own _ _ _ bb c arr E Fs _ hb' hk' hcap hSb hv' hr' hdd' hval hbF hF=>
                  have hLf:Lf w S δ (.HX f.r [(0,f.off,f.kb)] n0.toNat 0 k0) (.pointer (some ⟨bb,n0.toNat*k0+0,none⟩)):=Lf.HX hsub (by simp)
                  obtain⟨D2,q1,q2,q3,q4⟩:=hLf
                  refine Kz (u:=D2.Al) h1 hgo ?_ ⟨⟨τ',N0 (D:=D2) hn hdef ha hst hnx hSlt hd q3 q4 (by rw[q1];exact hwv),rfl⟩,λhx=> ?_⟩
                  . rw[q2]
                    simp only[execOp,ho,he1,g4,hej,ei,Gs,Sem.run_bind,Bool.false_eq_true,if_false,run_indexAt_slice hu hk h0 (show n0<(rowsD.length:Nat)by rw[hlen];exact hlt),Result.andThen_ok,Sem.run_pure]
                    simp
                  . simp at hx
              . cases hv
            . cases hv
          . cases hv
       . cases k4
     . cases k1
   rw[if_neg e2,Bool.and_eq_true]at hck
   obtain⟨hop,hkind⟩:=hck
   have hJn:∀(u:Value) w',(L f.i2=false->w'.cell? ⟨b7,f.off,none⟩=w.cell? ⟨b7,f.off,none⟩)->FJ f b7 hL (λj=>(L j||j==i)) (a.put o.dst u) w':=by
    intro u w' hw' hx
    have hx2:L f.i2=false:=by simp only[Bool.or_eq_false_iff]at hx;exact hx.1
    obtain⟨j1,j2,j3,j4⟩:=hJ hx2
    have hput:∀s,s=f.r∨s=f.d0∨s=f.d1->(a.put o.dst u).tmps.getD s undef=a.tmps.getD s undef:=by
     intro s hs
     obtain⟨S,δ,Fr,hn,_⟩:=hrel
     cases dst with
     |none=>
      have h0:o.dst=none:=DH (a:=a) hdst hn
      rw[h0];rfl
     |some d=>
      have hd:=DH (a:=a) hdst hn
      rw[hd.1,GJ a d.d u hd.2.2.2 s,if_neg]
      simp only[Bool.and_eq_true,bne_iff_ne]at hdd
      rintro rfl
      rcases hs with hs|hs|hs
      . exact hdd.1.1 hs
      . exact hdd.1.2 hs
      . exact hdd.2 hs
    refine⟨by rw[hput _ (.inl rfl)];exact j1,by rw[hw' hx2];exact j2,λh0=> ?_,λh0=> ?_⟩
    . rw[hput _ (.inr (.inl rfl))];exact j3 (by simpa[Ne.symm e0]using h0)
    . rw[hput _ (.inr (.inr rfl))];exact j4 (by simpa[Ne.symm e1]using h0)
   by_cases hlt:i<f.i2
   . rw[if_pos hlt]at hkind
     simp only[Bool.or_eq_true]at hkind
     rcases hkind with hkind|hkind
     . -- a value
       have hop':Gn P o.op iop=true:=by
        simp only[Eo,Bool.and_eq_true]at hop
        have:=hop.2
        cases iop<;>first|exact this|cases hkind
       have hv:∃v,valOf iop σ=some v:=by
        simp only[HU,C5]at haop
        cases iop<;>first| (cases hkind;done)|skip
        all_goals
         cases dst with
         |none=>simp[ES]at haop
         |some d=>
          simp only[ES]at haop
          split at haop
          . rename_i υ hυ
            split at hυ
            . exact⟨_,by assumption⟩
            . cases hυ
          . exact haop.elim
       obtain⟨v,hv⟩:=hv
       obtain⟨u,hu⟩:=cK (io:=⟨dst,iop,none⟩) hrel hop' hkind hv
       exact Vq h1 hgo hu (hJn u w λ_=>rfl) (F9 hG hrel hop haop Q h1)
     . -- the call
       split at hkind
       . rename_i fn args
         have hcall:Hu P o.op fn args 4=true:=by
          simp only[Eo,Bool.and_eq_true]at hop;exact hop.2
         by_cases hL2:L f.i2=true
         . refine wpOp_mono ?_ (F9 hG hrel hop haop Q h1)
           intro a' w' hr
           exact⟨hr,λhx=>by simp[hL2]at hx⟩
         have hL2':L f.i2=false:=by simpa using hL2
         have hLf:∀j,j<ops.size->(L j||j==i)=true->j<f.i2:=by
          intro j hj hx
          simp only[Bool.or_eq_true,beq_iff_eq]at hx
          rcases hx with hx|rfl
          . rcases Nat.lt_trichotomy j f.i2 with h|h|h
            . exact h
            . subst h;exact absurd hx hL2
            . exfalso
              refine hL2 (hdown j hj hx f.i2 ?_)
              obtain⟨o2,io2,q1,q2⟩:∃o2 io2,ops[j]? =some o2/\ios[j]? =some io2:=⟨ops[j],ios[j]'(by omega),by simp[hj],by simp[hN,hj]⟩
              have:=hfl j o2 io2 q1 q2
              simp only[QQ,Bool.and_eq_true]at this
              rw[if_neg (by omega),if_neg (by omega),if_neg (by omega)]at this
              simp only[Bool.and_eq_true]at this
              have:=this.2.2.2
              rw[if_neg (by omega)]at this
              exact this
          . exact hlt
         obtain⟨row,hτr,_⟩:∃row,τ' f.r= .own true f.kb [row]/\f.off<row.length:=by
          rw[hτs f.r]
          exact VF (hbx _ (Ow _ hLf))
         obtain⟨S,δ,Fr,hn,_⟩:=id hrel
         have hd:GX G a o dst:=DH (a:=a) hdst hn
         unfold wpOp
         rw[h1]
         simp only[Region.wanted,hgo,if_true]
         refine .inl (Oper.wp_mono ?_ (Us (io:=⟨dst,.call fn args 4,none⟩) hG hrel rfl hcall hd (K:=(· =τ')) haop (rr:=f.r) (kb:=f.kb) ?_ Q))
         . rintro a' w' ⟨hr,hkeep,u,rfl⟩
           refine⟨hr,hJn u w' λhx=> ?_⟩
           obtain⟨j1,_⟩:=hJ hx
           simp only[World.cell?,hkeep b7 j1]
         . intro aZ9 τ1 hca
           simp only[HU,C5]at haop
           rw[hca]at haop
           obtain⟨res,_,hres⟩:=haop
           split at hres
           . rename_i v hv
             cases dst with
             |none=>simp only[CJ]at hres;rw[hres];exact⟨_,hτr⟩
             |some d=>
              simp only[CJ]at hres
              split at hres
              . rename_i υ hυ
                subst hres
                unfold wr at hυ
                split at hυ
                . obtain rfl:=Option.some.inj hυ
                  simp only[Bool.and_eq_true,bne_iff_ne]at hdd
                  rw[BK _ _ (Ne.symm hdd.1.1),LD]at hτr
                  split at hτr
                  . cases hx:τ1 f.r with
                    |own b0 k0 rows0=>rw[hx]at hτr;simp only[Cb]at hτr;cases hτr;exact⟨_,rfl⟩
                    |_=>rw[hx]at hτr;simp only[Cb]at hτr;first| (split at hτr<;>cases hτr;done)|cases hτr
                  . exact⟨_,hτr⟩
                . cases hυ
              . exact hres.elim
           . exact hres.elim
       . cases hkind
   . -- behind the index
     rw[if_neg hlt]at hkind
     have hL2:L f.i2=true:=hahead f.i2 hkind
     refine wpOp_mono ?_ (F9 hG hrel hop haop Q h1)
     intro a' w' hr
     exact⟨hr,λhx=>by simp[hL2]at hx⟩
theorem Uh {f:Zt} (aZ9:List A7):∀{σ:Sg} {K:Sg->Prop},Lp P G f aZ9 K σ->∃q:Nat->Sg,q 0=σ/\(∀i io,aZ9[i]? =some io->HU P G io (· =q (i+1)) (q i))/\(∀i,i<aZ9.length->Tt f.kb f.off (q i f.r)=true)/\K (q aZ9.length):=by
 induction aZ9 with
 |nil=>intro σ K h;exact⟨λ_=>σ,rfl,λi io hi=>by simp at hi,λi hi=>by simp at hi,h⟩
 |cons o os ih=>
  intro σ K h
  obtain⟨hb,h⟩:=h
  obtain⟨τ,h1,h2⟩:=KG.1 h
  obtain⟨q,q0,q1,q2,q3⟩:=ih h2
  refine⟨λi=>match i with|0=>σ|i+1=>q i,rfl,λi io hi=> ?_,λi hi=> ?_,by simpa using q3⟩
  . cases i with
    |zero=>
     simp only[List.getElem?_cons_zero,Option.some.injEq]at hi
     subst hi
     simp only[q0];exact h1
    |succ i=>exact q1 i io (by simpa using hi)
  . cases i with
    |zero=>exact hb
    |succ i=>exact q2 i (by simpa using hi)
theorem rS {f:Zt} {aZ9 bs:List A7} {K:Sg->Prop} {σ:Sg} (h:Lp P G f aZ9 (KH P G bs K) σ):∃q:Nat->Sg,q 0=σ/\(∀i io,(aZ9++bs)[i]? =some io->HU P G io (· =q (i+1)) (q i))/\(∀i,i<aZ9.length->Tt f.kb f.off (q i f.r)=true)/\K (q (aZ9++bs).length):=by
 obtain⟨q,q0,q1,q2,q3⟩:=Uh aZ9 h
 obtain⟨p,p0,p1,p2⟩:=MG bs q3
 refine⟨λi=>if i<aZ9.length then q i else p (i-aZ9.length),?_,λi io hi=> ?_,λi hi=> ?_,?_⟩
 . simp only;split
   . exact q0
   . rename_i hx
     have:aZ9.length=0:=by omega
     rw[this,Nat.sub_zero,p0,this];exact q0
 . by_cases h1:i<aZ9.length
   . rw[List.getElem?_append_left h1]at hi
     have:=q1 i io hi
     simp only[h1,if_true]
     by_cases h2:i+1<aZ9.length
     . simp only[h2,if_true];exact this
     . have e:i+1=aZ9.length:=by omega
       simp only[h2,if_false]
       rw[e,Nat.sub_self,p0,← e];exact this
   . rw[List.getElem?_append_right (by omega)]at hi
     have:=p1 _ io hi
     simp only[h1,if_false,show¬i+1<aZ9.length by omega]
     rw[show i+1-aZ9.length=i-aZ9.length+1 by omega];exact this
 . simp only[hi,if_true];exact q2 i hi
 . simp only[List.length_append,show¬aZ9.length+bs.length<aZ9.length by omega,if_false,Nat.add_sub_cancel_left];exact p2
end Go.Abs
namespace Go.Abs
variable {G:Gi} {P:Program} {w:World}
theorem TY {ops:Array Oper} {Q:Exit->Act->World->Prop} {i:Nat} {o:Oper} {a:Act} {K:Act->World->Prop} {J:Array Value->Prop} (hi:ops[i]? =some o) (hJ:∀(b:Act) v,b.tmps=a.tmps->J (b.put o.dst v).tmps) (h:wpOp P ops Q i K a w):
 wpOp P ops Q i (λa' w'=>K a' w'/\J a'.tmps) a w:=by
 unfold wpOp at h ⊢
 rw[hi]at h ⊢
 simp only at h ⊢
 by_cases hw:Region.wanted o (yielded ops a.tmps)=true
 . simp only[hw,if_true]at h ⊢
   refine h.imp (λh=> ?_) id
   unfold Oper.wp at*
   generalize (execOp a.eval o).run P w=r at*
   cases r with
   |ok x w'=>
    cases x with
    |value v=>exact⟨h,hJ _ _ rfl⟩
    |skip=>exact⟨h,hJ _ _ rfl⟩
    |defer d=>exact⟨h,hJ _ _ rfl⟩
    |enter f args=>
     simp only[Oper.upon]at h ⊢
     refine Calls.mono h λe w'' he=> ?_
     cases e with
     |returned v=>exact⟨he,hJ _ _ rfl⟩
     |panicked chain=>exact he
     |outgrown=>exact he
    |row row args=>
     simp only[Oper.upon]at h ⊢
     exact Rows.mono h λv w'' he=>⟨he,hJ _ _ rfl⟩
    |_=>simp only[Oper.upon]at h
   |halt x w'=>
    cases x with
    |panic v=>exact h
    |_=>simp only[Oper.upon]at h
 . simp only[hw]at h ⊢
   exact⟨h,hJ _ _ rfl⟩
def sK (d r:Nat):Operand->Operand
 | .tmp s=>if s=d then .tmp r else .tmp s
 |x=>x
def XG (d r:Nat):Op->Op
 | .indexAddr t x y=>.indexAddr t (sK d r x) y
 | .nilCheck x=>.nilCheck (sK d r x)
 | .extract x k=>.extract (sK d r x) k
 | .call ⟨.value f,xs,ts⟩=>.call ⟨.value f,xs.map (sK d r),ts⟩
 |o=>o
theorem N4 {a:Act} {d r:Nat} (h:a.tmps.getD d undef=a.tmps.getD r undef) (x:Operand):a.eval (sK d r x)=a.eval x:=by
 cases x with
 |tmp s=>
  simp only[sK]
  split
  . rename_i e;subst e;simp only[Act.eval];exact h.symm
  . rfl
 |_=>rfl
theorem ZZ {a:Act} {d r:Nat} (h:a.tmps.getD d undef=a.tmps.getD r undef) (o:Oper):execOp a.eval {o with op:=XG d r o.op}=execOp a.eval o:=by
 have e:a.eval ∘ sK d r=a.eval:=funext λx=>N4 h x
 obtain⟨dst,op,ty,ps,af,gd⟩:=o
 cases op with
 |indexAddr t x y=>simp only[execOp,XG,N4 h]
 |nilCheck x=>simp only[execOp,XG,N4 h]
 |extract x k=>simp only[execOp,XG,N4 h]
 |call c=>
  obtain⟨cl,xs,ts⟩:=c
  cases cl with
  |value f=>simp only[execOp,XG,resolve,Array.map_map,e]
  |_=>rfl
 |_=>rfl
def Ov (ios:List A7) (i1:Nat):Option Nat:=match ios[i1]? with
 |some ⟨_,.jA _ k,_⟩=>some k
 |_=>none
def rH (o:Option Nat) (v:Value):Prop:=match o with
 |some k=>∃vs:Array Value,v= .tuple vs/\k<vs.size
 |none=>True
def Xg (P:Program) (G:Gi) (n:Nat) (fs:List (Nat×Nat×Nat×Nat)) (ops:Array Oper) (ios:List A7) (M:List Nat) (i:Nat) (o:Oper) (io:A7):Bool:=
 C6 G n o.dst io.dst&&
 (match fs.find? (·.2.1==i)with
  |some (r,_,_,d1)=>o.guard.isNone&&io.guard.isNone&&(match io.op,io.dst with| .fl,some d=>d.d==d1| .jA (.t x) _,some d=>d.d==d1&&x==r|_,_=>false)&&(match o.op with| .move (.tmp s)=>s==r|_=>false)&&
   fs.all λf=>f.1 != d1&&(if f.2.1==i then f.1==r&&f.2.2.2==d1 else f.2.2.2 != d1)
  |none=>(match io.dst with|some d=>fs.all λf=>(f.1 != d.d||(M.getD f.2.1 0).testBit i)&&f.2.2.2 != d.d|none=>true)&&
   (match io.op with
   | .fl=>o.guard.isNone&&io.guard.isNone&&io.dst.isSome&&(match o.op with
    | .extract (.tmp t) k=>fs.any λf=>f.2.2.2==t&&(M.getD i 0).testBit f.2.1&&(match Ov ios f.2.1 with|some m=>decide (k≤m)|none=>false)
    |_=>false)
   |_=>match fs.find? (·.2.2.1==i)with
    |some (r,i1,_,d1)=>o.guard.isNone&&(M.getD i 0).testBit i1&&Eo P G n (ops.setIfInBounds i {o with op:=XG d1 r o.op}) {o with op:=XG d1 r o.op} io
    |none=>Eo P G n ops o io))
def WY (P:Program) (G:Gi) (n:Nat) (fs:List (Nat×Nat×Nat×Nat)) (ops:Array Oper) (ios:List A7):Bool:=
 decide (ios.length=ops.size)&&(fs.all λf=>decide (f.2.1<ops.size))&&IF G ops.toList ios&&
 (List.range ops.size).all λi=>match ops[i]?,ios[i]? with
  |some o,some io=>Xg P G n fs ops ios (PH ops.toList []) i o io
  |_,_=>false
theorem sV {δ:Nat->DV} {Fr:Nat->Nat->Prop} {S:Nat->Prop} (h:St G w S δ Fr) {r k:Nat} {cs:List AV} (hr:(δ r).er= .A9 cs) (hk:k<cs.length):∃vs:Array Value,(δ r).Al= .tuple vs/\k<vs.size:=by
 have hl:=(h.ok r).Hw
 cases hδ:δ r with
 |lf a v=>rw[hδ]at hl hr;cases hl with|lf _ _ hl=>simp only[Dj]at hr;subst hr;simp[CB]at hl
 |own=>rw[hδ]at hr;simp at hr
 |agg=>rw[hδ]at hr;simp at hr
 |A9 ds=>rw[hδ]at hr;simp only[Gh,AV.A9.injEq]at hr;subst hr;exact⟨_,Ht _,by simpa using hk⟩
theorem Yq {n:Nat} {w0:World} {S0 U0:Nat->Prop} (hG:Sa w0 S0 U0) {ops:Array Oper} {K:Sg->Prop} (Q:Exit->Act->World->Prop) (hQ:∀a w σ,Rel G n w0 S0 U0 a w σ->K σ->Q .normal a w) {ios:List A7} {a:Act} {w:World} {σ:Sg} {fs:List (Nat×Nat×Nat×Nat)}
 (h:Rel G n w0 S0 U0 a w σ) (hc:WY P G n fs ops ios=true) (hrun:KH P G ios K σ):
 wpAny P .any ops Q ops.size (Array.replicate ops.size false) a w:=by
 simp only[WY,Bool.and_eq_true,decide_eq_true_eq]at hc
 obtain⟨⟨⟨hN,n2⟩,hdraw⟩,hall⟩:=hc
 rw[List.all_eq_true]at n2 hall
 obtain⟨q,hq0,hstep,hK⟩:=MG ios hrun
 have hfl:∀i o io,ops[i]? =some o->ios[i]? =some io->Xg P G n fs ops ios (PH ops.toList []) i o io=true:=by
  intro i o io h1 h2
  have hi:i<ops.size:=(Array.getElem?_eq_some_iff.1 h1).1
  have:=hall i (by simpa using hi)
  rw[h1,h2]at this
  exact this
 refine NG Q h hN ?_ hdraw q hq0 hstep hK (λL a _=>∀f∈fs,L f.2.1=true->a.tmps.getD f.2.2.2 undef=a.tmps.getD f.1 undef/\rH (Ov ios f.2.1) (a.tmps.getD f.2.2.2 undef)) (λ_ a w σ _ _ h k=>hQ a w σ h k) ?_ ?_
 . intro i o io h1 h2 d hd
   have:=hfl i o io (by simpa using h1) h2
   simp only[Xg,Bool.and_eq_true]at this
   have h3:=this.1
   rw[hd]at h3
   cases ho:o.dst with
   |none=>rw[ho]at h3;simp[C6]at h3
   |some t=>rw[ho]at h3;simp only[C6,Bool.and_eq_true,beq_iff_eq]at h3;exact h3.1.2
 . intro f hf hx
   have:=n2 f hf
   simp only[decide_eq_true_eq]at this
   simp[Array.getD_eq_getD_getElem?,this]at hx
 . intro L i o io a w σ τ' h1 h2 hiN hLi hahead hdown hJ hrel haop hτs
   have hck:=hfl i o io h1 h2
   simp only[Xg,Bool.and_eq_true]at hck
   obtain⟨hdst,hck⟩:=hck
   split at hck
   . rename_i r _ _ d1 hfind
     simp only[Bool.and_eq_true,Option.isNone_iff_eq_none,List.all_eq_true,bne_iff_ne]at hck
     obtain⟨⟨⟨⟨hgo,hgi⟩,k1⟩,k2⟩,k3⟩:=hck
     obtain⟨dst,iop,g⟩:=io
     simp only at hgi hdst k1
     subst hgi
     split at k2
     . rename_i s ho
       simp only[beq_iff_eq]at k2
       subst k2
       obtain⟨S,δ,Fr,hn,hdef,ha,rfl,hst,hnx,hSlt⟩:=hrel
       have key:∃d,dst=some d/\d.d=d1/\wr d .dead (λs=>(δ s).er)=some τ'/\rH (Ov ios i) (a.tmps.getD s undef):=by
        split at k1
        . rename_i d
          refine⟨d,rfl,by simpa using k1,?_,by simp[Ov,h2,rH]⟩
          simp only[HU,C5,ES,valOf]at haop
          split at haop
          . rename_i υ hυ;rw[hυ,haop]
          . exact haop.elim
        . rename_i x k d
          simp only[Bool.and_eq_true,beq_iff_eq]at k1
          obtain⟨k1,rfl⟩:=k1
          simp only[HU,C5,ES,valOf]at haop
          cases hx:(δ x).er with
          |A9 cs=>
           simp only[hx]at haop
           by_cases hk:k<cs.length
           . simp only[hk,if_true]at haop
             refine⟨d,rfl,k1,?_,?_⟩
             . split at haop
               . rename_i υ hυ;rw[hυ,haop]
               . exact haop.elim
             . simp only[Ov,h2,rH]
               rw[ha x]
               exact sV hst hx hk
           . simp[hk]at haop
          |_=>simp[hx]at haop
        . cases k1
       obtain⟨d,rfl,k1,hwr,har⟩:=key
       have hd:=DH (a:=a) hdst hn
       have hput:∀u s,(a.put o.dst u).tmps.getD s undef=if s=d.d then u else a.tmps.getD s undef:=λu s=>by rw[hd.1,GJ a d.d u hd.2.2.2 s]
       rw[← Dj .dead (a.tmps.getD s undef)]at hwr
       refine Kz (u:=a.tmps.getD s undef) h1 hgo ?_ ⟨⟨τ',N0 (D:=.lf .dead (a.tmps.getD s undef)) hn hdef ha hst hnx hSlt hd (.lf _ _ _ trivial (λ_ h=>h)) (Cd.dead _) hwr,rfl⟩,λf hf hx=> ?_⟩
       . simp[execOp,ho,Act.eval]
       . obtain⟨j1,j2⟩:=k3 f hf
         rw[hput,hput,k1,if_neg j1]
         split at j2
         . rename_i e
           simp only[Bool.and_eq_true,beq_iff_eq]at j2 e
           rw[if_pos j2.2,j2.1,e]
           exact⟨rfl,har⟩
         . rename_i e
           simp only[bne_iff_ne]at j2
           rw[if_neg j2]
           refine hJ f hf ?_
           simp only[Bool.or_eq_true]at hx
           exact hx.resolve_right e
     . cases k2
   . rename_i hnone
     simp only[Bool.and_eq_true]at hck
     obtain⟨k1,hck⟩:=hck
     have hJ':∀(b:Act) v,b.tmps=a.tmps->∀f∈fs,(L f.2.1||f.2.1==i)=true->(b.put o.dst v).tmps.getD f.2.2.2 undef=(b.put o.dst v).tmps.getD f.1 undef/\rH (Ov ios f.2.1) ((b.put o.dst v).tmps.getD f.2.2.2 undef):=by
      intro b v hb f hf hx
      have e1:¬(f.2.1==i)=true:=List.find?_eq_none.1 hnone f hf
      have hx':L f.2.1=true:=by simpa[e1]using hx
      have hj:=hJ f hf hx'
      cases hod:o.dst with
      |none=>simp only[Act.put,hb];exact hj
      |some t=>
       cases hid:io.dst with
       |none=>rw[hod,hid]at hdst;simp[C6]at hdst
       |some d=>
        rw[hod,hid]at hdst
        rw[hid]at k1
        simp only[C6,Bool.and_eq_true,beq_iff_eq]at hdst
        simp only[List.all_eq_true,Bool.and_eq_true,Bool.or_eq_true,bne_iff_ne]at k1
        have ht:t=d.d:=hdst.1.1.1
        obtain⟨u1,u2⟩:=k1 f hf
        have u1:f.1≠d.d:=u1.elim id λhb'=>by
         have h3:=hdown f.2.1 (of_decide_eq_true (n2 f hf)) hx' i hb'
         rw[hLi]at h3;cases h3
        simp only[Act.put,hb,Array.getD_eq_getD_getElem?,Array.getElem?_setIfInBounds]
        rw[if_neg (by rw[ht];exact Ne.symm u2),if_neg (by rw[ht];exact Ne.symm u1)]
        simpa[Array.getD_eq_getD_getElem?]using hj
     split at hck
     . rename_i hfl0
       simp only[Bool.and_eq_true,Option.isNone_iff_eq_none,Option.isSome_iff_exists]at hck
       obtain⟨⟨⟨hgo,hgi⟩,d,hid⟩,hck⟩:=hck
       obtain⟨dst,iop,g⟩:=io
       simp only at hgi hdst k1 hid hfl0
       subst hgi hid hfl0
       split at hck
       . rename_i t k ho
         rw[List.any_eq_true]at hck
         obtain⟨f,hf,hck⟩:=hck
         simp only[Bool.and_eq_true,beq_iff_eq]at hck
         obtain⟨⟨ht,hb⟩,hk⟩:=hck
         have hj:=hJ f hf (hahead _ hb)
         split at hk
         . rename_i m hm
           rw[hm]at hj
           obtain⟨vs,hv,hmv⟩:=hj.2
           have hkv:k<vs.size:=Nat.lt_of_le_of_lt (of_decide_eq_true hk) hmv
           obtain⟨S,δ,Fr,hn,hdef,ha,rfl,hst,hnx,hSlt⟩:=hrel
           have hd:=DH (a:=a) hdst hn
           have hwr:wr d (DV.lf .dead vs[k]).er (λs=>(δ s).er)=some τ':=by
            simp only[HU,C5,ES,valOf]at haop
            split at haop
            . rename_i υ hυ;rw[Dj,hυ,haop]
            . exact haop.elim
           refine Kz (u:=vs[k]) h1 hgo ?_ ⟨⟨τ',N0 (D:=.lf .dead vs[k]) hn hdef ha hst hnx hSlt hd (.lf _ _ _ trivial (λ_ h=>h)) (Cd.dead _) hwr,rfl⟩,λf hf hx=>hJ' a _ rfl f hf hx⟩
           simp only[execOp,ho,Act.eval,← ht,hv,Instr.extract,Array.getElem?_eq_getElem hkv]
           rfl
         . cases hk
       . cases hck
     split at hck
     . rename_i r i1 _ d1 hfind
       simp only[Bool.and_eq_true,Option.isNone_iff_eq_none]at hck
       obtain⟨⟨hgo,hb⟩,hck⟩:=hck
       have hj:=(hJ _ (List.mem_of_find?_eq_some hfind) (hahead _ hb)).1
       have key:=F9 hG hrel hck haop Q (i:=i) (by simp[hiN])
       refine TY h1 (J:=λtm=>∀f∈fs,(L f.2.1||f.2.1==i)=true->tm.getD f.2.2.2 undef=tm.getD f.1 undef/\rH (Ov ios f.2.1) (tm.getD f.2.2.2 undef)) (λb v hb=>hJ' b v hb) ?_
       unfold wpOp at key ⊢
       rw[h1]
       simp only[Array.getElem?_setIfInBounds_self_of_lt hiN,Region.wanted,hgo,if_true]at key ⊢
       unfold Oper.wp Oper.asks at*
       have hx:=ZZ hj o
       simp only[hgo]at hx
       rw[hx]at key
       exact key
     . exact TY h1 (J:=λtm=>∀f∈fs,(L f.2.1||f.2.1==i)=true->tm.getD f.2.2.2 undef=tm.getD f.1 undef/\rH (Ov ios f.2.1) (tm.getD f.2.2.2 undef)) (λb v hb=>hJ' b v hb) (F9 hG hrel hck haop Q h1)
end Go.Abs
namespace Go.Abs
variable {G:Gi} {P:Program} {w:World}
theorem NS {L:Nat->Bool} {W:Nat->List Nat} {x j:Nat} (hL:L j=true) (hx:x∈W j):∀m,j<m->j<Dv L W x m
 |0,h=>absurd h (Nat.not_lt_zero _)
 |m+1,h=>by
  simp only[Dv]
  split
  . omega
  . rename_i hm
    by_cases e:j=m
    . subst e;exact absurd ⟨hL,hx⟩ hm
    . exact NS hL hx m (by omega)
theorem dZ (p:List Step):∀{t x:AV},sub t p=some x->put t p x=some t:=by
 induction p with
 |nil=>intro t x h;simp only[sub,Option.some.injEq]at h;subst h;rfl
 |cons s p ih=>
  obtain⟨i,j,k⟩:=s
  intro t x h
  cases t with
  |own b k' rows=>
   simp only[sub]at h
   split at h
   . rename_i row hi
     split at h
     . rename_i c hj
       obtain⟨hi1,hi2⟩:=List.getElem?_eq_some_iff.1 hi
       obtain⟨hj1,hj2⟩:=List.getElem?_eq_some_iff.1 hj
       simp only[put,hi,hj,ih h]
       rw[← hj2,List.set_getElem_self,← hi2,List.set_getElem_self]
     . cases h
   . cases h
  |agg cs=>
   simp only[sub]at h
   split at h
   . rename_i c hj
     obtain⟨hj1,hj2⟩:=List.getElem?_eq_some_iff.1 hj
     simp only[put,hj,ih h]
     rw[← hj2,List.set_getElem_self]
   . cases h
  |A9 cs=>
   simp only[sub]at h
   split at h
   . rename_i c hj
     obtain⟨hj1,hj2⟩:=List.getElem?_eq_some_iff.1 hj
     simp only[put,hj,ih h]
     rw[← hj2,List.set_getElem_self]
   . cases h
  |_=>simp[sub]at h
theorem sub_k {i j:Nat} (p:List Step) (k k':Nat):∀{t:AV},sub t (p++[(i,j,k)])=sub t (p++[(i,j,k')]):=by
 induction p with
 |nil=>intro t;cases t<;>simp[sub]
 |cons s p ih=>obtain⟨a,b,c⟩:=s;intro t;cases t<;>simp[sub,ih]
theorem eT {S:Nat->Prop} {δ:Nat->DV} {Fr:Nat->Nat->Prop} (h:St G w S δ Fr) {a:Act} (ha:Rd δ a) {o:Oper} {t:TypeId} {x u:Operand} {n s:Nat} {z:Ar} (ho:o.op= .store t x u) (hn:EV P t=some n) (hc:Bf x (.t s)=true) (hc2:Bf u z=true) {σ':Sg}
 (he:ES G (.st n (.t s) z) none (λs=>(δ s).er)=some σ'):∃w' b off,(execOp a.eval o).run P w= .ok .skip w'/\(∀x,x≠b->w'.heap[x]? =w.heap[x]?)/\a.tmps.getD s undef= .pointer (some ⟨b,off,none⟩):=by
 obtain⟨hy,hev⟩:=Aa hc ha
 obtain⟨hz,hev2⟩:=Aa hc2 ha
 simp only[ES]at he
 split at he
 . rename_i v τ ht
   obtain⟨δ1,F1,D,Ff,hfl,her,hDe,hDa⟩:=h.tk hz ht
   subst her
   subst hDe
   split at he
   . rename_i r p i j k hadr
     obtain⟨vh,bx,rowsD,b,Fx,hsub,hb,hp,hok,_⟩:=hfl.st.C3 hadr
     split at he
     . rename_i bx' k' rows hn'
       obtain⟨D',hD',hDe'⟩:=Cy (hfl.st.ok r).Hw hn'
       rw[hsub]at hD'
       obtain rfl:=Option.some.inj hD'
       simp only[DL,AV.own.injEq]at hDe'
       obtain⟨rfl,rfl,rfl⟩:=hDe'
       split at he
       . rename_i row hrow
         rw[List.getElem?_map,Option.map_eq_some_iff]at hrow
         obtain⟨rowD,hrD,rfl⟩:=hrow
         split at he
         . rename_i hcond
           obtain⟨hlen,hcell,hjn⟩:=hcond
           split at he
           . rename_i t' hst
             have hm:=Hz D hfl.ok.Hw
             have hl:(Df D).length=n:=by rw[← hlen,← hm];simp
             have hcs:=IE hfl.ok hcell
             rw[← hm]at hst hcell
             obtain⟨w',td,F',hrun,hok',her',hann',hsub',hoth',_⟩:=TR (P:=P) (Df D) (hfl.st.ok r) hsub hb hrD (by rw[hl];simpa using hjn) (I1 hfl.ok) (λx hx hx'=>hfl.I0 r x hx' hx) hcell hst 0 (i*k+j) rfl
             have hpt:(δ s).Al= .pointer (some ⟨b,i*k+j,none⟩):=by rw[← hfl.Al s];exact hp
             refine⟨w',b,i*k+j,?_,hoth',by rw[ha s];exact hpt⟩
             have hsz:¬((CY δ z).cells.size≠n):=by rw[← hDa,hcs];simp[hl]
             have hcl:(CY δ z).cells.toList=(Df D).map DV.Al:=by rw[← hDa,hcs]
             have hpt':CY δ (.t s)= .pointer (some ⟨b,i*k+j,none⟩):=hpt
             simp only[execOp,ho,hev,hev2,hpt',Instr.storeAt,Instr.sureAddr,storeVar,Sem.run_bind,Sem.run_pure,Result.andThen_ok,run_sizeOf hn,Sem.run_ite,hsz,if_false,hcl,hrun]
           . cases he
         . cases he
       . cases he
     . cases he
   . cases he
 . cases he
theorem Ui {f:Zs} (os:List A7):∀{m:Nat} {σ:Sg} {K:Sg->Prop},Ja P G f m os K σ->∃q:Nat->Sg,q 0=σ/\(∀i io,os[i]? =some io->HU P G io (· =q (i+1)) (q i))/\(∀i,i≤os.length->ZP f (m+i) (q i)=true)/\K (q os.length):=by
 induction os with
 |nil=>intro m σ K h;exact⟨λ_=>σ,rfl,λi io hi=>by simp at hi,λi hi=>by simp only[List.length_nil,Nat.le_zero]at hi;subst hi;exact h.1,h.2⟩
 |cons o os ih=>
  intro m σ K h
  obtain⟨hb,h⟩:=h
  obtain⟨τ,h1,h2⟩:=KG.1 h
  obtain⟨q,q0,q1,q2,q3⟩:=ih h2
  refine⟨λi=>match i with|0=>σ|i+1=>q i,rfl,λi io hi=> ?_,λi hi=> ?_,by simpa using q3⟩
  . cases i with
    |zero=>
     simp only[List.getElem?_cons_zero,Option.some.injEq]at hi
     subst hi
     simp only[q0];exact h1
    |succ i=>exact q1 i io (by simpa using hi)
  . cases i with
    |zero=>exact hb
    |succ i=>rw[show m+(i+1)=m+1+i from by omega];exact q2 i (by simpa using hi)
def Uv (P:Program) (G:Gi) (n:Nat) (f:Zs) (ops:Array Oper) (M:List Nat) (i:Nat) (o:Oper) (io:A7):Bool:=
 if i=f.i12 then o.guard.isNone&&o.dst.isNone&&io.guard.isNone&&io.dst.isNone&&(match io.op with| .q9 (.t s)=>s==f.ap|_=>false)&&
  (match o.op with| .store t (.tmp x) (.tmp u)=>x==f.ap&&u==f.s&&EV P t==some 1|_=>false)&&(M.getD i 0).testBit f.i7&&(M.getD i 0).testBit f.i11
 else Eo P G n ops o io&&((M.getD f.i12 0).testBit i||(o.guard.isNone&&io.guard.isNone&&(match io.dst with|some d=>d.d != f.s&&d.d != f.ap|none=>true)&&
  (if i=f.i9 then o.dst.isNone&&io.dst.isNone&&(match io.op,o.op with| .st n (.t s) z,.store t x u=>s==f.e&&EV P t==some n&&Bf x (.t s)&&Bf u z|_,_=>false)&&(M.getD i 0).testBit f.i8
   else Sr io.op)))
def WU (P:Program) (G:Gi) (n:Nat) (f:Zs) (ops:Array Oper) (ios:List A7):Bool:=
 decide (ios.length=ops.size)&&decide (f.i12<ops.size)&&IF G ops.toList ios&&(Ea G ios f.i7).contains (2*f.s+1)&&(Ea G ios f.i8).contains (2*f.e+1)&&(Ea G ios f.i11).contains (2*f.ap+1)&&
 ((G.Ee f.e).all λr=> !(G.Ee f.ap).contains r)&&decide (f.i7<ops.size)&&decide (f.i8<ops.size)&&decide (f.i11<ops.size)&&
 (List.range ops.size).all λi=>match ops[i]?,ios[i]? with
  |some o,some io=>Uv P G n f ops (PH ops.toList []) i o io
  |_,_=>false
def AJ (f:Zs) (L:Nat->Bool) (a:Act) (w:World):Prop:=L f.i12=true->∃b o arr E,a.tmps.getD f.ap undef= .pointer (some ⟨b,o,none⟩)/\w.heap[b]? =some (.cells arr E (0,0))/\arr[o]? =some (a.tmps.getD f.s undef)
theorem UC {b o:Nat} {v:Value} {arr:Array Value} {E:TypeId} {fz:Nat×Nat} (hb:w.heap[b]? =some (.cells arr E fz)) (ho:arr[o]? =some v):w.setCell ⟨b,o,none⟩ v=w:=by
 have e:arr.setIfInBounds o v=arr:=by
  apply Array.ext_getElem?
  intro i
  rw[Array.getElem?_setIfInBounds]
  split
  . rename_i h;subst h
    obtain⟨h1,h2⟩:=Array.getElem?_eq_some_iff.1 ho
    rw[if_pos h1,ho]
  . rfl
 obtain⟨heap,_⟩:=w
 simp only[World.setCell,World.mk.injEq,and_true]at hb ⊢
 apply Array.ext_getElem?
 intro i
 rw[Array.getElem?_modify]
 split
 . rename_i h;subst h;rw[hb];simp[e]
 . rfl
theorem aG {σ:Sg} {s:Nat} (h:MU (σ s)=true):∃r p i j k,σ s= .HX r p i j k/\C3 σ (.t s)=some (r,p,i,j,k):=by
 cases hs:σ s with
 |HX r p i j k=>exact⟨r,p,i,j,k,rfl,by simp[C3,hs]⟩
 |_=>rw[hs]at h;simp[MU]at h
theorem Zn {ops:Array Oper} {Q:Exit->Act->World->Prop} {i:Nat} {o:Oper} {a:Act} {w':World} {K:Act->World->Prop} (hi:ops[i]? =some o) (hg:o.guard=none) (hrun:(execOp a.eval o).run P w= .ok .skip w') (h:K (a.put o.dst undef) w'):wpOp P ops Q i K a w:=by
 unfold wpOp
 rw[hi]
 simp only[Region.wanted,hg,if_true]
 refine .inl ?_
 unfold Oper.wp
 rw[hrun]
 exact h
theorem XO {ops:Array Oper} {Q:Exit->Act->World->Prop} {i:Nat} {o:Oper} {a:Act} {w':World} {K:Act->World->Prop} (hi:ops[i]? =some o) (hg:o.guard=none) (hrun:(execOp a.eval o).run P w= .ok .skip w') (h:wpOp P ops Q i K a w):wpOp P ops Q i (λa1 w1=>K a1 w1/\a1=a.put o.dst undef/\w1=w') a w:=by
 unfold wpOp at h ⊢
 rw[hi]at h ⊢
 simp only[Region.wanted,hg,if_true]at h ⊢
 refine h.imp (λh=> ?_) id
 unfold Oper.wp at h ⊢
 rw[hrun]at h ⊢
 exact⟨h,rfl,rfl⟩
theorem YK {n:Nat} {w0:World} {S0 U0:Nat->Prop} (hG:Sa w0 S0 U0) {ops:Array Oper} {K:Sg->Prop} (Q:Exit->Act->World->Prop) (hQ:∀a w σ,Rel G n w0 S0 U0 a w σ->K σ->Q .normal a w) {ios:List A7} {a:Act} {w:World} {σ:Sg} {f:Zs}
 (h:Rel G n w0 S0 U0 a w σ) (hc:WU P G n f ops ios=true) (hrun:Ja P G f 0 ios (HU P G ⟨none,.st 1 (.t f.ap) (.t f.s),none⟩ K) σ):
 wpAny P .any ops Q ops.size (Array.replicate ops.size false) a w:=by
 simp only[WU,Bool.and_eq_true,decide_eq_true_eq,List.contains_iff_mem]at hc
 obtain⟨⟨⟨⟨⟨⟨⟨⟨⟨⟨hN,n12⟩,hdraw⟩,w7⟩,w8⟩,w11⟩,hdj⟩,n7⟩,n8⟩,n11⟩,hall⟩:=hc
 rw[List.all_eq_true]at hdj hall
 obtain⟨q,hq0,hstep,hok,hK⟩:=Ui ios hrun
 simp only[Nat.zero_add]at hok
 have hck:∀i o io,ops[i]? =some o->ios[i]? =some io->Uv P G n f ops (PH ops.toList []) i o io=true:=by
  intro i o io h1 h2
  have hi:i<ops.size:=(Array.getElem?_eq_some_iff.1 h1).1
  have:=hall i (by simpa using hi)
  rw[h1,h2]at this
  exact this
 obtain⟨o12,io12,p1,p2⟩:∃o io,ops[f.i12]? =some o/\ios[f.i12]? =some io:=⟨ops[f.i12],ios[f.i12]'(by omega),by simp[n12],by simp[hN,n12]⟩
 have h12:=hck _ _ _ p1 p2
 simp only[Uv,if_pos,Bool.and_eq_true,Option.isNone_iff_eq_none]at h12
 obtain⟨⟨⟨⟨⟨⟨⟨g1,g2⟩,g3⟩,g4⟩,g5⟩,g6⟩,b7⟩,b11⟩:=h12
 obtain⟨ty,e12,hsz⟩:∃ty,o12.op= .store ty (.tmp f.ap) (.tmp f.s)/\EV P ty=some 1:=by
  split at g6
  . rename_i ty x u ho
    simp only[Bool.and_eq_true,beq_iff_eq]at g6
    obtain⟨⟨rfl,rfl⟩,h3⟩:=g6
    exact⟨ty,ho,h3⟩
  . cases g6
 have ei12:io12=⟨none,.q9 (.t f.ap),none⟩:=by
  obtain⟨d,op,g⟩:=io12
  simp only at g3 g4 g5
  subst g3;subst g4
  split at g5
  . simp only[beq_iff_eq]at g5;rw[g5]
  . cases g5
 -- where the slots stand
 have own:∀{L:Nat->Bool} {σ:Sg},L f.i7=true->σ f.s=q (Dv L (Ea G ios) (2*f.s+1) ops.size) f.s->KQ (σ f.s)=true:=by
  intro L σ hL hs
  have h1:=NS hL w7 ops.size n7
  have h2:=Qr L (Ea G ios) (2*f.s+1) ops.size
  have h3:=hok _ (by omega:Dv L (Ea G ios) (2*f.s+1) ops.size≤ios.length)
  simp only[ZP,Bool.and_eq_true,Bool.or_eq_true,decide_eq_true_eq]at h3
  rw[hs];exact h3.1.1.resolve_left (by omega)
 have adr8:∀{L:Nat->Bool} {σ:Sg},L f.i8=true->σ f.e=q (Dv L (Ea G ios) (2*f.e+1) ops.size) f.e->MU (σ f.e)=true:=by
  intro L σ hL hs
  have h1:=NS hL w8 ops.size n8
  have h2:=Qr L (Ea G ios) (2*f.e+1) ops.size
  have h3:=hok _ (by omega:Dv L (Ea G ios) (2*f.e+1) ops.size≤ios.length)
  simp only[ZP,Bool.and_eq_true,Bool.or_eq_true,decide_eq_true_eq]at h3
  rw[hs];exact h3.1.2.resolve_left (by omega)
 have adr11:∀{L:Nat->Bool} {σ:Sg},L f.i11=true->σ f.ap=q (Dv L (Ea G ios) (2*f.ap+1) ops.size) f.ap->MU (σ f.ap)=true:=by
  intro L σ hL hs
  have h1:=NS hL w11 ops.size n11
  have h2:=Qr L (Ea G ios) (2*f.ap+1) ops.size
  have h3:=hok _ (by omega:Dv L (Ea G ios) (2*f.ap+1) ops.size≤ios.length)
  simp only[ZP,Bool.and_eq_true,Bool.or_eq_true,decide_eq_true_eq]at h3
  rw[hs];exact h3.2.resolve_left (by omega)
 -- the slice's store, executed
 have run12:∀{a:Act} {w:World} {b o:Nat} {arr:Array Value} {E:TypeId} {ad:Option Addr} {m c:Nat} {u:Value},a.tmps.getD f.ap undef= .pointer (some ⟨b,o,none⟩)->w.heap[b]? =some (.cells arr E (0,0))->arr[o]? =some u->a.tmps.getD f.s undef= .slice ad m c->
  (execOp a.eval o12).run P w= .ok .skip (w.setCell ⟨b,o,none⟩ (.slice ad m c)):=by
  intro a w b o arr E ad m c u h1 h2 h3 h4
  have hst1:=Kq (P:=P) (w:=w) (off:=o) (v:=.slice ad m c) h2 h3 rfl
  have e1:a.eval (.tmp f.ap)= .pointer (some ⟨b,o,none⟩):=h1
  have e2:a.eval (.tmp f.s)= .slice ad m c:=h4
  simp only[execOp,e12,e1,e2,Instr.storeAt,Instr.sureAddr,storeVar,Sem.run_bind,Sem.run_pure,Result.andThen_ok,run_sizeOf hsz,Sem.run_ite,Value.cells,storeCells]
  simp[hst1,Addr.add,storeCells]
 -- a slice's own slot holds a slice
 have hdr_s:∀{S:Nat->Prop} {δ:Nat->DV} {Fr:Nat->Nat->Prop} {w:World},St G w S δ Fr->KQ (δ f.s).er=true->∃ad m c,(δ f.s).Al= .slice ad m c:=by
  intro S δ Fr w hst ho
  have hk:=hst.ok f.s
  cases hd:δ f.s with
  |own v bx k rows=>
   rw[hd]at ho hk
   cases bx with
   |true=>simp[KQ]at ho
   |false=>obtain⟨a,c,e⟩:=TL hk;exact⟨a,_,c,by simpa using e⟩
  |lf x v=>
   rw[hd]at ho hk
   cases hk with
   |lf _ _ _ hl=>simp only[Dj]at ho;cases x<;>first|exact hl.elim|simp[KQ]at ho
  |agg=>rw[hd]at ho;simp[KQ]at ho
  |A9=>rw[hd]at ho;simp[KQ]at ho
 refine NG Q h hN ?_ hdraw (K:=λσ=>ZP f ios.length σ=true/\HU P G ⟨none,.st 1 (.t f.ap) (.t f.s),none⟩ K σ) q hq0 hstep ⟨hok _ (Nat.le_refl _),hK⟩ (AJ f) ?_ ?_ ?_
 . intro i o io h1 h2 d hd
   have:=hck i o io (by simpa using h1) h2
   by_cases e:i=f.i12
   . subst e
     have:io=io12:=by rw[p2]at h2;exact(Option.some.inj h2).symm
     subst this
     rw[ei12]at hd
     cases hd
   . simp only[Uv,if_neg e,Bool.and_eq_true]at this
     exact QR this.1 d hd
 . -- the end: the slice comes into its cell, where it is already
   intro L a w σ hL hJ hrel hKσ
   obtain⟨hoks,hKσ⟩:=hKσ
   obtain⟨b,o,arr,E,j1,j2,j3⟩:=hJ (hL _ n12)
   have hst:=MI hG (K:=K) hrel (ops:=ops) (o:=o12) (io:=⟨none,.st 1 (.t f.ap) (.t f.s),none⟩) (P:=P) (by simp[Eo,g1,g2,C6,HY,e12,Gn,hsz,Bf]) hKσ Q
   obtain⟨ad,m,c,hs⟩:∃ad m c,a.tmps.getD f.s undef= .slice ad m c:=by
    obtain⟨S,δ,Fr,hn,hdef,ha,rfl,hst,hnx,hSlt⟩:=hrel
    simp only[ZP,Bool.and_eq_true,Bool.or_eq_true,decide_eq_true_eq]at hoks
    obtain⟨ad,m,c,e⟩:=hdr_s hst (hoks.1.1.resolve_left (by omega))
    exact⟨ad,m,c,(ha _).trans e⟩
   rw[hs]at j3
   have hr:=run12 j1 j2 j3 hs
   rw[UC j2 j3]at hr
   unfold Oper.wp at hst
   rw[hr,Oper.upon_skip,g2]at hst
   obtain⟨σ',h1,h2⟩:=hst
   exact hQ a w σ' h1 h2
 . intro hx
   simp[Array.getD_eq_getD_getElem?,n12]at hx
 . intro L i o io a w σ τ' h1 h2 hiN hLi hahead hdown hJ hrel haop hτs
   have hci:=hck i o io h1 h2
   have L12:∀j,((PH ops.toList []).getD f.i12 0).testBit j=true->L f.i12=true->L j=true:=λj hb hl=>hdown f.i12 n12 hl j hb
   by_cases e:i=f.i12
   . -- the slice's own store
     subst e
     have:io=io12:=by rw[p2]at h2;exact(Option.some.inj h2).symm
     subst this
     have:o=o12:=by rw[p1]at h1;exact(Option.some.inj h1).symm
     subst this
     obtain⟨S,δ,Fr,hn,hdef,ha,rfl,hst,hnx,hSlt⟩:=hrel
     rw[ei12]at haop
     simp only[HU,C5,ES]at haop
     split at haop
     . rename_i υ hυ
       split at hυ
       . rename_i r p i j k hadr
         split at hυ
         . rename_i hdead
           simp only[Option.some.injEq]at hυ
           subst hυ;subst haop
           have hown:=own (L:=λj=>(L j||j==f.i12)) (σ:=λs=>(δ s).er) (by simp[hahead _ b7]) (hτs f.s)
           obtain⟨ad,m,c,hsv⟩:=hdr_s hst hown
           have hsv':a.tmps.getD f.s undef= .slice ad m c:=(ha _).trans hsv
           obtain⟨vh,bx,rowsD,b,Fx,hsub,hb,hp,hokx,hFx⟩:=hst.C3 hadr
           have hp':a.tmps.getD f.ap undef= .pointer (some ⟨b,i*k+j,none⟩):=(ha _).trans hp
           obtain⟨x,hx,hxe⟩:=Cy (hst.ok r).Hw hdead
           have hx0:=hx
           rw[F7,hsub,Option.bind_some]at hx
           simp only[Ai]at hx
           split at hx
           . rename_i rowD hrow
             split at hx
             . rename_i cc hcell
               simp only[Option.some.injEq]at hx
               subst hx
               obtain⟨hFb,arr,E,hbb,harr⟩:=KZ hokx hb
               have hold:=harr i j rowD cc hrow hcell
               have hr:=run12 hp' hbb hold hsv'
               obtain⟨t,F',hput,hok',hsubF,hannt,hFr⟩:=(hst.ok r).store p hsub hrow hcell hb (new:=.lf .dead (.slice ad m c)) (Fn:=λ_=>False) (.lf _ _ _ trivial (λ_ h=>h)) (λ_ h=>h.elim)
               simp only[Hk]at hok'
               have hoth:∀x,x≠b->(w.setCell ⟨b,i*k+j,none⟩ (.slice ad m c)).heap[x]? =w.heap[x]? :=λx hx=>CM _ _ _ _ _ hx
               have hbS:¬S b:=(hst.ok r).D6 b hFr
               have hlf:∃v0,cc= .lf .dead v0:=by
                cases cc with
                |lf a0 v0=>simp only[Dj]at hxe;subst hxe;exact⟨v0,rfl⟩
                |own=>simp at hxe
                |agg=>simp at hxe
                |A9=>simp at hxe
               obtain⟨v0,rfl⟩:=hlf
               have hter:t.er=(δ r).er:=by
                obtain⟨t2,q1,q2⟩:=Gu (d:=δ r) (p:=p++[(i,j,k)]) (a:=(δ r).er) (.lf .dead (.slice ad m c)) (hst.ok r).Hw (by
                 rw[Dj]
                 exact dZ _ ((sub_k p k 0).trans hdead))
                rw[hput]at q1
                obtain rfl:=Option.some.inj q1
                exact q2
               have hFF:∀x,F' x->Fr r x:=λx hx=>(hsubF x hx).elim id False.elim
               have hheads:∀q v bx k rows,Ai (δ r) q=some (.own v bx k rows)->∃rows',Ai t q=some (.own v bx k rows'):=λq v' bx' k' rows' hq=>by
                have hold2:Ai (δ r) (p++[(i,j,k)])=some (.lf .dead v0):=by rw[F7,hsub];simp[Ai,hrow,hcell]
                exact Ly _ hput hold2 (by simp) (by simp) (by simp) q v' bx' k' rows' hq
               have hpoke:=hst.poke (w':=w.setCell ⟨b,i*k+j,none⟩ (.slice ad m c)) r t F' (λx hx=>hoth x (by rintro rfl;exact hbS hx)) (λs hs x hx=>hoth x (by rintro rfl;exact hs (hst.I0 s r _ hx hFr))) hok'
                (λs hs x hx hy=>hs (hst.I0 s r x hy (hFF x hx))) (by rw[hter];exact hst.rt r) (LH _ hput (hst.al r) (.lf _ _ trivial)) hheads hannt
               refine Zn h1 g1 hr ⟨⟨_,⟨S,DF δ r t,DF Fr r F',?_,?_,?_,?_,hpoke,hnx.trans ?_,λx hx=>by simpa using hSlt x hx⟩,rfl⟩,λ_=>⟨b,i*k+j,arr.setIfInBounds (i*k+j) (.slice ad m c),E,?_,Lx _ _ _ _ _ _ _ hbb,?_⟩⟩
               . rw[g2];exact hn
               . rw[g2];exact hdef
               . intro s'
                 rw[g2]
                 simp only[Act.put]
                 by_cases e:s'=r
                 . subst e;rw[A8,hannt];exact ha s'
                 . rw[BK _ _ e];exact ha s'
               . funext s'
                 by_cases e:s'=r
                 . subst e;simp only[A8,hter]
                 . simp only[BK _ _ e]
               . refine⟨rfl,rfl,rfl,by simp,λx _ hU=>hoth x (by rintro rfl;exact hU ⟨r,hFr⟩),λ_ h=>h,λ_ h=>.inl h,λhl x hx=>by simpa using hl x hx,λx hx=>.inl ?_⟩
                 obtain⟨s,hx⟩:=hx
                 by_cases e:s=r
                 . subst e;rw[A8]at hx;exact⟨s,hFF x hx⟩
                 . rw[BK _ _ e]at hx;exact⟨s,hx⟩
               . rw[g2];exact hp'
               . rw[g2]
                 simp only[Act.put,hsv']
                 have:=(Array.getElem?_eq_some_iff.1 hold).1
                 simp[this]
             . cases hx
           . cases hx
         . cases hυ
       . cases hυ
     . exact haop.elim
   . simp only[Uv,if_neg e,Bool.and_eq_true,Bool.or_eq_true,Option.isNone_iff_eq_none]at hci
     obtain⟨hco,hci⟩:=hci
     have hK:=F9 hG hrel hco haop Q h1
     have hLe:(L f.i12||f.i12==i)=L f.i12:=by rw[show(f.i12==i)=false from by simpa using Ne.symm e,Bool.or_false]
     rcases hci with hb|⟨⟨⟨hgo,hgi⟩,hd⟩,hci⟩
     . -- ahead of it
       refine wpOp_mono (λa' w' h=>⟨h,λhl=> ?_⟩) hK
       replace hl:=hLe.symm.trans hl
       rw[L12 i hb hl]at hLi;cases hLi
     . split at hci
       . -- the element's store
         rename_i e9
         subst e9
         simp only[Bool.and_eq_true,Option.isNone_iff_eq_none]at hci
         obtain⟨⟨⟨k1,k2⟩,k3⟩,k4⟩:=hci
         obtain⟨dst,iop,g⟩:=io
         simp only at hgi k2 k3
         subst hgi;subst k2
         split at k3
         . rename_i nn s' z ty' x' u' ho'
           simp only[Bool.and_eq_true,beq_iff_eq]at k3
           obtain⟨⟨⟨rfl,m2⟩,m3⟩,m4⟩:=k3
           obtain⟨w',b9,off,hr,hfr,hp9⟩:∃w' b off,(execOp a.eval o).run P w= .ok .skip w'/\(∀x,x≠b->w'.heap[x]? =w.heap[x]?)/\a.tmps.getD f.e undef= .pointer (some ⟨b,off,none⟩):=by
            obtain⟨S,δ,Fr,hn,hdef,ha,rfl,hst,hnx,hSlt⟩:=hrel
            simp only[HU,C5]at haop
            split at haop
            . rename_i υ hυ
              exact eT hst ha ho' m2 m3 m4 hυ
            . exact haop.elim
           refine wpOp_mono ?_ (XO h1 hgo hr hK)
           rintro a' w1 ⟨⟨σ',hrel',rfl⟩,rfl,rfl⟩
           rw[k1]at hrel' ⊢
           simp only[Act.put]at hrel' ⊢
           refine⟨⟨_,hrel',rfl⟩,λhl=> ?_⟩
           replace hl:=hLe.symm.trans hl
           obtain⟨b,oo,arr,E,j1,j2,j3⟩:=hJ hl
           refine⟨b,oo,arr,E,j1,?_,j3⟩
           rw[hfr b ?_];exact j2
           rintro rfl
           obtain⟨S',δ',Fr',hn',hdef',ha',rfl,hst',hnx',hSlt'⟩:=hrel'
           obtain⟨r1,p1',i1,j1',k1',q1,q2⟩:=aG (σ:=λs=>(δ' s).er) (adr8 (L:=λj=>(L j||j==f.i9)) (σ:=λs=>(δ' s).er) (by simp[hahead _ k4]) (hτs f.e))
           obtain⟨r2,p2',i2,j2',k2',q3,q4⟩:=aG (σ:=λs=>(δ' s).er) (adr11 (L:=λj=>(L j||j==f.i9)) (σ:=λs=>(δ' s).er) (by simp[L12 _ b11 hl]) (hτs f.ap))
           obtain⟨v1,bx1,rw1,c1,F1,s1,s2,s3,s4,s5⟩:=hst'.C3 q2
           obtain⟨v2,bx2,rw2,c2,F2,t1,t2,t3,t4,t5⟩:=hst'.C3 q4
           have z1:b=c1:=by
            have:=(ha' f.e).symm.trans hp9
            rw[s3]at this
            simp only[Value.pointer.injEq,Option.some.injEq,Addr.mk.injEq]at this
            exact this.1.symm
           have z2:b=c2:=by
            have:=(ha' f.ap).symm.trans j1
            rw[t3]at this
            simp only[Value.pointer.injEq,Option.some.injEq,Addr.mk.injEq]at this
            exact this.1.symm
           have hr12:=hst'.I0 r1 r2 b (s5 b (by rw[z1];exact(KZ s4 s2).1)) (t5 b (by rw[z2];exact(KZ t4 t2).1))
           subst hr12
           have u1:=hst'.rt f.e
           have u2:=hst'.rt f.ap
           rw[q1]at u1
           rw[q3]at u2
           simp only[Pz,List.contains_iff_mem]at u1 u2
           have:=hdj _ u1
           simp[u2]at this
         . cases k3
       . -- a plain one
         rename_i e9
         have hcop:=hco
         simp only[Eo,Bool.and_eq_true]at hcop
         have hcop2:Gn P o.op io.op=true:=by
          have:=hcop.2
          cases hop:io.op<;>rw[hop]at this hci<;>first|exact this|simp[Sr]at hci
         obtain⟨v,hv⟩:∃v,valOf io.op σ=some v:=by
          obtain⟨dst,iop,g⟩:=io
          simp only at hgi hci
          subst hgi
          cases dst with
          |none=>cases iop<;>simp[Sr]at hci<;>simp[HU,C5,ES]at haop
          |some d=>
           simp only[HU]at haop
           cases hv:valOf iop σ with
           |some v=>exact⟨v,rfl⟩
           |none=>cases iop<;>simp[Sr]at hci<;>simp[C5,ES,hv]at haop
         obtain⟨u,hr⟩:=cK hrel hcop2 hci hv
         have hch:C6 G n o.dst io.dst=true:=hcop.1.1
         refine Vq h1 hgo hr (λhl=> ?_) hK
         replace hl:=hLe.symm.trans hl
         obtain⟨b,oo,arr,E,j1,j2,j3⟩:=hJ hl
         have hput:∀s,(match io.dst with|some d=>d.d≠s|none=>True)->(a.put o.dst u).tmps.getD s undef=a.tmps.getD s undef:=by
          intro s hs
          cases hod:o.dst with
          |none=>rfl
          |some t=>
           cases hid:io.dst with
           |none=>rw[hod,hid]at hch;simp[C6]at hch
           |some d=>
            rw[hod,hid]at hch
            rw[hid]at hs
            simp only[C6,Bool.and_eq_true,beq_iff_eq]at hch
            have ht:t=d.d:=hch.1.1.1
            simp only[Act.put,Array.getD_eq_getD_getElem?,Array.getElem?_setIfInBounds]
            rw[if_neg (by rw[ht];exact hs)]
         refine⟨b,oo,arr,E,?_,j2,?_⟩
         . rw[hput];exact j1
           cases hid:io.dst with
           |none=>trivial
           |some d=>rw[hid]at hd;simp only[Bool.and_eq_true,bne_iff_ne]at hd;exact hd.2
         . rw[hput];exact j3
           cases hid:io.dst with
           |none=>trivial
           |some d=>rw[hid]at hd;simp only[Bool.and_eq_true,bne_iff_ne]at hd;exact hd.1
end Go.Abs
namespace Go.Abs
variable {w w':World} {S S':Nat->Prop} {G:Gi} {δ:Nat->DV} {Fr:Nat->Nat->Prop} {P:Program}
def We (P:Program) (G:Gi) (n:Nat) (ops:Array Oper) (o:Oper):V7->Bool
 | .o io=>Eo P G n ops o io
 | .Ty d neg x=>o.guard.isNone&&C6 G n o.dst (some d)&&Wc P o.op neg x
 | .uA d g m=>o.guard.isNone&&C6 G n o.dst (some d)&&Wa P o.op g m
 | .rM d m s=>o.guard.isNone&&C6 G n o.dst (some d)&&WW P o.op m s
 | .clo d f x args=>o.guard.isNone&&C6 G n o.dst d&&WX P o.op f x args
def Sn (P:Program) (G:Gi) (n:Nat) (ops:Array Oper):List Oper->List V7->Bool
 |[],[]=>true
 |o::os,x::xs=>We P G n ops o x&&Sn P G n ops os xs
 |_,_=>false
theorem Uq {n:Nat} {w0:World} {S0 U0:Nat->Prop} (hG:Sa w0 S0 U0) {ops:Array Oper} {K:Sg->Prop} (Q:Exit->Act->World->Prop) {k:Nat} {o:Oper} (ho:ops[k]? =some o) {x:V7} {xs:List V7} {a:Act} {w:World} {σ:Sg}
 (h:Rel G n w0 S0 U0 a w σ) (hc:We P G n ops o x=true/\True) (hr:K5 P G (x::xs) K σ):wpOp P ops Q k (λa' w'=>∃σ',Rel G n w0 S0 U0 a' w' σ'/\K5 P G xs K σ') a w:=by
 have hplain:o.guard.isNone=true->o.wp P a w (λa' w'=>∃σ',Rel G n w0 S0 U0 a' w' σ'/\K5 P G xs K σ') Q->wpOp P ops Q k (λa' w'=>∃σ',Rel G n w0 S0 U0 a' w' σ'/\K5 P G xs K σ') a w:=by
  intro hg hwp
  unfold wpOp
  rw[ho]
  have hog:o.guard=none:=by simpa using hg
  simp only
  rw[if_pos (by simp[Region.wanted,hog])]
  exact .inl hwp
 cases x with
 |o io=>exact F9 hG h hc.1 hr Q ho
 |Ty d neg x=>
  simp only[We,Bool.and_eq_true]at hc
  obtain⟨⟨⟨g1,g2⟩,g3⟩,_⟩:=hc
  refine hplain g1 ?_
  simp only[K5]at hr
  split at hr
  . rename_i hv pl hh
    split at hr
    . rename_i rows hrows
      exact W3 h g3 g2 hh hrows hr Q
    . exact hr.elim
  . exact hr.elim
 |rM d m s=>
  simp only[We,Bool.and_eq_true]at hc
  obtain⟨⟨⟨g1,g2⟩,g3⟩,_⟩:=hc
  refine hplain g1 ?_
  simp only[K5]at hr
  split at hr
  . rename_i cs hs
    exact Ye h g3 g2 hs hr.1 hr.2 Q
  . exact hr.elim
 |clo d f x args=>
  simp only[We,Bool.and_eq_true]at hc
  obtain⟨⟨⟨g1,g2⟩,g3⟩,_⟩:=hc
  refine hplain g1 ?_
  simp only[K5]at hr
  split at hr
  . rename_i aZ9 hca
    obtain⟨res,hsays,hr⟩:=hr
    split at hr
    . rename_i v hres
      exact Yj hG h g3 g2 hca hsays hres hr Q
    . exact hr.elim
  . exact hr.elim
 |uA d g m=>
  simp only[We,Bool.and_eq_true]at hc
  obtain⟨⟨⟨g1,g2⟩,g3⟩,_⟩:=hc
  refine hplain g1 ?_
  simp only[K5]at hr
  split at hr
  . rename_i cs hcs
    exact Y2 hG h g3 g2 hcs hr Q
  . exact hr.elim
theorem Ya {n:Nat} {w0:World} {S0 U0:Nat->Prop} (hG:Sa w0 S0 U0) {ops:Array Oper} {K:Sg->Prop} (Q:Exit->Act->World->Prop) (hQ:∀a w σ,Rel G n w0 S0 U0 a w σ->K σ->Q .normal a w) (xs:List V7):
 ∀(k:Nat) {a:Act} {w:World} {σ:Sg},Rel G n w0 S0 U0 a w σ->Sn P G n ops (ops.toList.drop k) xs=true->K5 P G xs K σ->wpOps P ops Q (List.range' k (ops.size-k)) a w:=by
 induction xs with
 |nil=>
  intro k a w σ h hc hr
  have hk:ops.toList.drop k=[]:=by cases hd:ops.toList.drop k with|nil=>rfl|cons o os=>rw[hd]at hc;simp[Sn]at hc
  have hlen:ops.size≤k:=by simpa using hk
  rw[show ops.size-k=0 from by omega]
  exact hQ a w σ h hr
 |cons x xs ih=>
  intro k a w σ h hc hr
  cases hd:ops.toList.drop k with
  |nil=>rw[hd]at hc;simp[Sn]at hc
  |cons o os=>
   rw[hd]at hc
   simp only[Sn,Bool.and_eq_true]at hc
   have hk:k<ops.size:=by
    have:(ops.toList.drop k).length=os.length+1:=by rw[hd];rfl
    simp at this;omega
   have ho:ops[k]? =some o:=by
    have:(ops.toList.drop k)[0]? =some o:=by rw[hd];rfl
    simpa using this
   have hos:ops.toList.drop (k+1)=os:=by
    have:(ops.toList.drop k).drop 1=os:=by rw[hd];rfl
    rw[List.drop_drop]at this;exact this
   rw[show ops.size-k=(ops.size-(k+1))+1 from by omega,List.range'_succ,wpOps_cons]
   have hnext:∀a' w',(∃σ',Rel G n w0 S0 U0 a' w' σ'/\K5 P G xs K σ')->wpOps P ops Q (List.range' (k+1) (ops.size-(k+1))) a' w':=by
    rintro a' w' ⟨σ',h',hK'⟩
    exact ih (k+1) h' (by rw[hos];exact hc.2) hK'
   exact wpOp_mono hnext (Uq hG Q ho h ⟨hc.1,trivial⟩ hr)
def Ei (P:Program) (G:Gi) (n:Nat):Code->IC->Bool
 | .skip,.skip=>true
 |_,.bad=>true
 |c,.gz _ _ _ a=>Ei P G n c a
 |c,.pg _ _ _ a=>Ei P G n c a
 | .region _ ops false,.Z1 xs=>Sn P G n ops ops.toList xs
 | .region _ ops d,.TO ios=>IG P G n ops ops.toList ios&&(!d||IF G ops.toList ios)
 | .region _ ops true,.tZ f aZ9 bs=>WZ P G n f ops (aZ9++bs)&&aZ9.length==f.i2+1
 | .region _ ops true,.Vt fs ios=>WY P G n fs ops ios
 | .region _ ops true,.tO f ios=>WU P G n f ops ios
 | .seq a b,.seq a' b'=>Ei P G n a a'&&Ei P G n b b'
 | .cond c a b,.cond c' a' b'=>Bf c c'&&Ei P G n a a'&&Ei P G n b b'
 | .block id a,.block id' a'=>id==id'&&Ei P G n a a'
 | .loop a,.loop a'=>Ei P G n a a'
 | .exit id,.exit id'=>id==id'
 | .ret,.ret=>true
 | .label _,.skip=>true
 |_,_=>false
def LM (m:Nat) (a0 a:Act):Prop:=∀i,i<m->a.tmps.getD i undef=a0.tmps.getD i undef
theorem LM.refl (m:Nat) (a:Act):LM m a a:=λ_ _=>rfl
def Oq (m:Nat) (o:Oper):Bool:=match o.dst with
 |some d=>decide (m≤d)
 |none=>true
def Ej (m:Nat):Code->Bool
 | .region _ ops _=>ops.toList.all (Oq m)
 | .seq a b=>Ej m a&&Ej m b
 | .cond _ a b=>Ej m a&&Ej m b
 | .block _ a=>Ej m a
 | .loop a=>Ej m a
 |_=>true
theorem KL (c:Code):Ej 0 c=true:=by
 induction c with
 |region id ops d=>simp only[Ej,List.all_eq_true];intro o _;unfold Oq;split<;>simp
 |seq a b iha ihb=>simp[Ej,iha,ihb]
 |cond c a b iha ihb=>simp[Ej,iha,ihb]
 |block id a iha=>simp[Ej,iha]
 |loop a iha=>simp[Ej,iha]
 |_=>simp[Ej]
def Kept (m:Nat) (a0:Act) (Q:Exit->Act->World->Prop) (e:Exit) (a:Act) (w:World):Prop:=Q e a w/\(e= .outgrown∨LM m a0 a)
theorem LM.put {m:Nat} {a0 a:Act} (h:LM m a0 a) {o:Oper} (ho:Oq m o=true) (v:Value):LM m a0 (a.put o.dst v):=by
 intro i hi
 unfold Oq at ho
 split at ho
 . rename_i d hd
   simp only[decide_eq_true_eq]at ho
   rw[hd]
   simp only[Act.put,Array.getD_eq_getD_getElem?,Array.getElem?_setIfInBounds]
   rw[if_neg (by omega)]
   have:=h i hi
   simpa[Array.getD_eq_getD_getElem?]using this
 . rename_i hd;rw[hd];exact h i hi
theorem Rl {ops:Array Oper} {Q:Exit->Act->World->Prop} {m:Nat} {a0:Act} (hops:ops.toList.all (Oq m)=true) (l:List Nat):
 ∀(a:Act) (w:World),LM m a0 a->wpOps P ops Q l a w->wpOps P ops (Kept m a0 Q) l a w:=by
 induction l with
 |nil=>intro a w hk h;exact⟨h,.inr hk⟩
 |cons i rest ih=>
  intro a w hk h
  simp only[wpOps]at h ⊢
  cases ho:ops[i]? with
  |none=>simp only[ho]at h ⊢;exact ih a w hk h
  |some o=>
   simp only[ho]at h ⊢
   have hod:Oq m o=true:=by
    rw[List.all_eq_true]at hops
    exact hops o (by rw[Array.mem_toList_iff];exact Array.mem_of_getElem? ho)
   have lets:LetsOut Q->LetsOut (Kept m a0 Q):=λ⟨a,w,hq⟩=>⟨a,w,hq,.inl rfl⟩
   by_cases hw:Region.wanted o (yielded ops a.tmps)=true
   . simp only[hw,if_true]at h ⊢
     refine h.imp (λh=> ?_) (λh=>⟨h.1,lets h.2⟩)
     unfold Oper.wp at*
     generalize (execOp a.eval o).run P w=r at*
     cases r with
     |ok x w'=>
      cases x with
      |value v=>exact ih _ _ (hk.put hod v) h
      |skip=>exact ih _ _ (hk.put hod undef) h
      |defer d=>exact ih _ _ (LM.put (a:={a with defers:=d::a.defers}) (λi hi=>hk i hi) hod undef) h
      |enter f args=>
       simp only[Oper.upon]at h ⊢
       refine Calls.mono h λe w'' he=> ?_
       cases e with
       |returned v=>exact ih _ _ (hk.put hod v) he
       |panicked chain=>exact⟨he,.inr hk⟩
       |outgrown=>exact lets he
      |row row args=>
       simp only[Oper.upon]at h ⊢
       exact Rows.mono h λv w'' he=>ih _ _ (hk.put hod v) he
      |_=>simp only[Oper.upon]at h
     |halt x w'=>
      cases x with
      |panic v=>simp only[Oper.upon]at h ⊢;exact⟨h,.inr hk⟩
      |_=>simp only[Oper.upon]at h
   . simp only[hw]at h ⊢
     exact ih _ _ (hk.put hod undef) h
theorem K0 {id:Nat} {ops:Array Oper} {Q:Exit->Act->World->Prop} {m:Nat} {a0 a:Act} {w:World} (hops:ops.toList.all (Oq m)=true) (hk:LM m a0 a)
 (h:wpOps P ops Q (List.range ops.size) a w):(Code.region id ops false).wp P (Kept m a0 Q) a w:=wp_region (Rl hops _ a w hk h)
theorem FQ {id:Nat} {ops:Array Oper} {Q:Exit->Act->World->Prop} {m:Nat} {a0 a:Act} {w:World} (hops:ops.toList.all (Oq m)=true) (hk:LM m a0 a) (hm:P.follows .mixedOrders=true)
 (h:wpAny P .any ops Q ops.size (Array.replicate ops.size false) a {w with drawn:=w.drawn+1}):(Code.region id ops true).wp P (Kept m a0 Q) a w:=
 wp_region_draw λt=>by
  simp only[Region.schedule,hm,Bool.true_or,if_true]
  exact Rl hops _ a _ hk (wpAny_sound ops.size t _ a _ h)
def QF (G:Gi) (n:Nat) (w0:World) (S0 U0:Nat->Prop) (Q:Exit->Sg->Prop) (e:Exit) (a:Act) (w:World):Prop:=∃σ,Rel G n w0 S0 U0 a w σ/\Q e σ
def rG (G:Gi) (n:Nat) (w0:World) (S0 U0:Nat->Prop) (m:Nat) (a0:Act) (Q:Exit->Sg->Prop):Exit->Act->World->Prop:=Kept m a0 (QF G n w0 S0 U0 Q)
theorem Rel.drew {n:Nat} {w0:World} {S0 U0:Nat->Prop} {a:Act} {σ:Sg} (h:Rel G n w0 S0 U0 a w σ):Rel G n w0 S0 U0 a {w with drawn:=w.drawn+1} σ:=by
 obtain⟨S,δ,Fr,hn,hdef,ha,her,hst,hnx,hlt⟩:=h
 exact⟨S,δ,Fr,hn,hdef,ha,her,hst.world (λ_ _=>rfl) (λ_ _ _=>rfl) (λ_ h=>h) (λs x hx=>(hst.ok s).D6 x hx),⟨hnx.os,hnx.tape,hnx.output,hnx.size,hnx.block,hnx.sub,hnx.sup,hnx.lt,hnx.own⟩,hlt⟩
theorem Rel.gz {n:Nat} {w0:World} {S0 U0:Nat->Prop} {a:Act} {σ τ:Sg} {r:Nat} {p:List Step} {v:AV} (h:Rel G n w0 S0 U0 a w σ) (hf:LP G r p σ=some (v,τ)):Rel G n w0 S0 U0 a w τ:=by
 obtain⟨S,δ,Fr,hn,hdef,ha,rfl,hst,hnx,hlt⟩:=h
 obtain⟨δ',F',Fo,v,bx,k,rows,hst',her,hann,_,_,_,hdis,hown,_⟩:=hst.LP hf
 have hFo:∀x,Fo x->x<w.heap.size:=λx hx=>by obtain⟨t,ht⟩:=hown x (.inr hx);exact(hst.ok t).lt x ht
 exact⟨_,δ',F',hn,hdef,λs=>(ha s).trans (hann s).symm,her,hst',hnx.trans (Nx.Gj (λx hx=>hown x hx) hFo),λb hb=>hb.elim (hlt b) (hFo b)⟩
theorem iT {v:Value} {bx:Bool} {k:Nat} {rows:List (List DV)} {F:Nat->Prop} (h:Ok w S (.own v bx k rows) F):∃rows' Fc,rows'.map (·.map DV.er)=(rows.map (·.map DV.er)).map (·.map Gj)/\(∀x,Fc x->F x)/\Ok w (λx=>S x∨(F x/\¬Fc x)) (.own v bx k rows') Fc:=by
 cases h with
 |nil _ _ hF=>exact⟨[],F,rfl,λ_ h=>h,.nil k F hF⟩
 |own _ _ _ b c arr E Fs _ hb hk hcap hSb hv hr hd hval hbF hF=>
  obtain⟨Rs,hl,hRs⟩:=Hm rows (λi row (R:List DV)=>R.length=row.length/\∀(j:Nat) d,row[j]? =some d->∃D,R[j]? =some D/\(D.er=Gj d.er/\D.Al=d.Al/\Ok w (λx=>S x∨Fs i j x) D (λ_=>False))) (by
   intro i row hi
   exact Hm row (λj d D=>D.er=Gj d.er/\D.Al=d.Al/\Ok w (λx=>S x∨Fs i j x) D (λ_=>False)) (by
    intro j d hj
    obtain⟨D,h1,h2,h3,_⟩:=MS (δ:=λ_=>default) (hr i j row d hi hj)
    exact⟨D,h1,h2,h3⟩))
  have e:Rs.map (·.map DV.er)=(rows.map (·.map DV.er)).map (·.map Gj):=by
   refine map_mk hl hRs _ _ (by simp) λi row R hΦ hc=> ?_
   simp only[List.getElem?_map,hc,Option.map_some,Option.some.injEq]
   exact(map_mk hΦ.1 hΦ.2 _ _ (by simp) λj d D hd hc=>by simp[hc,hd.1]).symm
  refine⟨Rs,λx=>x=b,e,λx hx=>(hF x).2 (.inl hx),?_⟩
  rw[← hl]
  refine .own bx k Rs b c arr E (λ_ _ _=>False) _ hb ?_ (by rw[hl];exact hcap) ?_ ?_ ?_ (λ_ _ _ _ _ h=>h.elim) (λ_ _ _ h=>h.elim) (λ_ _ h=>h) (λx=>by simp)
  . intro R hR
    obtain⟨i,hi⟩:=List.getElem?_of_mem hR
    obtain⟨row,h1,h2⟩:=mem_mk hl hRs i R hi
    rw[h2.1];exact hk row (List.mem_of_getElem? h1)
  . rintro(h|⟨_,h⟩)
    . exact hSb h
    . exact h rfl
  . intro i j R D hR hD
    obtain⟨row,h1,h2⟩:=mem_mk hl hRs i R hR
    obtain⟨d,h3,h4⟩:=mem_mk h2.1 h2.2 j D hD
    rw[h4.2.1];exact hv i j row d h1 h3
  . intro i j R D hR hD
    obtain⟨row,h1,h2⟩:=mem_mk hl hRs i R hR
    obtain⟨d,h3,h4⟩:=mem_mk h2.1 h2.2 j D hD
    exact h4.2.2.mono (λ_ _=>rfl) (λ_ h=>h.elim) (λx hx=>hx.imp id λh=>⟨(hF x).2 (.inr ⟨i,j,h⟩),λe=>hbF i j (e▸h)⟩) (λ_ h=>h.elim)
theorem Rel.cz {n:Nat} {w0:World} {S0 U0:Nat->Prop} {a:Act} {σ τ:Sg} {r:Nat} {p:List Step} (h:Rel G n w0 S0 U0 a w σ) (hf:czS G r p σ=some τ):Rel G n w0 S0 U0 a w τ:=by
 obtain⟨S,δ,Fr,hn,hdef,ha,rfl,hst,hnx,hlt⟩:=h
 unfold czS at hf
 split at hf
 . rename_i b k rows hs
   split at hf
   . rename_i t hput
     obtain rfl:=Option.some.inj hf
     obtain⟨nD,hD,hDe⟩:=Cy (hst.ok r).Hw hs
     obtain⟨Fo,hokD,hsub,hrep⟩:=(hst.ok r).replace p hD
     cases nD with
     |own v b2 k2 rowsD=>
      simp only[DL,AV.own.injEq]at hDe
      obtain⟨rfl,rfl,hrows⟩:=hDe
      obtain⟨rows',Fc,e1,e2,e3⟩:=iT hokD
      obtain⟨tD,F2,htD,hokt,hiff,hann⟩:=hrep w (λx=>S x∨(Fo x/\¬Fc x)) (.own v b2 k2 rows') Fc (by simp) e3 (λx hx _=>e2 x hx) (λ_ _=>rfl) (λ_ _ _=>rfl) (λ_ h=>.inl h)
       (λx hx hno=>λh=>h.elim (λh=>(hst.ok r).D6 x hx h) λh=>hno h.1)
      have hte:tD.er=t:=by
       obtain⟨t',h1,h2⟩:=Gu (d:=δ r) (p:=p) (a:=t) (.own v b2 k2 rows') (hst.ok r).Hw (by simp only[DL,e1,hrows,← Pv];exact hput)
       rw[htD]at h1
       obtain rfl:=Option.some.inj h1
       exact h2
      have hF2:∀x,F2 x->Fr r x:=λx hx=>((hiff x).1 hx).elim (λh=>h.1) λh=>hsub x (e2 x h)
      have hst1:St G w (λx=>S x∨(Fo x/\¬Fc x)) (DF (Ec G (p.length+1) r δ) r tD) (DF Fr r F2):=
       hst.sO (p.length+1) r tD F2 (λ_ _=>rfl) (λ_ _ _ _=>rfl) (λ_ h=>.inl h) (λs hs' x hx h=>h.elim (λh=>(hst.ok s).D6 x hx h) λh=>hs' (hst.I0 s r x hx (hsub x h.1)))
        hokt (λs hs' x hx hy=>hs' (hst.I0 s r x hy (hF2 x hx))) (Kf p htD (hst.rt r) (by simp)) (LH p htD (hst.al r) (.own _ _ _ _))
        λq v' bx k' rows2 hq hsq=>OZ q p (by omega) htD (λ_ v3 bx3 k3 rows3 h3=>by rw[hD]at h3;cases h3;exact⟨_,rfl⟩) hsq
      refine⟨_,_,_,hn,hdef,λs=> ?_,?_,hst1,hnx.trans (Nx.Gj (λx hx=> ?_) λx hx=> ?_),?_⟩
      . rw[Lo hst];split
        . rename_i e;rw[e,hann];exact ha r
        . exact ha s
      . rw[NH hst,hte]
      . rcases hx with⟨s,hx⟩|hx
        . by_cases e:s=r
          . subst e;rw[A8]at hx;exact⟨_,hF2 x hx⟩
          . rw[BK _ _ e]at hx;exact⟨s,hx⟩
        . exact⟨r,hsub x hx.1⟩
      . exact(hst.ok r).lt x (hsub x hx.1)
      . exactλx hx=>hx.elim (hlt x) λh=>(hst.ok r).lt x (hsub x h.1)
     |lf a u=>simp only[Dj]at hDe;subst hDe;cases hokD with|lf _ _ _ h=>exact h.elim
     |agg=>simp at hDe
     |A9=>simp at hDe
   . cases hf
 . cases hf
theorem Rel.fJ {n:Nat} {w0:World} {S0 U0:Nat->Prop} {a:Act} {σ τ:Sg} {c:Bool} {r:Nat} {p:List Step} (h:Rel G n w0 S0 U0 a w σ) (hf:fJ G c r p σ=some τ):Rel G n w0 S0 U0 a w τ:=by
 unfold Abs.fJ at hf
 split at hf
 . exact h.cz hf
 split at hf
 . obtain rfl:=Option.some.inj hf;exact h
 . split at hf
   . rename_i v τ' hv
     obtain rfl:=Option.some.inj hf
     exact h.gz hv
   . cases hf
def isGz:IC->Bool
 | .gz .. =>true
 | .pg .. =>true
 |_=>false
theorem GF {n:Nat} {w0:World} {S0 U0:Nat->Prop} {m:Nat} {a0:Act} {c:Code} (h:∀ic,isGz ic=false->∀(Q:Exit->Sg->Prop) (a:Act) (w:World) (σ:Sg),Ei P G n c ic=true->Ej m c=true->LM m a0 a->Rel G n w0 S0 U0 a w σ->FZ P G ic Q σ->c.wp P (rG G n w0 S0 U0 m a0 Q) a w):
 ∀(ic:IC) (Q:Exit->Sg->Prop) (a:Act) (w:World) (σ:Sg),Ei P G n c ic=true->Ej m c=true->LM m a0 a->Rel G n w0 S0 U0 a w σ->FZ P G ic Q σ->c.wp P (rG G n w0 S0 U0 m a0 Q) a w:=by
 intro ic
 induction ic with
 |gz _ r p x ihx=>
  intro Q a w σ hc hdo hkp hr hw
  have hc':Ei P G n c x=true:=by cases c<;>simpa[Ei]using hc
  simp only[FZ]at hw
  split at hw
  . rename_i τ hf
    exact ihx Q a w τ hc' hdo hkp (hr.fJ hf) hw
  . exact hw.elim
 |pg _ r p x ihx=>
  intro Q a w σ hc hdo hkp hr hw
  have hc':Ei P G n c x=true:=by cases c<;>simpa[Ei]using hc
  refine wp_mono (ihx _ a w σ hc' hdo hkp hr hw) ?_
  rintro e a' w' ⟨⟨τ,h1,h2⟩,h3⟩
  refine⟨?_,h3⟩
  cases e with
  |normal=>
   simp only[uL]at h2
   split at h2
   . rename_i υ hf
     exact⟨υ,h1.fJ hf,h2⟩
   . exact h2.elim
  |_=>exact⟨τ,h1,h2⟩
 |_=>exact h _ rfl
theorem Sj {n:Nat} {w0:World} {S0 U0:Nat->Prop} (hG:Sa w0 S0 U0) (hm:P.follows .mixedOrders=true) {m:Nat} {a0:Act} (c:Code):∀(ic:IC) (Q:Exit->Sg->Prop) (a:Act) (w:World) (σ:Sg),Ei P G n c ic=true->Ej m c=true->LM m a0 a->Rel G n w0 S0 U0 a w σ->FZ P G ic Q σ->c.wp P (rG G n w0 S0 U0 m a0 Q) a w:=by
 induction c with
 |skip=>
  refine GF ?_
  intro ic hg Q a w σ hc hdo hkp h hw
  cases ic with
  |skip=>exact wp_skip ⟨⟨σ,h,hw⟩,.inr hkp⟩
  |bad=>exact hw.elim
  |gz=>cases hg
  |pg=>cases hg
  |_=>simp[Ei]at hc
 |region id ops d=>
  refine GF ?_
  intro ic hg Q a w σ hc hdo hkp h hw
  cases ic with
  |TO ios=>
   simp only[Ei,Bool.and_eq_true,Bool.or_eq_true,Bool.not_eq_true']at hc
   obtain⟨hc,Gs⟩:=hc
   cases d with
   |false=>
    refine K0 hdo hkp ?_
    have:=WD hG (P:=P) (G:=G) (ops:=ops) (K:=Q .normal) (QF G n w0 S0 U0 Q) (λa w σ h hk=>⟨σ,h,hk⟩) ios 0 h (by simpa using hc) hw
    rw[List.range_eq_range']
    simpa using this
   |true=>
    refine FQ hdo hkp hm ?_
    replace Gs:=Gs.resolve_left (by simp)
    exact U5 hG (P:=P) (G:=G) (K:=Q .normal) (QF G n w0 S0 U0 Q) (λa w σ h hk=>⟨σ,h,hk⟩) h.drew hc Gs hw
  |tZ f aZ9 bs=>
   cases d with
   |false=>simp[Ei]at hc
   |true=>
    simp only[Ei,Bool.and_eq_true,beq_iff_eq]at hc
    refine FQ hdo hkp hm ?_
    obtain⟨q,q0,q1,q2,q3⟩:=rS hw
    exact Yr hG (P:=P) (G:=G) (K:=Q .normal) (QF G n w0 S0 U0 Q) (λa w σ h hk=>⟨σ,h,hk⟩) h.drew hc.1 q q0 q1 q3 (λm hm=>q2 m (by omega))
  |Vt fs ios=>
   cases d with
   |false=>simp[Ei]at hc
   |true=>
    simp only[Ei]at hc
    refine FQ hdo hkp hm ?_
    exact Yq hG (P:=P) (G:=G) (K:=Q .normal) (QF G n w0 S0 U0 Q) (λa w σ h hk=>⟨σ,h,hk⟩) h.drew hc hw
  |tO f ios=>
   cases d with
   |false=>simp[Ei]at hc
   |true=>
    simp only[Ei]at hc
    refine FQ hdo hkp hm ?_
    exact YK hG (P:=P) (G:=G) (K:=Q .normal) (QF G n w0 S0 U0 Q) (λa w σ h hk=>⟨σ,h,hk⟩) h.drew hc hw
  |Z1 xs=>
   cases d with
   |true=>simp[Ei]at hc
   |false=>
    simp only[Ei]at hc
    refine K0 hdo hkp ?_
    have:=Ya hG (P:=P) (G:=G) (ops:=ops) (K:=Q .normal) (QF G n w0 S0 U0 Q) (λa w σ h hk=>⟨σ,h,hk⟩) xs 0 h (by simpa using hc) hw
    rw[List.range_eq_range']
    simpa using this
  |bad=>exact hw.elim
  |gz=>cases hg
  |pg=>cases hg
  |_=>simp[Ei]at hc
 |seq x y ihx ihy=>
  refine GF ?_
  intro ic hg Q a w σ hc hdo hkp h hw
  cases ic with
  |seq x' y'=>
   simp only[Ei,Bool.and_eq_true]at hc
   simp only[Ej,Bool.and_eq_true]at hdo
   refine wp_seq (wp_mono (ihx x' _ a w σ hc.1 hdo.1 hkp h hw) ?_)
   rintro e a' w' ⟨⟨σ',h',hq⟩,hk'⟩
   cases e with
   |normal=>exact ihy y' Q a' w' σ' hc.2 hdo.2 (hk'.resolve_left (by simp)) h' hq
   |_=>exact⟨⟨σ',h',hq⟩,hk'⟩
  |bad=>exact hw.elim
  |gz=>cases hg
  |pg=>cases hg
  |_=>simp[Ei]at hc
 |cond c x y ihx ihy=>
  refine GF ?_
  intro ic hg Q a w σ hc hdo hkp h hw
  cases ic with
  |cond c' x' y'=>
   simp only[Ei,Bool.and_eq_true]at hc
   obtain⟨⟨h1,h2⟩,h3⟩:=hc
   simp only[Ej,Bool.and_eq_true]at hdo
   rw[Uo]at hw
   split at hw
   . rename_i b hb
     have hev:a.eval c= .bool b:=by
      obtain⟨S,δ,Fr,hn,hdef,ha,rfl,hst,_⟩:=h
      obtain⟨hy,he⟩:=Aa h1 ha
      rw[he]
      exact(hst.De hy hb).1
     split at hw
     . rename_i hbt
       subst hbt
       exact wp_cond_true hev (ihx x' Q a w σ h2 hdo.1 hkp h hw)
     . rename_i hbf
       obtain rfl:b=false:=by simpa using hbf
       exact wp_cond_false hev (ihy y' Q a w σ h3 hdo.2 hkp h hw)
   . exact hw.elim
  |bad=>exact hw.elim
  |gz=>cases hg
  |pg=>cases hg
  |_=>simp[Ei]at hc
 |block id x ihx=>
  refine GF ?_
  intro ic hg Q a w σ hc hdo hkp h hw
  cases ic with
  |block id' x'=>
   simp only[Ei,Bool.and_eq_true,beq_iff_eq]at hc
   obtain⟨rfl,h2⟩:=hc
   simp only[Ej]at hdo
   refine wp_block (wp_mono (ihx x' _ a w σ h2 hdo hkp h hw) ?_)
   rintro e a' w' ⟨⟨σ',h',hq⟩,hk'⟩
   cases e with
   |exit i=>
    simp only[Exit.inBlock]
    rw[KJ]at hq
    have hk2:=hk'.resolve_left (by simp)
    split
    . rename_i hi;rw[if_pos hi]at hq;exact⟨⟨σ',h',hq⟩,.inr hk2⟩
    . rename_i hi;rw[if_neg hi]at hq;exact⟨⟨σ',h',hq⟩,.inr hk2⟩
   |_=>exact⟨⟨σ',h',hq⟩,hk'⟩
  |bad=>exact hw.elim
  |gz=>cases hg
  |pg=>cases hg
  |_=>simp[Ei]at hc
 |loop x ihx=>
  refine GF ?_
  intro ic hg Q a w σ hc hdo hkp h hw
  cases ic with
  |loop x'=>
   simp only[Ei]at hc
   obtain⟨I,⟨n0,h0⟩,hround⟩:=hw
   simp only[Ej]at hdo
   refine wp_loop_ghost (λk a w=>(∃σ,Rel G n w0 S0 U0 a w σ/\I k σ)/\LM m a0 a) n0 ⟨⟨σ,h,h0⟩,hkp⟩ ?_
   rintro k a' w' ⟨⟨τ,h',hI⟩,hk'⟩
   refine wp_mono (ihx x' _ a' w' τ hc hdo hk' h' (hround k τ hI)) ?_
   rintro e a2 w2 ⟨⟨σ2,h2,hq⟩,hk2⟩
   cases e with
   |normal=>
    obtain⟨k',hk,hI'⟩:=hq
    exact⟨k',hk,⟨σ2,h2,hI'⟩,hk2.resolve_left (by simp)⟩
   |_=>exact⟨⟨σ2,h2,hq⟩,hk2⟩
  |bad=>exact hw.elim
  |gz=>cases hg
  |pg=>cases hg
  |_=>simp[Ei]at hc
 |exit id=>
  refine GF ?_
  intro ic hg Q a w σ hc hdo hkp h hw
  cases ic with
  |exit id'=>
   simp only[Ei,beq_iff_eq]at hc
   subst hc
   exact wp_exit ⟨⟨σ,h,hw⟩,.inr hkp⟩
  |bad=>exact hw.elim
  |gz=>cases hg
  |pg=>cases hg
  |_=>simp[Ei]at hc
 |ret=>
  refine GF ?_
  intro ic hg Q a w σ hc hdo hkp h hw
  cases ic with
  |ret=>exact wp_ret ⟨⟨σ,h,hw⟩,.inr hkp⟩
  |bad=>exact hw.elim
  |gz=>cases hg
  |pg=>cases hg
  |_=>simp[Ei]at hc
 |rangeFunc=>refine GF ?_;intro ic hg Q a w σ hc hdo hkp h hw;cases ic with|bad=>exact hw.elim|gz=>cases hg|pg=>cases hg|_=>simp[Ei]at hc
 |scope=>refine GF ?_;intro ic hg Q a w σ hc hdo hkp h hw;cases ic with|bad=>exact hw.elim|gz=>cases hg|pg=>cases hg|_=>simp[Ei]at hc
 |label=>refine GF ?_;intro ic hg Q a w σ hc hdo hkp h hw;cases ic with|skip=>exact wp_label ⟨⟨σ,h,hw⟩,.inr hkp⟩|bad=>exact hw.elim|gz=>cases hg|pg=>cases hg|_=>simp[Ei]at hc
 |goto=>refine GF ?_;intro ic hg Q a w σ hc hdo hkp h hw;cases ic with|bad=>exact hw.elim|gz=>cases hg|pg=>cases hg|_=>simp[Ei]at hc
 |refuse=>refine GF ?_;intro ic hg Q a w σ hc hdo hkp h hw;cases ic with|bad=>exact hw.elim|gz=>cases hg|pg=>cases hg|_=>simp[Ei]at hc
end Go.Abs
namespace Go.Abs
variable {w w':World} {S S':Nat->Prop} {G:Gi} {δ:Nat->DV} {Fr:Nat->Nat->Prop} {P:Program}
def Uw (P:Program):ResultVar->RV->Bool
 | .tmp t,.tmp t'=>t==t'
 | .cell a t,.cell a' agg n=>a==a'&&EV P t==some n&&Gk P t==some agg&&(agg||n==1)
 |_,_=>false
def KK (P:Program):List ResultVar->List RV->Bool
 |[],[]=>true
 |r::rs,v::vs=>Uw P r v&&KK P rs vs
 |_,_=>false
def Mi (tmps:Array Value):ResultVar->Sem Value
 | .tmp t=>pure (tmps.getD t undef)
 | .cell a t=>do loadVar t (← asAddr (tmps.getD a undef))
theorem It {α β:Type} (f:α->Sem β) (x:α) (l:List α) {v:β} {vs:List β} (h1:(f x).run P w= .ok v w) (h2:(l.mapM f).run P w= .ok vs w):((x::l).mapM f).run P w= .ok (v::vs) w:=by
 rw[List.mapM_cons]
 simp[h1,h2]
theorem Ga {tmps:Array Value} (rvs:List ResultVar):∀{rs:List RV} {δ:Nat->DV} {Fr:Nat->Nat->Prop} {vs:List AV} {τ:Sg},St G w S δ Fr->(∀s,tmps.getD s undef=(δ s).Al)->KK P rvs rs=true->
 EF G rs (λs=>(δ s).er)=some (vs,τ)->∃(Ds:List DV) (FD:Nat->Prop),Ds.map DV.er=vs/\(rvs.mapM (Mi tmps)).run P w= .ok (Ds.map DV.Al) w/\HF w S Ds FD/\(∀x,FD x->A3 Fr x)/\
  ∃(δ':Nat->DV) (F':Nat->Nat->Prop),St G w S δ' F'/\(λs=>(δ' s).er)=τ/\(∀s,(δ' s).Al=(δ s).Al)/\(∀s x,F' s x->¬FD x)/\(∀x,A3 F' x->A3 Fr x):=by
 induction rvs with
 |nil=>
  intro rs δ Fr vs τ h ha hc ht
  cases rs with
  |nil=>simp only[EF,Option.some.injEq,Prod.mk.injEq]at ht;obtain⟨rfl,rfl⟩:=ht;exact⟨[],λ_=>False,rfl,by simp,λ_ h=>h,λ_ h=>h.elim,δ,Fr,h,rfl,λ_=>rfl,λ_ _ _ h=>h,λ_ h=>h⟩
  |cons=>simp[KK]at hc
 |cons rv rvs ih=>
  intro rs δ Fr vs τ h ha hc ht
  cases rs with
  |nil=>simp[KK]at hc
  |cons r rs=>
   simp only[KK,Bool.and_eq_true]at hc
   obtain⟨hc1,hc2⟩:=hc
   cases r with
   |tmp t=>
    cases rv with
    |cell=>simp[Uw]at hc1
    |tmp t'=>
     simp only[Uw,beq_iff_eq]at hc1
     subst hc1
     simp only[EF]at ht
     split at ht
     . rename_i v τ1 htk
       split at ht
       . rename_i vs' τ' hrec
         simp only[Option.some.injEq,Prod.mk.injEq]at ht
         obtain⟨rfl,rfl⟩:=ht
         obtain⟨δ',F',D,Ff,hfly,her,hDe,hDa⟩:=h.tk (x:=.t t') trivial htk
         subst her
         obtain⟨Ds,FD,g1,g2,g3,g4,δ2,F2,k1,k2,k3,k4,k5⟩:=ih hfly.st (λs=>(ha s).trans (hfly.Al s).symm) hc2 hrec
         refine⟨D::Ds,λx=>Ff x∨FD x,by simp[hDe,g1],?_,⟨Ff,FD,hfly.ok,g3,?_,λx=>Iff.rfl⟩,?_,δ2,F2,k1,k2,λs=>(k3 s).trans (hfly.Al s),?_,λx hx=>hfly.own x (.inl (k5 x hx))⟩
         . refine It _ _ _ ?_ g2
           simp[Mi,ha,hDa,CY]
         . intro x hx hy
           obtain⟨s,hs⟩:=g4 x hy
           exact hfly.I0 s x hs hx
         . rintro x (hx|hx)
           . exact hfly.own x (.inr hx)
           . exact hfly.own x (.inl (g4 x hx))
         . rintro s x hx (hy|hy)
           . obtain⟨s',hs'⟩:=k5 x ⟨s,hx⟩;exact hfly.I0 s' x hs' hy
           . exact k4 s x hx hy
       . cases ht
     . cases ht
   |cell a agg n=>
    cases rv with
    |tmp=>simp[Uw]at hc1
    |cell a' t=>
     simp only[Uw,Bool.and_eq_true,beq_iff_eq,Bool.or_eq_true]at hc1
     obtain⟨⟨⟨rfl,hn⟩,hg⟩,hg1⟩:=hc1
     simp only[EF]at ht
     split at ht
     . rename_i k row hs
       split at ht
       . rename_i v hv
         split at ht
         . rename_i vs' τ' hrec
           simp only[Option.some.injEq,Prod.mk.injEq]at ht
           obtain⟨rfl,rfl⟩:=ht
           obtain⟨rowsD,hd,hrow⟩:=h.Qv hs
           have hok:=h.ok a'
           rw[hd]at hok
           match rowsD,hrow with
           |[rowD],hrow=>
            simp only[List.map_cons,List.map_nil,List.cons.injEq,and_true]at hrow
            generalize hva:(δ a').Al=va at*
            cases hok with
            |own _ _ _ b c arr E Fs _ hb hk hcap hSb hvv hr hdd hval hbF hF=>
             have hkr:rowD.length=k:=hk rowD (by simp)
             simp only[if_true]at hcap
             have hokL:HF w S rowD (λx=>∃j,Fs 0 j x):=by
              refine Gy.2 ⟨λj=>Fs 0 j,λj d hj=>hr 0 j rowD d rfl hj,λi i' x hx hy=>(hdd 0 i 0 i' x hx hy).2,λj x hx=> ?_,λx=>Iff.rfl⟩
              obtain⟨row',d,h1,h2⟩:=hval 0 j x hx
              simp only[List.getElem?_cons_zero,Option.some.injEq]at h1
              exact⟨d,h1▸h2⟩
             have hlen:rowD.length=n:=by
              have:row.length=n:=by
               unfold GA at hv
               split at hv
               . assumption
               . cases hv
              rw[← this,← hrow];simp
             have hst:=h.set (w':=w) (S':=S) a' (.lf .dead (Gs true b 1 c)) (λ_=>False) (λ_ _=>rfl) (λ_ _ _ _=>rfl) (λ_ h=>h) (λs _ x hx=>(h.ok s).D6 x hx) (.lf _ _ _ trivial (λ_ h=>h)) (λ_ _ _ h=>h.elim) (by simp) (.lf _ _ trivial)
             have her:(λs=>(DF (Ex G a' δ) a' (.lf .dead (Gs true b 1 c)) s).er)=DF (Gt G a' λs=>(δ s).er) a' .dead:=by
              funext s
              simp only[DF]
              split
              . simp
              . exact h.VH a' s
             rw[← her]at hrec
             have hann:∀s,tmps.getD s undef=(DF (Ex G a' δ) a' (.lf .dead (Gs true b 1 c)) s).Al:=by
              intro s
              simp only[DF]
              split
              . rename_i e;subst e;rw[ha,hva];simp
              . rw[ha,h.OV a' s]
             obtain⟨Ds,FD,g1,g2,g3,g4,δ2,F2,q1,q2,q3,q4,q5⟩:=ih hst hann hc2 hrec
             have q3':∀s,(δ2 s).Al=(δ s).Al:=λs=>by rw[q3 s,← hann s,ha]
             have q5':∀x,A3 F2 x->A3 Fr x/\¬∃j,Fs 0 j x:=by
              intro x hx
              obtain⟨s,hs⟩:=q5 x hx
              simp only[DF]at hs
              split at hs
              . exact hs.elim
              . rename_i hne
                exact⟨⟨s,hs⟩,λ⟨j,hj⟩=>hne (h.I0 s a' x hs ((hF x).2 (.inr ⟨0,j,hj⟩)))⟩
             have hload:(loadVar t ⟨b,0,none⟩).run P w= .ok (if agg=true then .agg (rowD.map DV.Al).toArray else(rowD.map DV.Al).headD undef) w:=by
              refine Hi hn hg hg1 (by simp[hlen]) ?_
              intro j v hj
              simp only[List.getElem?_map]at hj
              cases hjd:rowD[j]? with
              |none=>simp[hjd]at hj
              |some d=>
               simp only[hjd,Option.map_some,Option.some.injEq]at hj
               subst hj
               have:=hvv 0 j rowD d rfl hjd
               simp only[World.cell?,hb]
               simpa using this
             have hone:(Mi tmps (.cell a' t)).run P w= .ok (if agg=true then .agg (rowD.map DV.Al).toArray else(rowD.map DV.Al).headD undef) w:=by
              simp only[Mi,ha,hva,Gs,if_true]
              simpa[asAddr]using hload
             have hout:∀x,(∃j,Fs 0 j x)->A3 Fr x:=λx ⟨j,hx⟩=>⟨a',(hF x).2 (.inr ⟨0,j,hx⟩)⟩
             have hdis:∀x,(∃j,Fs 0 j x)->¬FD x:=by
              intro x ⟨j,hx⟩ hy
              obtain⟨s,hs⟩:=g4 x hy
              simp only[DF]at hs
              split at hs
              . exact hs
              . rename_i hne
                exact hne (h.I0 s a' x hs ((hF x).2 (.inr ⟨0,j,hx⟩)))
             have hFDo:∀x,FD x->A3 Fr x:=by
              intro x hx
              obtain⟨s,hs⟩:=g4 x hx
              simp only[DF]at hs
              split at hs
              . exact hs.elim
              . exact⟨s,hs⟩
             unfold GA at hv
             split at hv
             . cases agg with
               |true=>
                simp only[if_true,Option.some.injEq]at hv hone
                subst hv
                refine⟨.agg rowD::Ds,λx=>(∃j,Fs 0 j x)∨FD x,by simp[hrow,g1],?_,⟨_,FD,BQ.2 hokL,g3,hdis,λx=>Iff.rfl⟩,?_,δ2,F2,q1,q2,q3',?_,λx hx=>(q5' x hx).1⟩
                . have:=It _ _ _ hone g2
                  simpa using this
                . rintro x (hx|hx)
                  . exact hout x hx
                  . exact hFDo x hx
                . rintro s x hx (hy|hy)
                  . exact(q5' x ⟨s,hx⟩).2 hy
                  . exact q4 s x hx hy
               |false=>
                simp only[Bool.false_eq_true,if_false]at hv hone
                split at hv
                . rename_i c0 hn1
                  simp only[Option.some.injEq]at hv
                  subst hv
                  match rowD,hrow with
                  |[D0],hrow=>
                   simp only[List.map_cons,List.map_nil,List.cons.injEq,and_true]at hrow
                   obtain⟨F1,F2q,k1,k2,k3,k4⟩:=hokL
                   refine⟨D0::Ds,λx=>F1 x∨FD x,by simp[hrow,g1],?_,⟨_,FD,k1,g3,λx hx=>hdis x ((k4 x).2 (.inl hx)),λx=>Iff.rfl⟩,?_,δ2,F2,q1,q2,q3',?_,λx hx=>(q5' x hx).1⟩
                   . have:=It _ _ _ hone g2
                     simpa using this
                   . rintro x (hx|hx)
                     . exact hout x ((k4 x).2 (.inl hx))
                     . exact hFDo x hx
                   . rintro s x hx (hy|hy)
                     . exact(q5' x ⟨s,hx⟩).2 ((k4 x).2 (.inl hy))
                     . exact q4 s x hx hy
                . cases hv
             . cases hv
         . cases ht
       . cases ht
     . cases ht
def Ti:AV->Bool
 | .sc _| .sl .. | .dead| .fp _| .own .. | .Wn .. =>true
 |_=>false
def G1:AV->Bool
 | .agg cs=>cs.all Ti
 | .A9 cs=>cs.all Ti
 |a=>Ti a
theorem QL {L:List Nat} {a:AV} (h:Ti a=true):D9 L a=true:=by cases a<;>simp_all [Ti,D9]
theorem Sf {L:List Nat} {a:AV} (h:G1 a=true):D9 L a=true:=by
 cases a with
 |agg cs=>simp only[G1,List.all_eq_true]at h;rw[D9,Py,List.all_eq_true];exactλx hx=>QL (h x hx)
 |A9 cs=>simp only[G1,List.all_eq_true]at h;rw[D9,Py,List.all_eq_true];exactλx hx=>QL (h x hx)
 |_=>exact QL h
theorem Tj {d:DV} (hl:Sc d) (h:Ti d.er=true):Cd δ d:=by
 cases hl with
 |lf a v hl=>refine .lf _ _ ?_;simp only[Dj]at h;cases a<;>simp_all [Ti,Ip]
 |own=>exact .own _ _ _ _
 |agg=>simp[Ti]at h
 |A9=>simp[Ti]at h
theorem Uk {d:DV} (hl:Sc d) (h:G1 d.er=true):Cd δ d:=by
 cases hl with
 |lf a v hl=>exact Tj (.lf a v hl) (by simp only[Dj]at h ⊢;cases a<;>simp_all [G1,CB])
 |own=>exact .own _ _ _ _
 |agg cs hr=>simp only[E1,G1,List.all_map,List.all_eq_true,Function.comp]at h;exact .agg _ λi d hd=>Tj (hr i d hd) (h d (List.mem_of_getElem? hd))
 |A9 cs hr=>simp only[Gh,G1,List.all_map,List.all_eq_true,Function.comp]at h;exact .A9 _ λi d hd=>Tj (hr i d hd) (h d (List.mem_of_getElem? hd))
structure FI where
 c:IC
 g:Gi
 r:List RV
def I2 (P:Program) (fn:Func) (I:FI):Bool:=
 (match fn.body with
 |some c=>Ei P I.g fn.ntmps c I.c
 |none=>false)&&KK P fn.results.toList I.r&&I.g.rt.all (λx=> !x.2.contains x.1)
theorem X2 {G:Gi} (h:G.rt.all (λx=> !x.2.contains x.1)=true) (s:Nat):s∉G.Ee s:=by
 unfold Gi.Ee
 split
 . rename_i x hx
   have hm:=List.mem_of_find?_eq_some hx
   have hp:=List.find?_some hx
   simp only[List.all_eq_true]at h
   have:=h _ hm
   simp only[beq_iff_eq]at hp
   rw[← hp]
   simpa using this
 . simp
theorem Qd (ds:List DV) (n s:Nat):((ds.map DV.Al).toArray++Array.replicate (n-(ds.map DV.Al).toArray.size) undef).getD s undef=(ds.getD s (.lf .un undef)).Al:=by
 simp only[Array.getD_eq_getD_getElem?,Array.getElem?_append,List.getD_eq_getElem?_getD]
 simp only[List.size_toArray,List.length_map]
 split
 . rename_i h;simp[h]
 . rename_i h
   simp only[Array.getElem?_replicate]
   rw[List.getElem?_eq_none (by omega)]
   split<;>simp
def Jw:List DV->DV
 |[d]=>d
 |ds=>.A9 ds
theorem Nb (ds:List DV):(Jw ds).er=one (ds.map DV.er):=by
 match ds with
 |[]=>simp[Jw,one]
 |[d]=>simp[Jw,one]
 |_::_::_=>simp[Jw,one]
theorem JQ {ds:List DV} {F:Nat->Prop} (h:HF w S ds F):Ok w S (Jw ds) F:=by
 match ds with
 |[]=>exact A4.2 h
 |[d]=>
  obtain⟨F1,F2,h1,h2,h3,h4⟩:=h
  have:F=F1:=funext λx=>propext ⟨λhx=>((h4 x).1 hx).elim id λhf=>absurd hf (h2 x),λhx=>(h4 x).2 (.inl hx)⟩
  exact this▸h1
 |_::_::_=>exact A4.2 h
def Qx:List Value->Value
 |[v]=>v
 |vs=>.tuple vs.toArray
theorem Ve {fn:Func} {tmps:Array Value} {vs:List Value} (h:(fn.results.toList.mapM (Mi tmps)).run P w= .ok vs w):
 (results fn tmps).run P w= .ok (Qx vs) w:=by
 have e:results fn tmps=(do
  let vs ← fn.results.mapM (Mi tmps)
  pure (if h:vs.size=1 then vs[0]else .tuple vs)):=by
  unfold results
  congr 1
 rw[e,Array.mapM_eq_mapM_toList,map_eq_pure_bind,bind_assoc]
 have h1:∀(m:Sem (List Value)) (k:List Value->Sem Value),m.run P w= .ok vs w->(m >>= k).run P w=(k vs).run P w:=by
  intro m k hm
  simp[hm]
 rw[h1 _ _ h]
 match vs with
 |[]=>simp[Qx]
 |[v]=>simp[Qx]
 |_::_::_=>simp[Qx]
theorem K6 {f m:Nat} {fn:Func} {I:FI} {ds:List DV} {F:Nat->Prop} {Q:Exit->Sg->Prop} {R:Ending->World->Prop} (hm:P.follows .mixedOrders=true) (hf:P.funcs[f]? =some fn) (hc:I2 P fn I=true) (hn:ds.length≤fn.ntmps) (hargs:(ds.map DV.er).all G1=true)
 (hdo:∀c,fn.body=some c->Ej m c=true) (hgi:GI w S) (hok:Ok w S (.A9 ds) F) (hS:∀b,S b->b<w.heap.size) (h:FZ P I.g I.c Q (start (ds.map DV.er)))
 (hend:∀ex w1 S1 δ1 F1 (tmps:Array Value),Q ex (λs=>(δ1 s).er)->St I.g w1 S1 δ1 F1->Nx w S F w1 S1 (A3 F1)->(∀b,S1 b->b<w1.heap.size)->(∀s,tmps.getD s undef=(δ1 s).Al)->(ex= .outgrown∨∀i,i<m->tmps.getD i undef=(ds.getD i (.lf .un undef)).Al)->
  KK P fn.results.toList I.r=true->(ex= .normal∨ex= .ret)/\∃v,(results fn tmps).run P w1= .ok v w1/\R (.returned v) w1):Calls P f (ds.map DV.Al).toArray w R:=by
 simp only[I2,Bool.and_eq_true]at hc
 obtain⟨⟨hc1,hc2⟩,hc3⟩:=hc
 split at hc1
 . rename_i c hb
   obtain⟨Fs,hr,hd,hval,hF⟩:aC w S ds F:=by cases hok with|A9 _ Fs _ hr hd hval hF=>exact⟨Fs,hr,hd,hval,hF⟩
   have harg:∀(i:Nat) d,ds[i]? =some d->G1 d.er=true:=λi d hi=>by
    simp only[List.all_eq_true]at hargs
    exact hargs _ (List.mem_map_of_mem (List.mem_of_getElem? hi))
   refine calls_of_wp hf hb ?_
   let δ:Nat->DV:=λs=>ds.getD s (.lf .un undef)
   have hδ:∀s,(∃d,ds[s]? =some d/\δ s=d)∨(ds[s]? =none/\δ s= .lf .un undef):=by
    intro s
    cases hs:ds[s]? with
    |some d=>exact .inl ⟨d,rfl,by simp[δ,hs]⟩
    |none=>exact .inr ⟨rfl,by simp[δ,hs]⟩
   have hst:St I.g w S δ Fs:=by
    refine⟨λs=> ?_,λs t x=>hd s t x,λs=> ?_,λs=> ?_,X2 hc3⟩
    . rcases hδ s with⟨d,hs,e⟩|⟨hs,e⟩
      . rw[e];exact hr s d hs
      . rw[e]
        exact .lf _ _ _ rfl λx hx=>by obtain⟨d,hd⟩:=hval s x hx;rw[hs]at hd;cases hd
    . rcases hδ s with⟨d,hs,e⟩|⟨hs,e⟩
      . rw[e];exact Uk (hr s d hs).Hw (harg s d hs)
      . rw[e];exact .lf _ _ trivial
    . rcases hδ s with⟨d,hs,e⟩|⟨hs,e⟩
      . rw[e];exact Sf (harg s d hs)
      . rw[e];simp
   have hσ:(λs=>(δ s).er)=start (ds.map DV.er):=by
    funext s
    unfold start
    rcases hδ s with⟨d,hs,e⟩|⟨hs,e⟩
    . simp[e,hs]
    . simp[e,hs]
   have hrel:Rel I.g fn.ntmps w S F {tmps:=(ds.map DV.Al).toArray++Array.replicate (fn.ntmps-(ds.map DV.Al).toArray.size) undef,defers:=[]} w (start (ds.map DV.er)):=by
    refine⟨S,δ,Fs,by simp;omega,rfl,λs=>Qd ds fn.ntmps s,hσ,hst,Nx.less λx ⟨s,hx⟩=>(hF x).2 ⟨s,hx⟩,hS⟩
   refine wp_mono (Sj ⟨hgi,λb hb=>⟨λhf=>hok.D6 b hf hb,hS b hb⟩⟩ hm (m:=m) (a0:={tmps:=(ds.map DV.Al).toArray++Array.replicate (fn.ntmps-(ds.map DV.Al).toArray.size) undef,defers:=[]}) c I.c _ _ w _ hc1 (hdo c hb) (LM.refl _ _) hrel h) ?_
   rintro e a' w1 ⟨⟨σ,⟨S1,δ1,F1,hn1,hdef,ha1,rfl,hst1,hnx,hlt⟩,hq⟩,hkeep⟩
   obtain⟨hex,v,hv,hR⟩:=hend e w1 S1 δ1 F1 a'.tmps hq hst1 hnx hlt ha1 (hkeep.imp id λhk i hi=>(hk i hi).trans (Qd ds fn.ntmps i)) hc2
   rcases hex with rfl|rfl
   . exact⟨hdef,v,hv,hR⟩
   . exact⟨hdef,v,hv,hR⟩
 . cases hc1
theorem XX {rs:List RV} {res:AV} {e:Exit} {σ:Sg} (h:Ends G rs res e σ):e= .normal∨e= .ret:=by
 obtain⟨h,_⟩:=h
 cases e<;>simp_all
theorem N7 {fn:Func} {tmps:Array Value} {Ds:List DV} (h:(fn.results.toList.mapM (Mi tmps)).run P w= .ok (Ds.map DV.Al) w):(results fn tmps).run P w= .ok (Jw Ds).Al w:=by
 rw[Ve h]
 match Ds with
 |[]=>simp[Jw,Qx]
 |[d]=>simp[Jw,Qx]
 |_::_::_=>simp[Jw,Qx]
theorem Ij {f:Nat} {fn:Func} {I:FI} {args:List AV} {res:AV} (hm:P.follows .mixedOrders=true) (hf:P.funcs[f]? =some fn) (hc:I2 P fn I=true) (hn:args.length≤fn.ntmps) (hargs:args.all G1=true)
 (h:FZ P I.g I.c (Ends I.g I.r res) (start args)):Says P f args res:=by
 intro w S ds F hgi hds hok hS
 subst hds
 refine K6 (m:=0) hm hf hc (by simpa using hn) hargs (λc _=>KL c) hgi hok hS h ?_
 rintro ex w1 S1 δ1 F1 tmps hq hst1 hnx hlt ha1 _ hc2
 refine⟨XX hq,?_⟩
 obtain⟨_,vs,τ,htk,hone⟩:=hq
 obtain⟨Ds,FD,g1,g2,g3,g4,_⟩:=Ga fn.results.toList hst1 ha1 hc2 htk
 have hO:HF w1 S1 (ds.map λd=>DV.lf .dead d.Al) (λ_=>False):=by
  refine B4 λd hd=> ?_
  obtain⟨x,_,rfl⟩:=List.mem_map.1 hd
  exact .lf _ _ _ trivial (λ_ h=>h)
 exact⟨_,N7 g2,Jw Ds,ds.map λd=>DV.lf .dead d.Al,S1,FD,rfl,by rw[Nb,g1,hone],by simp,by simp,A4.2 ⟨FD,λ_=>False,JQ g3,hO,λ_ _ h=>h,λx=>by simp⟩,⟨hnx.os,hnx.tape,hnx.output,hnx.size,hnx.block⟩,hnx.sub,hnx.sup,hlt,λx hx=>hnx.own x (g4 x hx)⟩
def Nd (σ:Sg):Nat->List AV->Prop
 |_,[]=>True
 |i,o::os=>(match o with| .dead=>True|o=>σ i=o)/\Nd σ (i+1) os
def SZ (G:Gi) (rs:List RV) (res:AV) (outs:List AV) (e:Exit) (σ:Sg):Prop:=
 (match e with| .normal=>True| .ret=>True|_=>False)/\∃vs τ,EF G rs σ=some (vs,τ)/\one vs=res/\Nd τ 0 outs
def Yh (fn:Func) (m:Nat):Bool:=match fn.body with
 |some c=>Ej m c
 |none=>false
theorem Qy {δ':Nat->DV} {F':Nat->Nat->Prop} (hst:St G w S δ' F') (outs:List AV):∀(i:Nat),Nd (λs=>(δ' s).er) i outs->
 ∃os:List DV,os.map DV.er=outs/\os.map DV.Al=(List.range' i outs.length).map (λs=>(δ' s).Al)/\∃Fo,HF w S os Fo/\(∀x,Fo x->∃s,i≤s/\F' s x):=by
 induction outs with
 |nil=>intro i _;exact⟨[],rfl,rfl,λ_=>False,λ_ h=>h,λ_ h=>h.elim⟩
 |cons o outs ih=>
  intro i h
  obtain⟨h1,h2⟩:=h
  obtain⟨os,e1,e2,Fo,e3,e4⟩:=ih (i+1) h2
  have key:∃(D:DV) (FD:Nat->Prop),D.er=o/\D.Al=(δ' i).Al/\Ok w S D FD/\∀x,FD x->F' i x:=by
   by_cases hd:o= .dead
   . subst hd;exact⟨.lf .dead (δ' i).Al,λ_=>False,by simp,by simp,.lf _ _ _ trivial (λ_ h=>h),λ_ h=>h.elim⟩
   . refine⟨δ' i,F' i,?_,rfl,hst.ok i,λ_ h=>h⟩
     cases o<;>first|exact h1|exact absurd rfl hd
  obtain⟨D,FD,k1,k2,k3,k4⟩:=key
  refine⟨D::os,by simp[k1,e1],by simp[k2,e2,List.range'_succ],λx=>FD x∨Fo x,⟨FD,Fo,k3,e3,?_,λx=>Iff.rfl⟩,?_⟩
  . intro x hx hy
    obtain⟨s,hs,hs'⟩:=e4 x hy
    have:=hst.I0 i s x (k4 x hx) hs'
    omega
  . rintro x (hx|hx)
    . exact⟨i,Nat.le_refl _,k4 x hx⟩
    . obtain⟨s,hs,hs'⟩:=e4 x hx;exact⟨s,by omega,hs'⟩
theorem RT {f:Nat} {fn:Func} {I:FI} {args:List AV} {res:AV} {outs:List AV} (hm:P.follows .mixedOrders=true) (hf:P.funcs[f]? =some fn) (hc:I2 P fn I=true) (hD:Yh fn args.length=true) (hn:args.length≤fn.ntmps) (hargs:args.all G1=true) (hlo:outs.length=args.length)
 (h:FZ P I.g I.c (SZ I.g I.r res outs) (start args)):A5 P f args res outs:=by
 intro w S ds F hgi hds hok hS
 subst hds
 refine K6 (m:=ds.length) hm hf hc (by simpa using hn) hargs (λc hb=>by simp only[Yh,hb]at hD;simpa using hD) hgi hok hS h ?_
 rintro ex w1 S1 δ1 F1 tmps hq hst1 hnx hlt ha1 hkeep hc2
 have hex:ex= .normal∨ex= .ret:=by obtain⟨h,_⟩:=hq;cases ex<;>simp_all
 refine⟨hex,?_⟩
 obtain⟨_,vs,τ,htk,hone,hout⟩:=hq
 have hkp:=hkeep.resolve_left (by rcases hex with rfl|rfl<;>simp)
 obtain⟨Ds,FD,g1,g2,g3,g4,δ2,F2,k1,k2,k3,k4,k5⟩:=Ga fn.results.toList hst1 ha1 hc2 htk
 rw[← k2]at hout
 obtain⟨os,e1,e2,Fo,e3,e4⟩:=Qy k1 outs 0 hout
 have hann:os.map DV.Al=ds.map DV.Al:=by
  rw[e2]
  have hl:outs.length=ds.length:=by simpa using hlo
  rw[hl]
  apply List.ext_getElem?
  intro i
  simp only[List.getElem?_map]
  by_cases hi:i<ds.length
  . rw[List.getElem?_range' (by simpa using hi),List.getElem?_eq_getElem hi]
    simp only[Nat.zero_add,Nat.one_mul,Option.map_some,Option.some.injEq]
    rw[k3,← ha1,hkp i hi]
    simp[hi]
  . rw[List.getElem?_eq_none (by simp;omega),List.getElem?_eq_none (by omega)]
    rfl
 refine⟨_,N7 g2,Jw Ds,os,S1,λx=>FD x∨Fo x,rfl,by rw[Nb,g1,hone],e1,hann,A4.2 ⟨FD,Fo,JQ g3,e3,?_,λx=>Iff.rfl⟩,⟨hnx.os,hnx.tape,hnx.output,hnx.size,hnx.block⟩,hnx.sub,hnx.sup,hlt,?_⟩
 . intro x hx hy
   obtain⟨s,_,hs⟩:=e4 x hy
   exact k4 s x hs hx
 . rintro x (hx|hx)
   . exact hnx.own x (g4 x hx)
   . obtain⟨s,_,hs⟩:=e4 x hx;exact hnx.own x (k5 x ⟨s,hs⟩)
end Go.Abs
namespace Go.Abs
open Go.Sort
variable {w w':World} {S S':Nat->Prop} {P:Program}
def ints (l:List Int):List (List AV):=l.map λz=>[AV.sc (.int .i64 z)]
theorem cW (l:List Int) (i:Nat):(ints l)[i]? =(l[i]?).map λz=>[AV.sc (.int .i64 z)]:=by simp[ints]
theorem Qz {d:DV} {F:Nat->Prop} {zs:List Int} (h:Ok w S d F) (he:d.er= .own false 1 (ints zs)):
 (d.Al= .slice none 0 0/\zs=[]/\∀x,¬F x)∨∃b c arr E,d.Al= .slice (some ⟨b,0,none⟩) zs.length c/\w.heap[b]? =some (.cells arr E (0,0))/\c=arr.size/\zs.length≤c/\¬S b/\
  (∀(i:Nat) (z:Int),zs[i]? =some z->arr[i]? =some (.int .i64 z))/\(∀x,F x↔x=b):=by
 cases h with
 |lf a v _ ha hF=>simp only[Dj]at he;subst he;exact ha.elim
 |agg=>simp at he
 |A9=>simp at he
 |nil k _ hF=>
  simp only[DL,List.map_nil,AV.own.injEq,true_and]at he
  left
  refine⟨by simp,?_,hF⟩
  have:=congrArg List.length he.2
  simpa[ints]using this.symm
 |own bx k rows b c arr E Fs _ hb hk hcap hSb hv hr hd hval hbF hF=>
  simp only[DL,AV.own.injEq]at he
  obtain⟨rfl,rfl,he⟩:=he
  right
  have hlen:rows.length=zs.length:=by have:=congrArg List.length he;simpa[ints]using this
  simp only[Bool.false_eq_true,if_false,Nat.mul_one]at hcap
  have hcell:∀(i:Nat) (z:Int),zs[i]? =some z->∃d v,rows[i]? =some [d]/\d= .lf (.sc (.int .i64 z)) v/\v= .int .i64 z:=by
   intro i z hz
   have h1:(rows.map (·.map DV.er))[i]? =some [AV.sc (.int .i64 z)]:=by rw[he,cW,hz];rfl
   rw[List.getElem?_map]at h1
   cases hri:rows[i]? with
   |none=>simp[hri]at h1
   |some row=>
    simp only[hri,Option.map_some,Option.some.injEq]at h1
    obtain⟨d,rfl,h2⟩:=List.map_eq_singleton_iff.1 h1
    clear h1
    have h1:=h2
    clear h2
    have hok:=hr i 0 [d] d hri rfl
    cases hok with
    |lf a v _ ha hF=>rw[Dj]at h1;subst h1;exact⟨_,v,rfl,rfl,ha.1⟩
    |nil=>simp at h1
    |own=>simp at h1
    |agg=>simp at h1
    |A9=>simp at h1
  refine⟨b,c,arr,E,by simp[Gs,hlen],hb,hcap.1,by omega,hSb,?_,?_⟩
  . intro i z hz
    obtain⟨d,v,h1,rfl,rfl⟩:=hcell i z hz
    have:=hv i 0 _ _ h1 rfl
    simpa using this
  . intro x
    rw[hF x]
    constructor
    . rintro(h|⟨i,j,h⟩)
      . exact h
      . obtain⟨row,d,h1,h2⟩:=hval i j x h
        have hi:i<zs.length:=by rw[← hlen];exact(List.getElem?_eq_some_iff.1 h1).1
        obtain⟨d',v,h3,rfl,_⟩:=hcell i zs[i] (List.getElem?_eq_getElem hi)
        rw[h1]at h3
        obtain rfl:=Option.some.inj h3
        have hj:j=0:=by have:=(List.getElem?_eq_some_iff.1 h2).1;simp at this;exact this
        subst hj
        simp only[List.getElem?_cons_zero,Option.some.injEq]at h2
        subst h2
        have hok:=hr i 0 _ _ h1 rfl
        cases hok with
        |lf _ _ _ _ hF'=>exact absurd h (hF' x)
    . exact .inl
theorem T0 {b c:Nat} {arr:Array Value} {E:TypeId} {zs:List Int} (hb:w.heap[b]? =some (.cells arr E (0,0))) (hc:c=arr.size) (hl:zs.length≤c) (hS:¬S b) (hz:∀(i:Nat) (z:Int),zs[i]? =some z->arr[i]? =some (.int .i64 z)):
 ∃d,d.er= .own false 1 (ints zs)/\d.Al= .slice (some ⟨b,0,none⟩) zs.length c/\Ok w S d (λx=>x=b):=by
 have hrow:∀(i j:Nat) row d,(zs.map λz=>[DV.lf (.sc (.int .i64 z)) (.int .i64 z)])[i]? =some row->row[j]? =some d->∃z,zs[i]? =some z/\j=0/\d= .lf (.sc (.int .i64 z)) (.int .i64 z):=by
  intro i j row d h1 h2
  rw[List.getElem?_map]at h1
  cases hi:zs[i]? with
  |none=>simp[hi]at h1
  |some z=>
   simp only[hi,Option.map_some,Option.some.injEq]at h1
   subst h1
   have hj:j=0:=by have:=(List.getElem?_eq_some_iff.1 h2).1;simp at this;exact this
   subst hj
   simp only[List.getElem?_cons_zero,Option.some.injEq]at h2
   exact⟨z,rfl,rfl,h2.symm⟩
 have hok:=Ok.own (w:=w) (S:=S) false 1 (zs.map λz=>[DV.lf (.sc (.int .i64 z)) (.int .i64 z)]) b c arr E (λ_ _ _=>False) (λx=>x=b) hb (by simp) (by simp[hc];omega) hS
  (by intro i j row d h1 h2;obtain⟨z,h3,rfl,rfl⟩:=hrow i j row d h1 h2;simpa using hz i z h3)
  (by intro i j row d h1 h2;obtain⟨z,h3,rfl,rfl⟩:=hrow i j row d h1 h2;exact .lf _ _ _ ⟨rfl,rfl⟩ (λ_ h=>h))
  (λ_ _ _ _ _ h=>h.elim) (λ_ _ _ h=>h.elim) (λ_ _ h=>h) (λx=>by simp)
 exact⟨_,by simp[ints],by simp[Gs],hok⟩
theorem MT {b:Nat} {arr:Array Value} {E:TypeId} {zs:List Int} (hb:w.heap[b]? =some (.cells arr E (0,0))) (hz:∀(i:Nat) (z:Int),zs[i]? =some z->arr[i]? =some (.int .i64 z)):Holds (Value.int .i64) w b 0 zs.toArray:=by
 intro j hj
 have hj':j<zs.length:=by simpa using hj
 refine⟨?_,by simp[World.frozen?,hb]⟩
 have:=hz j zs[j] (List.getElem?_eq_getElem hj')
 simp only[World.cell?,hb,Nat.zero_add]
 simp[this,hj']
theorem Qg {g n:Nat} {os:Array Obj} {cur:Array Value} {e:TypeId} {fr:Nat×Nat} (d:Array Int) (hb:w.heap[g]? =some (.cells cur e fr)):
 (grow (putRow (Value.int .i64) (Sort.ahead w n) g 0 d) os).heap[g]? =some (.cells (putCells (Value.int .i64) 0 d cur) e fr):=by
 have hg:g<w.heap.size:=(Array.getElem?_eq_some_iff.1 hb).1
 rw[heap_grow_old _ _ (by simpa using hg)]
 simp[putRow,mapBlock,Sort.ahead,Array.getElem?_modify,hb,onCells]
theorem Ts {g n:Nat} {os:Array Obj} (d:Array Int) {F:Nat->Prop} (hF:F g):Ext w (grow (putRow (Value.int .i64) (Sort.ahead w n) g 0 d) os) F:=by
 refine⟨rfl,rfl,rfl,by simp,λk hk hne=> ?_⟩
 rw[heap_grow_old _ _ (by simpa using hk)]
 have:g≠k:=λe=>hne (e▸hF)
 simp[putRow,mapBlock,Sort.ahead,Array.getElem?_modify,this]
theorem XA {cur:Array Value} (ts:List Int) (h:ts.length≤cur.size):∀(i:Nat) (z:Int),ts[i]? =some z->(putCells (Value.int .i64) 0 ts.toArray cur)[i]? =some (.int .i64 z):=by
 intro i z hz
 obtain⟨hi,rfl⟩:=List.getElem?_eq_some_iff.1 hz
 simp[putCells,hi,show i<cur.size by omega]
theorem XJ {f:Nat}
 (hsort:∀(blk off cap:Nat) (zs:List Int) (w:World),Holds (Value.int .i64) w blk off zs.toArray->blk<w.heap.size->zs.length<4611686018427387904->
  Calls P f #[.slice (some ⟨blk,off,none⟩) zs.length cap] w λe w'=>e= .returned (.tuple #[])/\∃n os,w'=grow (putRow (Value.int .i64) (Sort.ahead w n) blk off (zs.mergeSort λx y=>decide (x≤y)).toArray) os)
 (hnone:∀(p:Option Addr) (cap:Nat) (w:World),Calls P f #[.slice p 0 cap] w λe w'=>e= .returned (.tuple #[])/\w'=w)
 (zs:List Int) (hl:zs.length<4611686018427387904):A5 P f [.own false 1 (ints zs)] (.A9 []) [.own false 1 (ints (zs.mergeSort λx y=>decide (x≤y)))]:=by
 intro w S ds F _ hds hok hS
 obtain⟨d,rfl,hdd⟩:=List.map_eq_singleton_iff.1 hds
 replace hds:=hdd
 obtain⟨F1,F2,h1,h2,_,h4⟩:=A4.1 hok
 have hF:∀x,F x↔F1 x:=λx=>by rw[h4 x];exact⟨λh=>h.elim id λh=>absurd h (h2 x),.inl⟩
 rcases Qz h1 hds with⟨ha,rfl,hno⟩|⟨b,c,arr,E,ha,hb,hc,hlc,hSb,hz,hFb⟩
 . simp only[List.map_cons,List.map_nil,ha]
   refine(hnone none 0 w).mono ?_
   rintro e w' ⟨rfl,rfl⟩
   refine⟨.A9 [],[d],S,F,by simp,by simp,by simpa using hds,by simp[ha],?_,⟨rfl,rfl,rfl,Nat.le_refl _,λ_ _ _=>rfl⟩,λ_ h=>h,λ_ h=>.inl h,hS,λ_ h=>.inl h⟩
   exact A4.2 ⟨λ_=>False,F,A4.2 (λ_ h=>h),⟨F1,F2,h1,h2,λx hx=>absurd hx (hno x),h4⟩,λ_ h=>h.elim,λx=>by simp⟩
 . simp only[List.map_cons,List.map_nil,ha]
   refine(hsort b 0 c zs w (MT hb hz) (Array.getElem?_eq_some_iff.1 hb).1 hl).mono ?_
   rintro e w' ⟨rfl,n,os,rfl⟩
   have hms:(zs.mergeSort λx y=>decide (x≤y)).length=zs.length:=by simp
   obtain⟨d',k1,k2,k3⟩:=T0 (S:=S) (c:=c) (Qg (n:=n) (os:=os) (zs.mergeSort λx y=>decide (x≤y)).toArray hb) (by simp[putCells,hc]) (by rw[hms];exact hlc) hSb (XA _ (by rw[hms];omega))
   refine⟨.A9 [],[d'],S,λx=>x=b,by simp,by simp,by simp[k1],by simp[k2],?_,Ts _ ((hF b).2 ((hFb b).2 rfl)),λ_ h=>h,λ_ h=>.inl h,λx hx=> ?_,λx hx=>.inl ((hF x).2 ((hFb x).2 hx))⟩
   . exact A4.2 ⟨λ_=>False,λx=>x=b,A4.2 (λ_ h=>h),⟨_,λ_=>False,k3,λ_ h=>h,λ_ _ h=>h,λx=>by simp⟩,λ_ h=>h.elim,λx=>by simp⟩
   . have:=hS x hx;simp;omega
theorem Ry {f:Nat}
 (hcomp:∀(blk off cap:Nat) (zs:List Int) (w:World),Holds (Value.int .i64) w blk off zs.toArray->zs.length≤9223372036854775807->zs.length≤cap->
  Calls P f #[.slice (some ⟨blk,off,none⟩) zs.length cap] w λe w'=>e= .returned (.slice (some ⟨blk,off,none⟩) (Lib.compact zs).length cap)/\∃q,w'=putRow (Value.int .i64) (Sort.ahead w q) blk off (Lib.compact zs++List.replicate (zs.length-(Lib.compact zs).length) 0).toArray)
 (hnone:∀(p:Option Addr) (cap:Nat) (w:World),Calls P f #[.slice p 0 cap] w λe w'=>e= .returned (.slice p 0 cap)/\w'=w)
 (zs:List Int) (hl:zs.length<4611686018427387904) (hle:(Lib.compact zs).length≤zs.length) (hnil:Lib.compact ([]:List Int)=[]):A5 P f [.own false 1 (ints zs)] (.own false 1 (ints (Lib.compact zs))) [.dead]:=by
 intro w S ds F _ hds hok hS
 obtain⟨d,rfl,hdd⟩:=List.map_eq_singleton_iff.1 hds
 replace hds:=hdd
 obtain⟨F1,F2,h1,h2,_,h4⟩:=A4.1 hok
 have hF:∀x,F x↔F1 x:=λx=>by rw[h4 x];exact⟨λh=>h.elim id λh=>absurd h (h2 x),.inl⟩
 have hdead:∀w',HF w' S [DV.lf .dead d.Al] (λ_=>False):=λw'=>B4 λx hx=>by simp at hx;subst hx;exact .lf _ _ _ trivial (λ_ h=>h)
 rcases Qz h1 hds with⟨ha,rfl,hno⟩|⟨b,c,arr,E,ha,hb,hc,hlc,hSb,hz,hFb⟩
 . simp only[List.map_cons,List.map_nil,ha]
   refine(hnone none 0 w).mono ?_
   rintro e w' ⟨rfl,rfl⟩
   refine⟨d,[.lf .dead d.Al],S,F1,by rw[ha],by rw[hds,hnil],by simp,by simp[ha],?_,⟨rfl,rfl,rfl,Nat.le_refl _,λ_ _ _=>rfl⟩,λ_ h=>h,λ_ h=>.inl h,hS,λx h=>.inl ((hF x).2 h)⟩
   exact A4.2 ⟨F1,λ_=>False,h1,hdead _,λ_ _ h=>h,λx=>by simp⟩
 . simp only[List.map_cons,List.map_nil,ha]
   refine(hcomp b 0 c zs w (MT hb hz) (by omega) hlc).mono ?_
   rintro e w' ⟨rfl,n,rfl⟩
   have hcl:(Lib.compact zs++List.replicate (zs.length-(Lib.compact zs).length) (0:Int)).length=zs.length:=by simp;omega
   have hh:=Qg (n:=n) (os:= #[]) (Lib.compact zs++List.replicate (zs.length-(Lib.compact zs).length) 0).toArray hb
   have he:=Ts (w:=w) (n:=n) (os:= #[]) (g:=b) (F:=F) (Lib.compact zs++List.replicate (zs.length-(Lib.compact zs).length) 0).toArray ((hF b).2 ((hFb b).2 rfl))
   rw[grow_empty]at hh he
   obtain⟨d',k1,k2,k3⟩:=T0 (S:=S) (c:=c) (zs:=Lib.compact zs) hh (by simp[putCells,hc]) (by omega) hSb (λi z hi=>XA (Lib.compact zs++List.replicate (zs.length-(Lib.compact zs).length) 0) (by rw[hcl];omega) i z (by
    rw[List.getElem?_append_left (List.getElem?_eq_some_iff.1 hi).1];exact hi))
   refine⟨d',[.lf .dead d.Al],S,λx=>x=b,by rw[k2],k1,by simp,by simp[ha],?_,he,λ_ h=>h,λ_ h=>.inl h,λx hx=> ?_,λx hx=>.inl ((hF x).2 ((hFb x).2 hx))⟩
   . exact A4.2 ⟨_,λ_=>False,k3,hdead _,λ_ _ h=>h,λx=>by simp⟩
   . have:=hS x hx;simpa using this
end Go.Abs
namespace Go.Abs
variable {P:Program} {G:Gi}
theorem FP {d:Option DU} {v:AV} {K K':Sg->Prop} {τ:Sg} (h:∀σ,K σ->K' σ) (ht:CJ d v K τ):CJ d v K' τ:=by
 unfold CJ at*
 split at ht
 . split at ht
   . exact h _ ht
   . exact ht.elim
 . exact h _ ht
theorem KF {o:A7} {K K':Sg->Prop} {σ:Sg} (h:∀σ,K σ->K' σ) (ht:HU P G o K σ):HU P G o K' σ:=by
 obtain⟨τ,h1,h2⟩:=KG.1 ht
 exact KG.2 ⟨τ,h1,h _ h2⟩
theorem K4 {K K':Sg->Prop} (h:∀σ,K σ->K' σ):∀{os:List A7} {σ:Sg},KH P G os K σ->KH P G os K' σ
 |[],_,ht=>h _ ht
 |_::_,_,ht=>KF (λ_ hx=>K4 h hx) ht
theorem IB {K K':Sg->Prop} (h:∀σ,K σ->K' σ):∀{xs:List V7} {σ:Sg},K5 P G xs K σ->K5 P G xs K' σ
 |[],_,ht=>h _ ht
 | .o _::_,_,ht=>KF (λ_ hx=>IB h hx) ht
 | .Ty d neg x::xs,σ,ht=>by
  simp only[K5]at ht ⊢
  split at ht
  . split at ht
    . exactλb hb=>FP (λ_ hx=>IB h hx) (ht b hb)
    . exact ht.elim
  . exact ht.elim
 | .uA d g n::xs,σ,ht=>by
  simp only[K5]at ht ⊢
  split at ht
  . exact FP (λ_ hx=>IB h hx) ht
  . exact ht.elim
 | .rM d n s::xs,σ,ht=>by
  simp only[K5]at ht ⊢
  split at ht
  . exact⟨ht.1,λus hu=>FP (λ_ hx=>IB h hx) (ht.2 us hu)⟩
  . exact ht.elim
 | .clo d f x args::xs,σ,ht=>by
  simp only[K5]at ht ⊢
  split at ht
  . obtain⟨res,h1,h3⟩:=ht
    refine⟨res,h1,?_⟩
    split at h3
    . exact FP (λ_ hx=>IB h hx) h3
    . exact h3.elim
  . exact ht.elim
theorem QJ {f:Zs} {K K':Sg->Prop} (h:∀σ,K σ->K' σ):∀{os:List A7} {m:Nat} {σ:Sg},Ja P G f m os K σ->Ja P G f m os K' σ
 |[],_,_,ht=>⟨ht.1,h _ ht.2⟩
 |_::_,_,_,ht=>⟨ht.1,KF (λ_ hx=>QJ h hx) ht.2⟩
theorem QI {f:Zt} {K K':Sg->Prop} (h:∀σ,K σ->K' σ):∀{os:List A7} {σ:Sg},Lp P G f os K σ->Lp P G f os K' σ
 |[],_,ht=>h _ ht
 |_::_,_,ht=>⟨ht.1,KF (λ_ hx=>QI h hx) ht.2⟩
theorem Up {ic:IC}:∀{Q Q':Exit->Sg->Prop} {σ:Sg},(∀e σ,Q e σ->Q' e σ)->FZ P G ic Q σ->FZ P G ic Q' σ:=by
 induction ic with
 |skip=>exactλh ht=>h _ _ ht
 |bad=>exactλ_ ht=>ht
 |Z1 xs=>exactλh ht=>IB (h .normal) ht
 |TO ops=>exactλh ht=>K4 (h .normal) ht
 |Vt fs ops=>exactλh ht=>K4 (h .normal) ht
 |tZ f a b=>exactλh ht=>QI (λ_ hx=>K4 (h .normal) hx) ht
 |tO f ops=>
  intro Q Q' σ h ht
  exact QJ (λ_ hx=>KF (h .normal) hx) ht
 |pg _ r p a iha=>
  intro Q Q' σ h ht
  refine iha (λe σ' hq=> ?_) ht
  cases e with
  |normal=>
   simp only[uL]at hq ⊢
   split at hq
   . exact h _ _ hq
   . exact hq.elim
  |_=>exact h _ _ hq
 |gz _ r p a iha=>
  intro Q Q' σ h ht
  simp only[FZ]at ht ⊢
  split at ht
  . exact iha h ht
  . exact ht.elim
 |seq a b iha ihb=>
  intro Q Q' σ h ht
  refine iha (λe σ' hq=> ?_) ht
  cases e with
  |normal=>exact ihb h hq
  |_=>exact h _ _ hq
 |cond c a b iha ihb=>
  intro Q Q' σ h ht
  rw[Uo]at ht ⊢
  split at ht
  . split at ht
    . rename_i hx;simp only[hx,if_true];exact iha h ht
    . rename_i hx;simp only[hx];exact ihb h ht
  . exact ht.elim
 |block id a iha=>
  intro Q Q' σ h ht
  refine iha (λe σ' hq=> ?_) ht
  cases e with
  |exit i=>
   rw[KJ]at hq ⊢
   split
   . rename_i hi;rw[if_pos hi]at hq;exact h _ _ hq
   . rename_i hi;rw[if_neg hi]at hq;exact h _ _ hq
  |_=>exact h _ _ hq
 |loop a iha=>
  intro Q Q' σ h ht
  obtain⟨I,h0,hr⟩:=ht
  refine⟨I,h0,λn τ hI=>iha (λe σ' hq=> ?_) (hr n τ hI)⟩
  cases e with
  |normal=>exact hq
  |_=>exact h _ _ hq
 |exit id=>exactλh ht=>h _ _ ht
 |ret=>exactλh ht=>h _ _ ht
abbrev si (n:Int):AV:=.sc (.int .i64 n)
abbrev sb (b:Bool):AV:=.sc (.bool b)
def eC (x:Option (List AV×Sg)) (res:AV):Prop:=match x with
 |some (vs,_)=>one vs=res
 |none=>False
theorem XE (vs:List AV) (τ:Sg) (res:AV):eC (some (vs,τ)) res=(one vs=res):=(rfl)
theorem Z6 (G:Gi) (rs:List RV) (res:AV) (σ:Sg):Ends G rs res .ret σ=eC (EF G rs σ) res:=by
 unfold Ends eC
 cases EF G rs σ with
 |none=>simp
 |some x=>obtain⟨vs,τ⟩:=x;simp
theorem one_one (v:AV):one [v]=v:=(rfl)
theorem jV (v u:AV) (l:List AV):one (v::u::l)= .A9 (v::u::l):=(rfl)
end Go.Abs
namespace Go.Abs
variable {P:Program} {G:Gi}
theorem ZB (d:Nat) (σ:Sg):Fh [] d σ=σ:=(rfl)
theorem Y7 (G:Gi) (n d:Nat) (σ:Sg) (s:Nat):Fq G n d σ s=if s∈G.JG d then Dk n d (σ s)else σ s:=(rfl)
theorem cY (G:Gi) (d:Nat) (σ:Sg) (s:Nat):Gt G d σ s=if s∈G.JG d then Cb d (σ s)else σ s:=(rfl)
theorem eU (args:List AV) (s:Nat):start args s=args.getD s .un:=(rfl)
def bK (x:Option Sg) (K:Sg->Prop):Prop:=match x with
 |some τ=>K τ
 |none=>False
theorem iJ (τ:Sg) (K:Sg->Prop):bK (some τ) K=K τ:=(rfl)
theorem iH (K:Sg->Prop):bK none K=False:=(rfl)
theorem gU (f:Zs) (ops:List A7) (Q:Exit->Sg->Prop) (σ:Sg):FZ P G (.tO f ops) Q σ=Ja P G f 0 ops (HU P G ⟨none,.st 1 (.t f.ap) (.t f.s),none⟩ (Q .normal)) σ:=(rfl)
theorem YI (f:Zs) (m:Nat) (K:Sg->Prop) (σ:Sg):Ja P G f m [] K σ=bK (if ZP f m σ=true then some σ else none) K:=by
 by_cases h:ZP f m σ=true<;>simp[Ja,bK,h]
theorem WC (f:Zs) (m:Nat) (o:A7) (os:List A7) (K:Sg->Prop) (σ:Sg):Ja P G f m (o::os) K σ=bK (if ZP f m σ=true then some σ else none) (HU P G o (Ja P G f (m+1) os K)):=by
 by_cases h:ZP f m σ=true<;>simp[Ja,bK,h]
theorem bF (d:Option DU) (x:Ar) (g:Option (Nat×Bool)) (K:Sg->Prop) (σ:Sg):C5 P G ⟨d,.q9 x,g⟩ K σ=bK (ES G (.q9 x) d σ) K:=(rfl)
theorem rJ (P:Program) (G:Gi) (c:Bool) (r:Nat) (p:List Step) (a:IC) (Q:Exit->Sg->Prop) (σ:Sg):FZ P G (.pg c r p a) Q σ=FZ P G a (uL G c r p Q) σ:=(rfl)
theorem W7 (G:Gi) (c:Bool) (r:Nat) (p:List Step) (Q:Exit->Sg->Prop) (σ:Sg):uL G c r p Q .normal σ=bK (fJ G c r p σ) (Q .normal):=(rfl)
theorem jX (G:Gi) (c:Bool) (r:Nat) (p:List Step) (Q:Exit->Sg->Prop) (σ:Sg):uL G c r p Q .ret σ=Q .ret σ:=(rfl)
theorem rI (P:Program) (G:Gi) (c:Bool) (r:Nat) (p:List Step) (a:IC) (Q:Exit->Sg->Prop) (σ:Sg):FZ P G (.gz c r p a) Q σ=bK (fJ G c r p σ) (FZ P G a Q):=(rfl)
def QU (x:AV) (a b:Sg->Prop) (σ:Sg):Prop:=match x with
 | .sc (.bool x)=>if x=true then a σ else b σ
 |_=>False
theorem Xi (a b:Sg->Prop) (σ:Sg):QU (.sc (.bool true)) a b σ=a σ:=by simp[QU]
theorem Xh (a b:Sg->Prop) (σ:Sg):QU (.sc (.bool false)) a b σ=b σ:=by simp[QU]
theorem YY (P:Program) (G:Gi) (c:Ar) (a b:IC) (Q:Exit->Sg->Prop) (σ:Sg):FZ P G (.cond c a b) Q σ=QU (ar σ c) (FZ P G a Q) (FZ P G b Q) σ:=(rfl)
def eQ (d:Option DU) (K:Sg->Prop) (σ:Sg):Prop:=match d with
 |some d=>K (DF (Fh d.kl d.d σ) d.d .un)
 |none=>K σ
theorem kF (d:DU) (K:Sg->Prop) (σ:Sg):eQ (some d) K σ=K (DF (Fh d.kl d.d σ) d.d .un):=(rfl)
theorem kE (K:Sg->Prop) (σ:Sg):eQ none K σ=K σ:=(rfl)
def gK (x:AV) (want:Bool) (a b:Sg->Prop) (σ:Sg):Prop:=match x with
 | .sc (.bool x)=>if x=want then a σ else b σ
 | .un=>b σ
 |_=>False
theorem gK_tt (a b:Sg->Prop) (σ:Sg):gK (.sc (.bool true)) true a b σ=a σ:=by simp[gK]
theorem gK_tf (a b:Sg->Prop) (σ:Sg):gK (.sc (.bool true)) false a b σ=b σ:=by simp[gK]
theorem gK_ft (a b:Sg->Prop) (σ:Sg):gK (.sc (.bool false)) true a b σ=b σ:=by simp[gK]
theorem gK_ff (a b:Sg->Prop) (σ:Sg):gK (.sc (.bool false)) false a b σ=a σ:=by simp[gK]
theorem gK_un (want:Bool) (a b:Sg->Prop) (σ:Sg):gK .un want a b σ=b σ:=(rfl)
theorem uZ (d:Option DU) (op:Rq) (K:Sg->Prop) (σ:Sg):HU P G ⟨d,op,none⟩ K σ=C5 P G ⟨d,op,none⟩ K σ:=(rfl)
theorem uY (d:Option DU) (op:Rq) (g:Nat) (want:Bool) (K:Sg->Prop) (σ:Sg):HU P G ⟨d,op,some (g,want)⟩ K σ=gK (σ g) want (C5 P G ⟨d,op,some (g,want)⟩ K) (eQ d K) σ:=(rfl)
theorem gW (fs:List (Nat×Nat×Nat×Nat)) (ops:List A7) (Q:Exit->Sg->Prop) (σ:Sg):FZ P G (.Vt fs ops) Q σ=KH P G ops (Q .normal) σ:=(rfl)
theorem gX (f:Zt) (a b:List A7) (Q:Exit->Sg->Prop) (σ:Sg):FZ P G (.tZ f a b) Q σ=Lp P G f a (KH P G b (Q .normal)) σ:=(rfl)
theorem YH (f:Zt) (K:Sg->Prop) (σ:Sg):Lp P G f [] K σ=K σ:=(rfl)
theorem WB (f:Zt) (o:A7) (os:List A7) (K:Sg->Prop) (σ:Sg):Lp P G f (o::os) K σ=bK (if Tt f.kb f.off (σ f.r)=true then some σ else none) (HU P G o (Lp P G f os K)):=by
 show(_/\_)=_
 by_cases h:Tt f.kb f.off (σ f.r)=true
 . simp[h,bK]
 . simp[h,bK]
theorem aJ (K:Sg->Prop) (σ:Sg):KH P G [] K σ=K σ:=(rfl)
theorem YJ (o:A7) (os:List A7) (K:Sg->Prop) (σ:Sg):KH P G (o::os) K σ=HU P G o (KH P G os K) σ:=(rfl)
theorem kJ (d:DU) (v:AV) (K:Sg->Prop) (τ:Sg):CJ (some d) v K τ=bK (wr d v τ) K:=(rfl)
theorem kI (v:AV) (K:Sg->Prop) (τ:Sg):CJ none v K τ=K τ:=(rfl)
def sI (x:Option AV) (d:Option DU) (K:Sg->Prop) (τ:Sg):Prop:=match x with
 |some v=>CJ d v K τ
 |none=>False
theorem ZX (v:AV) (d:Option DU) (K:Sg->Prop) (τ:Sg):sI (some v) d K τ=CJ d v K τ:=(rfl)
def kS (P:Program) (x:Option (List AV×Sg)) (f m:Nat) (d:Option DU) (K:Sg->Prop):Prop:=match x with
 |some (avs,τ)=>∃res,Says P f avs res/\sI (Oi m res) d K τ
 |none=>False
theorem WO (avs:List AV) (τ:Sg) (f m:Nat) (d:Option DU) (K:Sg->Prop):kS P (some (avs,τ)) f m d K=∃res,Says P f avs res/\sI (Oi m res) d K τ:=(rfl)
theorem YN (d:Option DU) (f:Nat) (args:List Ar) (m:Nat) (g:Option (Nat×Bool)) (K:Sg->Prop) (σ:Sg):C5 P G ⟨d,.call f args m,g⟩ K σ=kS P (ER G m args σ) f m d K:=(rfl)
theorem iG (K:Sg->Prop) (σ:Sg):K5 P G [] K σ=K σ:=(rfl)
theorem vA (o:A7) (xs:List V7) (K:Sg->Prop) (σ:Sg):K5 P G (.o o::xs) K σ=HU P G o (K5 P G xs K) σ:=(rfl)
def nilK (x:Option (AV×Option (Nat×List Step))) (d:DU) (neg:Bool) (K:Sg->Prop) (σ:Sg):Prop:=match x with
 |some (a,_)=>(match rowsOf a with
  |some rows=>∀b:Bool,(b=true->rows=[])->CJ (some d) (.sc (.bool (if neg=true then !b else b))) K σ
  |none=>False)
 |none=>False
theorem jQ (e:Bool) (k:Nat) (rows:List (List AV)) (pl:Option (Nat×List Step)) (d:DU) (neg:Bool) (K:Sg->Prop) (σ:Sg):nilK (some (.sl e k rows,pl)) d neg K σ=∀b:Bool,(b=true->rows=[])->CJ (some d) (.sc (.bool (if neg=true then !b else b))) K σ:=(rfl)
theorem bN (d:DU) (neg:Bool) (x:Ar) (xs:List V7) (K:Sg->Prop) (σ:Sg):K5 P G (.Ty d neg x::xs) K σ=nilK (hd σ x) d neg (K5 P G xs K) σ:=(rfl)
def gldK (x:Option (List Value)) (d:DU) (K:Sg->Prop) (σ:Sg):Prop:=match x with
 |some cs=>CJ (some d) (.agg (cs.map .sc)) K σ
 |none=>False
theorem Y1 (cs:List Value) (d:DU) (K:Sg->Prop) (σ:Sg):gldK (some cs) d K σ=CJ (some d) (.agg (cs.map .sc)) K σ:=(rfl)
theorem iE (d:DU) (g n:Nat) (xs:List V7) (K:Sg->Prop) (σ:Sg):K5 P G (.uA d g n::xs) K σ=gldK (U9 g n) d (K5 P G xs K) σ:=(rfl)
def vD (x:AV) (d:DU) (n s:Nat) (K:Sg->Prop) (σ:Sg):Prop:=match x with
 | .agg cs=>cs.length=n/\∀us:List Value,us.length=n->CJ (some d) (.vb s 0 us) K σ
 |_=>False
theorem bT (cs:List AV) (d:DU) (n s:Nat) (K:Sg->Prop) (σ:Sg):vD (.agg cs) d n s K σ=(cs.length=n/\∀us:List Value,us.length=n->CJ (some d) (.vb s 0 us) K σ):=(rfl)
theorem iD (d:DU) (n s:Nat) (xs:List V7) (K:Sg->Prop) (σ:Sg):K5 P G (.rM d n s::xs) K σ=vD (σ s) d n s (K5 P G xs K) σ:=(rfl)
theorem bD (d:Option DU) (f:Nat) (xs:List Ar) (g:Option (Nat×Bool)) (K:Sg->Prop) (σ:Sg):C5 P G ⟨d,.fM f xs,g⟩ K σ=bK (ES G (.fM f xs) d σ) K:=(rfl)
def lndK (P:Program) (G:Gi) (x:Option (Nat×List Step)) (avs bs:Option (List AV)) (a:AV->AV) (c:Option Nat) (f:Nat) (d:Option DU) (K:Sg->Prop) (σ:Sg):Prop:=match x,avs,bs with
 |some (r,p),some avs,some bs=>(match sub (σ r) p with
  |some (.own b k rows)=>∃res out o,A5 P f (avs++a (.own b k rows)::bs) res ((avs.map λ_=>.dead)++out::bs.map λ_=>.dead)/\Mz c out=some o/\HJ o=true/\clean res=true/\(match put (σ r) p o with
   |some t=>CJ d res K (DF (Fq G (Tv o b k p) r σ) r t)
   |none=>False)
  |_=>False)
 |_,_,_=>False
theorem bC (d:Option DU) (f:Nat) (pre:List Ar) (x:Ar) (c:Option Nat) (post:List Ar) (g:Option (Nat×Bool)) (K:Sg->Prop) (σ:Sg):C5 P G ⟨d,.EK f pre x c post,g⟩ K σ=lndK P G (Ke σ x c) (Kg σ pre) (Kg σ post) (NV σ x c) c f d K σ:=(rfl)
theorem gH (d:Option DU) (x:Ar) (g:Option (Nat×Bool)) (K:Sg->Prop) (σ:Sg):C5 P G ⟨d,.cp x,g⟩ K σ=bK (ES G (.cp x) d σ) K:=(rfl)
theorem gP (d:Option DU) (x:Ar) (g:Option (Nat×Bool)) (K:Sg->Prop) (σ:Sg):C5 P G ⟨d,.mv x,g⟩ K σ=bK (ES G (.mv x) d σ) K:=(rfl)
theorem YQ (d:Option DU) (c:Ar) (a:Ar) (b:Ar) (g:Option (Nat×Bool)) (K:Sg->Prop) (σ:Sg):C5 P G ⟨d,.pick c a b,g⟩ K σ=bK (ES G (.pick c a b) d σ) K:=(rfl)
theorem gG (d:Option DU) (n:Nat) (x:Ar) (g:Option (Nat×Bool)) (K:Sg->Prop) (σ:Sg):C5 P G ⟨d,.bx n x,g⟩ K σ=bK (ES G (.bx n x) d σ) K:=(rfl)
theorem aR (d:Option DU) (z:List AV) (ps:List (Nat×Nat×Ar)) (g:Option (Nat×Bool)) (K:Sg->Prop) (σ:Sg):C5 P G ⟨d,.Dc z ps,g⟩ K σ=bK (ES G (.Dc z ps) d σ) K:=(rfl)
theorem aS (d:Option DU) (n:Nat) (z:List (List AV)) (ps:List (Nat×Ar)) (g:Option (Nat×Bool)) (K:Sg->Prop) (σ:Sg):C5 P G ⟨d,.Eg n z ps,g⟩ K σ=bK (ES G (.Eg n z ps) d σ) K:=(rfl)
theorem gL (d:Option DU) (ag:Bool) (n:Nat) (x:Ar) (g:Option (Nat×Bool)) (K:Sg->Prop) (σ:Sg):C5 P G ⟨d,.ld ag n x,g⟩ K σ=bK (ES G (.ld ag n x) d σ) K:=(rfl)
theorem gQ (d:Option DU) (n:Nat) (x:Ar) (y:Ar) (g:Option (Nat×Bool)) (K:Sg->Prop) (σ:Sg):C5 P G ⟨d,.st n x y,g⟩ K σ=bK (ES G (.st n x y) d σ) K:=(rfl)
theorem aV (d:Option DU) (n:Nat) (x:Ar) (g:Option (Nat×Bool)) (K:Sg->Prop) (σ:Sg):C5 P G ⟨d,.PL n x,g⟩ K σ=bK (ES G (.PL n x) d σ) K:=(rfl)
theorem aX (d:Option DU) (n:Nat) (x:Ar) (y:Ar) (g:Option (Nat×Bool)) (K:Sg->Prop) (σ:Sg):C5 P G ⟨d,.Lr n x y,g⟩ K σ=bK (ES G (.Lr n x y) d σ) K:=(rfl)
theorem aN (d:Option DU) (n:Nat) (m:Nat) (x:Ar) (y:Ar) (g:Option (Nat×Bool)) (K:Sg->Prop) (σ:Sg):C5 P G ⟨d,.kP n m x y,g⟩ K σ=bK (ES G (.kP n m x y) d σ) K:=(rfl)
theorem aY (d:Option DU) (ag:Bool) (n:Nat) (m:Nat) (x:Ar) (y:Ar) (g:Option (Nat×Bool)) (K:Sg->Prop) (σ:Sg):C5 P G ⟨d,.idx ag n m x y,g⟩ K σ=bK (ES G (.idx ag n m x y) d σ) K:=(rfl)
theorem aQ (d:Option DU) (bop:BinOp) (x:Ar) (y:Ar) (g:Option (Nat×Bool)) (K:Sg->Prop) (σ:Sg):C5 P G ⟨d,.bin bop x y,g⟩ K σ=bK (ES G (.bin bop x y) d σ) K:=(rfl)
theorem aP (d:Option DU) (ag:Bool) (x:Ar) (y:Ar) (g:Option (Nat×Bool)) (K:Sg->Prop) (σ:Sg):C5 P G ⟨d,.beq ag x y,g⟩ K σ=bK (ES G (.beq ag x y) d σ) K:=(rfl)
theorem gR (d:Option DU) (uop:UnOp) (x:Ar) (g:Option (Nat×Bool)) (K:Sg->Prop) (σ:Sg):C5 P G ⟨d,.un uop x,g⟩ K σ=bK (ES G (.un uop x) d σ) K:=(rfl)
theorem aT (d:Option DU) (ik:IntKind) (x:Ar) (g:Option (Nat×Bool)) (K:Sg->Prop) (σ:Sg):C5 P G ⟨d,.Xk ik x,g⟩ K σ=bK (ES G (.Xk ik x) d σ) K:=(rfl)
theorem bB (d:Option DU) (x:Ar) (g:Option (Nat×Bool)) (K:Sg->Prop) (σ:Sg):C5 P G ⟨d,.len x,g⟩ K σ=bK (ES G (.len x) d σ) K:=(rfl)
theorem YS (d:Option DU) (x y:Ar) (g:Option (Nat×Bool)) (K:Sg->Prop) (σ:Sg):C5 P G ⟨d,.UE x y,g⟩ K σ=bK (ES G (.UE x y) d σ) K:=(rfl)
theorem gO (d:Option DU) (mx:Bool) (x y:Ar) (g:Option (Nat×Bool)) (K:Sg->Prop) (σ:Sg):C5 P G ⟨d,.mm mx x y,g⟩ K σ=bK (ES G (.mm mx x y) d σ) K:=(rfl)
theorem YR (d:Option DU) (neg:Bool) (kd:List Nat) (x y:Ar) (g:Option (Nat×Bool)) (K:Sg->Prop) (σ:Sg):C5 P G ⟨d,.Vm neg kd x y,g⟩ K σ=bK (ES G (.Vm neg kd x y) d σ) K:=(rfl)
theorem YT (d:Option DU) (x:Ar) (g:Option (Nat×Bool)) (K:Sg->Prop) (σ:Sg):C5 P G ⟨d,.Pk x,g⟩ K σ=bK (ES G (.Pk x) d σ) K:=(rfl)
theorem aO (d:Option DU) (n:Nat) (m:Nat) (x:Ar) (y:Ar) (g:Option (Nat×Bool)) (K:Sg->Prop) (σ:Sg):C5 P G ⟨d,.app n m x y,g⟩ K σ=bK (ES G (.app n m x y) d σ) K:=(rfl)
theorem bE (d:Option DU) (n:Nat) (ag:Bool) (x:Ar) (lo:Option Ar) (hi:Option Ar) (mx:Option Ar) (g:Option (Nat×Bool)) (K:Sg->Prop) (σ:Sg):C5 P G ⟨d,.UM n ag x lo hi mx,g⟩ K σ=bK (ES G (.UM n ag x lo hi mx) d σ) K:=(rfl)
theorem aU (d:Option DU) (x:Ar) (n:Nat) (g:Option (Nat×Bool)) (K:Sg->Prop) (σ:Sg):C5 P G ⟨d,.ext x n,g⟩ K σ=bK (ES G (.ext x n) d σ) K:=(rfl)
theorem gN (d:Option DU) (n:Nat) (m:Nat) (z:List AV) (l:Ar) (c:Ar) (g:Option (Nat×Bool)) (K:Sg->Prop) (σ:Sg):C5 P G ⟨d,.mk n m z l c,g⟩ K σ=bK (ES G (.mk n m z l c) d σ) K:=(rfl)
theorem gJ (d:Option DU) (g:Option (Nat×Bool)) (K:Sg->Prop) (σ:Sg):C5 P G ⟨d,.fl,g⟩ K σ=bK (ES G .fl d σ) K:=(rfl)
theorem aW (d:Option DU) (x:Ar) (k:Nat) (g:Option (Nat×Bool)) (K:Sg->Prop) (σ:Sg):C5 P G ⟨d,.jA x k,g⟩ K σ=bK (ES G (.jA x k) d σ) K:=(rfl)
theorem YO (d:Option DU) (r off kb k:Nat) (i:Ar) (g:Option (Nat×Bool)) (K:Sg->Prop) (σ:Sg):C5 P G ⟨d,.VE r off kb k i,g⟩ K σ=bK (ES G (.VE r off kb k i) d σ) K:=(rfl)
theorem aZ (d:Option DU) (x:Ar) (g:Option (Nat×Bool)) (K:Sg->Prop) (σ:Sg):C5 P G ⟨d,.Qt x,g⟩ K σ=bK (ES G (.Qt x) d σ) K:=(rfl)
theorem bG (d:Option DU) (x y:Ar) (g:Option (Nat×Bool)) (K:Sg->Prop) (σ:Sg):C5 P G ⟨d,.P1 x y,g⟩ K σ=bK (ES G (.P1 x y) d σ) K:=(rfl)
theorem YP (d:Option DU) (x:Ar) (g:Option (Nat×Bool)) (K:Sg->Prop) (σ:Sg):C5 P G ⟨d,.FF x,g⟩ K σ=bK (ES G (.FF x) d σ) K:=(rfl)
end Go.Abs
namespace Go.Abs
variable {w w':World} {S S':Nat->Prop} {G:Gi} {δ:Nat->DV} {Fr:Nat->Nat->Prop} {P:Program}
def XV (G:Gi) (rs:List RV) (res:AV) (e:Exit) (σ:Sg):Prop:=
 (match e with| .normal=>True| .ret=>True|_=>False)/\∃vs τ,EF G rs σ=some (vs,τ)/\one (vs.map Zx)=res
def XC (x:Option (List AV×Sg)) (res:AV):Prop:=match x with
 |some (vs,_)=>one (vs.map Zx)=res
 |none=>False
theorem VY (vs:List AV) (τ:Sg) (res:AV):XC (some (vs,τ)) res=(one (vs.map Zx)=res):=(rfl)
theorem X9 (G:Gi) (rs:List RV) (res:AV) (σ:Sg):XV G rs res .ret σ=XC (EF G rs σ) res:=by
 unfold XV XC
 cases EF G rs σ with
 |none=>simp
 |some x=>obtain⟨vs,τ⟩:=x;simp
theorem Su (ds:List DV):∀{F:Nat->Prop},HF w S ds F->∃Ds:List DV,Ds.map DV.er=(ds.map DV.er).map Zx/\Ds.map DV.Al=ds.map DV.Al/\HF w (λx=>S x∨F x) Ds (λ_=>False):=by
 induction ds with
 |nil=>intro F h;exact⟨[],rfl,rfl,λ_ h=>h⟩
 |cons d ds ih=>
  rintro F ⟨F1,F2,h1,h2,h3,h4⟩
  obtain⟨D,e1,e2,e3⟩:=U8 h1
  obtain⟨Ds,d1,d2,d3⟩:=ih h2
  refine⟨D::Ds,by simp[e1,d1],by simp[e2,d2],⟨λ_=>False,λ_=>False,?_,?_,λ_ h=>h.elim,λx=>by simp⟩⟩
  . exact e3.mono (λ_ _=>rfl) (λ_ h=>h.elim) (λb hb=>hb.imp id λh=>(h4 b).2 (.inl h)) (λ_ h=>h.elim)
  . exact d3.mono (λ_ _=>rfl) (λ_ h=>h.elim) (λb hb=>hb.imp id λh=>(h4 b).2 (.inr h)) (λ_ h=>h.elim)
theorem Na (ds:List DV):(Jw ds).Al=Qx (ds.map DV.Al):=by
 match ds with
 |[]=>simp[Jw,Qx]
 |[d]=>simp[Jw,Qx]
 |_::_::_=>simp[Jw,Qx]
theorem Vi {f:Nat} {fn:Func} {I:FI} {args:List AV} {res:AV} (hm:P.follows .mixedOrders=true) (hf:P.funcs[f]? =some fn) (hc:I2 P fn I=true) (hn:args.length≤fn.ntmps) (hargs:args.all G1=true)
 (h:FZ P I.g I.c (XV I.g I.r res) (start args)):Says P f args res:=by
 intro w S ds F hgi hds hok hS
 subst hds
 refine K6 (m:=0) hm hf hc (by simpa using hn) hargs (λc _=>KL c) hgi hok hS h ?_
 rintro ex w1 S1 δ1 F1 tmps hq hst1 hnx hlt ha1 _ hc2
 have hex:ex= .normal∨ex= .ret:=by obtain⟨h,_⟩:=hq;cases ex<;>simp_all
 refine⟨hex,?_⟩
 obtain⟨_,vs,τ,htk,hone⟩:=hq
 obtain⟨Ds,FD,g1,g2,g3,g4,_⟩:=Ga fn.results.toList hst1 ha1 hc2 htk
 obtain⟨Ds',k1,k2,k3⟩:=Su _ g3
 have hO:HF w1 (λx=>S1 x∨FD x) (ds.map λd=>DV.lf .dead d.Al) (λ_=>False):=by
  refine B4 λd hd=> ?_
  obtain⟨x,_,rfl⟩:=List.mem_map.1 hd
  exact .lf _ _ _ trivial (λ_ h=>h)
 refine⟨_,N7 g2,Jw Ds',ds.map λd=>DV.lf .dead d.Al,λx=>S1 x∨FD x,λ_=>False,by rw[Na,Na,k2],by rw[Nb,k1,g1,hone],by simp,by simp,A4.2 ⟨λ_=>False,λ_=>False,JQ k3,hO,λ_ h=>h.elim,λx=>by simp⟩,⟨hnx.os,hnx.tape,hnx.output,hnx.size,hnx.block⟩,λb hb=>.inl (hnx.sub b hb),?_,?_,λx hx=>hx.elim⟩
 . rintro b (hb|hb)
   . exact hnx.sup b hb
   . exact .inr (hnx.own b (g4 b hb))
 . rintro b (hb|hb)
   . exact hlt b hb
   . exact(JQ g3).lt b hb
def RN (x:Option (List AV×Sg)) (res:AV) (outs:List AV):Prop:=match x with
 |some (vs,τ)=>one vs=res/\Nd τ 0 outs
 |none=>False
theorem VZ (vs:List AV) (τ:Sg) (res:AV) (outs:List AV):RN (some (vs,τ)) res outs=(one vs=res/\Nd τ 0 outs):=(rfl)
theorem YA (G:Gi) (rs:List RV) (res:AV) (outs:List AV) (σ:Sg):SZ G rs res outs .ret σ=RN (EF G rs σ) res outs:=by
 unfold SZ RN
 cases EF G rs σ with
 |none=>simp
 |some x=>
  obtain⟨vs,τ⟩:=x
  simp only[Option.some.injEq,Prod.mk.injEq,true_and,eq_iff_iff]
  exact⟨λ⟨_,_,⟨e1,e2⟩,h⟩=>by subst e1;subst e2;exact h,λh=>⟨_,_,⟨rfl,rfl⟩,h⟩⟩
theorem Tb (G:Gi) (rs:List RV) (res:AV) (outs:List AV) (σ:Sg):SZ G rs res outs .normal σ=RN (EF G rs σ) res outs:=by
 unfold SZ RN
 cases EF G rs σ with
 |none=>simp
 |some x=>
  obtain⟨vs,τ⟩:=x
  simp only[Option.some.injEq,Prod.mk.injEq,true_and,eq_iff_iff]
  exact⟨λ⟨_,_,⟨e1,e2⟩,h⟩=>by subst e1;subst e2;exact h,λh=>⟨_,_,⟨rfl,rfl⟩,h⟩⟩
end Go.Abs
namespace Go.Abs
attribute [go_sem] Xd gY hZ YX bM bJ gZ rI rJ gU YI WC bF ZP KQ MU W7 jX fJ czS YY Xi Xh aJ YJ uZ uY gK_tt gK_tf gK_ft gK_ff
attribute [go_sem] gK_un kF kE iJ iH kJ kI ZX WO YN iG vA jQ bN gH gP
attribute [go_sem] YQ gG aR aS gL gQ aV aX aN aY aQ aP gR aT bB YT aO bE
attribute [go_sem] gO YR Yp K9 YS iE Y1 Lz aU gN gW gX YH WB Tt gJ aW YO aZ bG YP ES tk XL wr valOf rL iN unF view Kw Kv Io vC vF GA Gl
attribute [go_sem] E3 D3 cellsOf CB ar hd WG C3 ZB NR cY Y7 Dk OS Cb KR DF D9 Ko PJ PK UH eR
attribute [go_sem] sub put LP Gj NF I7 Zz PG QK ER G5 VV Nj Z0 Iu Vv Zx rT Oi Ss
attribute [go_sem] fresh KM MQ sF rowsOf HJ Vk Ze eK Ru KJ WM Gi.JG eU if_true ite_true ite_false if_false Option.map_some
attribute [go_sem] Bool.false_eq_true List.getD_cons_zero List.getD_cons_succ true_and and_true and_self false_and and_false Int.natCast_nonneg Int.toNat_natCast List.take_succ_cons List.take_zero List.drop_zero List.drop_succ_cons List.map_cons List.map_nil List.length_cons List.length_nil Nat.zero_add decide_eq_true_eq
attribute [go_sem] List.getElem?_cons_zero List.getElem?_cons_succ List.all_cons List.all_nil Bool.and_true Bool.true_and Nat.le_refl List.nil_append List.append_nil beq_self_eq_true bne_self_eq_false beq_iff_eq bne_iff_ne ne_eq not_true_eq_false not_false_eq_true Z6 X9
attribute [go_sem] VY EF XE one_one jV AV.sc.injEq Value.bool.injEq Value.int.injEq AV.A9.injEq AV.agg.injEq List.cons.injEq AV.own.injEq AV.sl.injEq Option.some.injEq Prod.mk.injEq exists_and_left exists_eq_left exists_eq_left' exists_eq
attribute [go_sem] List.contains_nil List.filter_nil List.flatMap_nil List.not_mem_nil List.filter_cons Bool.not_true Bool.not_false Int.toNat_zero Nat.lt_irrefl Nat.sub_zero List.isEmpty_nil List.contains_cons Bool.or_false Bool.false_or Bool.or_true Bool.true_or List.mem_cons or_false false_or
attribute [go_sem] or_true true_or or_self Nat.lt_add_one Nat.zero_lt_one List.set_cons_zero List.set_cons_succ SA LO List.cons_append List.drop_nil List.take_nil Bool.not_eq_true Bool.and_false Bool.false_and Bool.and_self List.any_cons List.any_nil decide_true decide_false
attribute [go_sem] eq_self Pn QP iD bT iR Yf M8 bD bC Mb fN Kg Ke NV Mz clean HK YA Tb VZ Nd
theorem cO (a:List (List AV)) (i:Nat) (x:List AV):LO (a.set i x)=(LO a).set i (SA x):=by simp[Pv,Pu,List.map_set]
attribute [go_sem] cO
end Go.Abs
namespace Go.Abs
variable {w w':World} {S S':Nat->Prop} {G:Gi} {δ:Nat->DV} {Fr:Nat->Nat->Prop} {P:Program}
inductive MO where
 |mp (es:List (ByteArray×Value))
 |it (s:ByteArray) (pos:Nat)
def MO.is:MO->Obj->Prop
 | .mp es,o=>∃arr c,o= .map arr c/\arr.toList.map (λe=>(e.key,e.val))=es.map λx=>(Value.string x.1,x.2)
 | .it s p,o=>o= .stringIter s p
abbrev Mu:=Nat->Option MO
def Gw (G:Gi) (n:Nat) (w0:World) (S0 U0:Nat->Prop) (a:Act) (w:World) (σ:Sg) (μ:Mu):Prop:=
 ∃(w1:World) (S1 U1:Nat->Prop),Nx w0 S0 U0 w1 S1 U1/\Sa w1 S1 U1/\
  (∀b o,μ b=some o->b<w1.heap.size/\¬S1 b/\¬U1 b/\w0.heap.size≤b/\∃ob,w1.heap[b]? =some ob/\o.is ob)/\Rel G n w1 S1 U1 a w σ
variable {n:Nat} {w0:World} {S0 U0:Nat->Prop} {a:Act} {σ:Sg} {μ:Mu}
theorem Gw.start (hG:Sa w0 S0 U0) (h:Rel G n w0 S0 U0 a w σ):Gw G n w0 S0 U0 a w σ (λ_=>none):=
 ⟨w0,S0,U0,Nx.refl _ _ _,hG,λ_ _ h=>by(cases h),h⟩
theorem Gw.fA (h:Gw G n w0 S0 U0 a w σ μ):Rel G n w0 S0 U0 a w σ:=by
 obtain⟨w1,S1,U1,hx,hG,hμ,S,δ,F,h1,h2,h3,h4,h5,h6,h7⟩:=h
 exact⟨S,δ,F,h1,h2,h3,h4,h5,hx.trans h6,h7⟩
theorem Gw.obj (h:Gw G n w0 S0 U0 a w σ μ) {b:Nat} {o:MO} (hb:μ b=some o):∃ob,w.heap[b]? =some ob/\o.is ob:=by
 obtain⟨w1,S1,U1,hx,hG,hμ,S,δ,F,h1,h2,h3,h4,h5,h6,h7⟩:=h
 obtain⟨g1,g2,g3,g4,ob,g5,g6⟩:=hμ b o hb
 exact⟨ob,by rw[h6.block b g1 g3];exact g5,g6⟩
theorem Gw.fresh (h:Gw G n w0 S0 U0 a w σ μ):μ w.heap.size=none:=by
 cases hb:μ w.heap.size with
 |none=>rfl
 |some o=>
  obtain⟨ob,h1,_⟩:=h.obj hb
  have:=(Array.getElem?_eq_some_iff.1 h1).1
  omega
theorem Gw.turn (h:Gw G n w0 S0 U0 a w σ μ) {b:Nat} {o':MO} {ob':Obj} (hb:(∃o,μ b=some o)∨b=w.heap.size) (hos:w'.os=w.os) (htp:w'.tape=w.tape) (hou:w'.output=w.output) (hsz:w.heap.size≤w'.heap.size)
 (hbl:∀c,c<w.heap.size->c≠b->w'.heap[c]? =w.heap[c]?) (hnew:w'.heap[b]? =some ob') (his:o'.is ob'):Gw G n w0 S0 U0 a w' σ (DF μ b (some o')):=by
 obtain⟨w1,S1,U1,hx,hG,hμ,S,δ,F,h1,h2,h3,rfl,h5,h6,h7⟩:=h
 have hfacts:∀c o,μ c=some o->c<w.heap.size/\¬S c/\¬A3 F c/\w0.heap.size≤c/\∃ob,w.heap[c]? =some ob/\o.is ob:=by
  intro c o hc
  obtain⟨g1,g2,g3,g4,ob,g5,g6⟩:=hμ c o hc
  have hs:=h6.size
  refine⟨by omega,?_,?_,g4,ob,by rw[h6.block c g1 g3];exact g5,g6⟩
  . intro hS
    rcases h6.sup c hS with k|k|k
    . exact g2 k
    . exact g3 k
    . omega
  . intro hU
    rcases h6.own c hU with k|k
    . exact g3 k
    . omega
 have hFlt:∀x,A3 F x->x<w.heap.size:=λx ⟨s,hs⟩=>(h5.ok s).lt x hs
 have hbS:¬S b:=by
  rcases hb with⟨o,ho⟩|rfl
  . exact(hfacts b o ho).2.1
  . intro k;have:=h7 _ k;omega
 have hbF:¬A3 F b:=by
  rcases hb with⟨o,ho⟩|rfl
  . exact(hfacts b o ho).2.2.1
  . intro k;have:=hFlt _ k;omega
 have hx2:=hx.trans h6
 have hb0:w0.heap.size≤b:=by
  rcases hb with⟨o,ho⟩|rfl
  . exact(hfacts b o ho).2.2.2.1
  . exact hx2.size
 have hblt:b<w'.heap.size:=(Array.getElem?_eq_some_iff.1 hnew).1
 have hSame:∀c,S c->w'.heap[c]? =w.heap[c]? :=λc hc=>hbl c (h7 c hc) (by rintro rfl;exact hbS hc)
 have hFame:∀s x,F s x->w'.heap[x]? =w.heap[x]? :=λs x hc=>hbl x (hFlt x ⟨s,hc⟩) (by rintro rfl;exact hbF ⟨s,hc⟩)
 have hst':St G w' S δ F:=h5.world hSame hFame (λ_ h=>h) (λs x hx=>(h5.ok s).D6 x hx)
 refine⟨w',S,A3 F,?_,?_,?_,S,δ,F,h1,h2,h3,rfl,hst',Nx.refl _ _ _,λc hc=>Nat.lt_of_lt_of_le (h7 c hc) hsz⟩
 . refine⟨hos.trans hx2.os,htp.trans hx2.tape,hou.trans hx2.output,Nat.le_trans hx2.size hsz,?_,hx2.sub,hx2.sup,λhl c hc=>Nat.lt_of_lt_of_le (hx2.lt hl c hc) hsz,hx2.own⟩
   intro c hc hU
   rw[hbl c (Nat.lt_of_lt_of_le hc hx2.size) (by omega),hx2.block c hc hU]
 . refine⟨?_,λc hc=>⟨λ⟨s,hs⟩=>(h5.ok s).D6 c hs hc,Nat.lt_of_lt_of_le (h7 c hc) hsz⟩⟩
   intro x hxm
   obtain⟨k1,arr,E,fz,k2,k3⟩:=(hG.now h6) x hxm
   exact⟨k1,arr,E,fz,by rw[hSame _ k1];exact k2,k3⟩
 . intro c o hc
   by_cases hcb:c=b
   . subst hcb
     rw[A8]at hc
     obtain rfl:=Option.some.inj hc
     exact⟨hblt,hbS,hbF,hb0,ob',hnew,his⟩
   . rw[BK _ _ hcb]at hc
     obtain⟨g1,g2,g3,g4,ob,g5,g6⟩:=hfacts c o hc
     exact⟨by omega,g2,g3,g4,ob,by rw[hbl c g1 hcb];exact g5,g6⟩
theorem Rel.DA (h:Rel G n w0 S0 U0 a w σ) {o:Oper} {dst:Option DU} (hdt:C6 G n o.dst dst=true) {D:DV} {K:Sg->Prop} (hD:∀w S,Ok w S D (λ_=>False)) (hal:∀δ,Cd δ D) (hK:CJ dst D.er K σ):
 ∃σ',Rel G n w0 S0 U0 (a.put o.dst D.Al) w σ'/\K σ':=by
 obtain⟨S,δ,Fr,hn,hdef,ha,rfl,hst,hnx,hSlt⟩:=h
 have hd:=DH hdt hn
 exact ID (S2:=S) (D:=D) (FD:=λ_=>False) (v:=D.er) (K:=K) hst hn hdef ha hd rfl (λ_ _=>rfl) hSlt (λ_ h=>h) (λ_ h=>.inl h) hSlt (hD w S) (λ_ h=>h.elim) (hal δ) hnx rfl rfl rfl (Nat.le_refl _) hK
theorem Gw.DA (h:Gw G n w0 S0 U0 a w σ μ) {o:Oper} {dst:Option DU} (hdt:C6 G n o.dst dst=true) {D:DV} {K:Sg->Prop} (hD:∀w S,Ok w S D (λ_=>False)) (hal:∀δ,Cd δ D) (hK:CJ dst D.er K σ):
 ∃σ',Gw G n w0 S0 U0 (a.put o.dst D.Al) w σ' μ/\K σ':=by
 obtain⟨w1,S1,U1,hx,hG,hμ,hr⟩:=h
 obtain⟨σ',h1,h2⟩:=hr.DA hdt hD hal hK
 exact⟨σ',⟨w1,S1,U1,hx,hG,hμ,h1⟩,h2⟩
theorem Gw.De (h:Gw G n w0 S0 U0 a w σ μ) {x:Operand} {y:Ar} (hc:Bf x y=true) {v:Value} (hv:ar σ y= .sc v):a.eval x=v/\EO v=true:=by
 obtain⟨S,δ,Fr,hn,hdef,ha,rfl,hst,hnx,hSlt⟩:=h.fA
 obtain⟨hy,he⟩:=Aa hc ha
 rw[he]
 exact hst.De hy hv
def Ia (es:List (ByteArray×Value)) (s:ByteArray) (z:Value):Value:=match es.find? (λx=>x.1==s)with
 |some x=>x.2
 |none=>z
def V9 (es:List (ByteArray×Value)) (s:ByteArray) (v:Value):List (ByteArray×Value):=es++[(s,v)]
inductive V3 where
 |x (o:V7)
 |uG (d:DU)
 |uF (g:Option (Nat×Bool)) (d:DU) (m k:Ar)
 |uH (m k v:Ar)
 |uO (d:DU) (x:Ar)
 |uJ (d:DU) (x:Ar)
def gM (g:Option (Nat×Bool)) (d:DU) (A:Sg->Prop) (K:Sg->Prop) (σ:Sg):Prop:=match g with
 |none=>A σ
 |some (s,want)=>gK (σ s) want A (λσ=>K (DF (Fh d.kl d.d σ) d.d .un)) σ
def dH (m k:AV) (μ:Mu) (d:DU) (K:Sg->Prop) (σ:Sg):Prop:=match m,k with
 | .sc (.map (some b)),.sc (.string s)=>match μ b with
  |some (.mp es)=>EO (Ia es s (.bool false))=true/\CJ (some d) (.sc (Ia es s (.bool false))) K σ
  |_=>False
 |_,_=>False
def dQ (m k v:AV) (μ:Mu) (K:Mu->Prop):Prop:=match m,k,v with
 | .sc (.map (some b)),.sc (.string s),.sc u=>match μ b with
  |some (.mp es)=>es.all (λx=> !(x.1==s))=true/\K (DF μ b (some (.mp (V9 es s u))))
  |_=>False
 |_,_,_=>False
def eD (x:AV) (d:DU) (K:Sg->Mu->Prop) (σ:Sg) (μ:Mu):Prop:=match x with
 | .sc (.string s)=>∀b,μ b=none->CJ (some d) (.sc (.pointer (some ⟨b,0,none⟩))) (λσ'=>K σ' (DF μ b (some (.it s 0)))) σ
 |_=>False
def dS (x:AV) (d:DU) (K:Sg->Mu->Prop) (σ:Sg) (μ:Mu):Prop:=match x with
 | .sc (.pointer (some ⟨b,0,none⟩))=>match μ b with
  |some (.it s pos)=>if pos<s.size then CJ (some d) (.A9 [.sc (.bool true),.sc (.int .i64 pos),.sc (.int .i32 (Utf8.decode s pos).1)]) (λσ'=>K σ' (DF μ b (some (.it s (pos+(Utf8.decode s pos).2))))) σ
   else CJ (some d) (.A9 [.sc (.bool false)]) (λσ'=>K σ' μ) σ
  |_=>False
 |_=>False
def Jr (P:Program) (G:Gi):List V3->(Sg->Mu->Prop)->Sg->Mu->Prop
 |[],K,σ,μ=>K σ μ
 | .x o::l,K,σ,μ=>K5 P G [o] (λσ'=>Jr P G l K σ' μ) σ
 | .uG d::l,K,σ,μ=>∀b,μ b=none->CJ (some d) (.sc (.map (some b))) (λσ'=>Jr P G l K σ' (DF μ b (some (.mp [])))) σ
 | .uF g d m k::l,K,σ,μ=>gM g d (λσ=>dH (ar σ m) (ar σ k) μ d (λσ'=>Jr P G l K σ' μ) σ) (λσ'=>Jr P G l K σ' μ) σ
 | .uH m k v::l,K,σ,μ=>dQ (ar σ m) (ar σ k) (ar σ v) μ (λν=>Jr P G l K σ ν)
 | .uO d x::l,K,σ,μ=>eD (ar σ x) d (Jr P G l K) σ μ
 | .uJ d x::l,K,σ,μ=>dS (ar σ x) d (Jr P G l K) σ μ
def Pt (P:Program) (t:TypeId) (zb:Bool):Bool:=match P.underlying t with
 |some (.map kt et)=>(match P.underlying kt with|some .string=>true|_=>false)&&(!zb||(match(P.info? et).bind (·.zero)with|some (.bool false)=>true|_=>false))
 |_=>false
def Wb (P:Program) (G:Gi) (n:Nat) (ops:Array Oper) (o:Oper):V3->Bool
 | .x io=>We P G n ops o io
 | .uG d=>o.guard.isNone&&C6 G n o.dst (some d)&&(match o.op with| .makeMap _ none=>true|_=>false)
 | .uF g d m k=>HY n ops o.guard g&&C6 G n o.dst (some d)&&(match o.op with| .lookup t m' k' false=>Bf m' m&&Bf k' k&&Pt P t true|_=>false)
 | .uH m k v=>o.guard.isNone&&C6 G n o.dst none&&(match o.op with| .mapUpdate t m' k' v'=>Bf m' m&&Bf k' k&&Bf v' v&&Pt P t false|_=>false)
 | .uO d x=>o.guard.isNone&&C6 G n o.dst (some d)&&(match o.op with| .range t x'=>Bf x' x&&(match P.underlying t with|some .string=>true|_=>false)|_=>false)
 | .uJ d x=>o.guard.isNone&&C6 G n o.dst (some d)&&(match o.op with| .next x' true=>Bf x' x|_=>false)
end Go.Abs
namespace Go.Abs
open Go.MapKept
variable {w w':World} {S S':Nat->Prop} {G:Gi} {δ:Nat->DV} {Fr:Nat->Nat->Prop} {P:Program}
variable {n:Nat} {w0:World} {S0 U0:Nat->Prop} {a:Act} {σ:Sg} {μ:Mu}
theorem VB (h:Rel G n w0 S0 U0 a w σ) {ops:Array Oper} {o:Oper} {i:Nat} (hi:ops[i]? =some o) {d:DU} (h1:C6 G n o.dst (some d)=true) {g:Option (Nat×Bool)} (h2:HY n ops o.guard g=true) {A K:Sg->Prop} (hrun:gM g d A K σ)
 {next:Act->World->Prop} (Q:Exit->Act->World->Prop) (hA:A σ->o.wp P a w next Q) (hS:∀a',Rel G n w0 S0 U0 a' w (DF (Fh d.kl d.d σ) d.d .un)->K (DF (Fh d.kl d.d σ) d.d .un)->next a' w):wpOp P ops Q i next a w:=by
 unfold wpOp
 rw[hi]
 simp only
 have skip:K (DF (Fh d.kl d.d σ) d.d .un)->next (a.put o.dst undef) w:=by
  intro hk
  refine hS _ ?_ hk
  obtain⟨S,δ,Fr,hn,hdef,ha,rfl,hst,hnx,hSlt⟩:=h
  obtain⟨g1,g2,g3,g4⟩:o.dst=some d.d/\d.kl=G.JG d.d/\d.rs=G.Ee d.d/\d.d<a.tmps.size:=DH h1 hn
  have hwr:wr d (DV.lf .un undef).er (λs=>(δ s).er)=some (DF (Fh d.kl d.d λs=>(δ s).er) d.d .un):=by simp[wr]
  obtain⟨δ',F',hst',her,hann,hown⟩:=hst.wr (D:=.lf .un undef) (Ff:=λ_=>False) g2 g3 (λ_ _=>rfl) (λ_ _ _=>rfl) (λ_ h=>h) (λs x hx=>(hst.ok s).D6 x hx) (.lf _ _ _ rfl (λ_ h=>h)) (λ_ _ _ h=>h) (.lf _ _ trivial) hwr
  refine⟨S,δ',F',?_,?_,?_,her,hst',hnx.trans (Nx.less λx hx=>(hown x hx).elim id False.elim),hSlt⟩
  . rw[g1];simpa[Act.put]using hn
  . rw[g1];simpa[Act.put]using hdef
  . intro s
    rw[g1,GJ a d.d undef g4 s,hann s]
    split
    . rfl
    . exact ha s
 unfold gM at hrun
 split at hrun
 . have hog:o.guard=none:=by
    unfold HY at h2
    split at h2
    . assumption
    . rename_i hh;cases hh
    . cases h2
   have hw:Region.wanted o (yielded ops a.tmps)=true:=by simp[Region.wanted,hog]
   rw[if_pos hw]
   exact .inl (hA hrun)
 . rename_i s want
   obtain⟨j,hog,hjs,hsn⟩:∃j,o.guard=some (j,want)/\(ops[j]?).bind (·.dst)=some s/\s<n:=by
    unfold HY at h2
    split at h2
    . rename_i hh;cases hh
    . rename_i j b s' b' ho hh
      simp only[Option.some.injEq,Prod.mk.injEq]at hh
      obtain⟨rfl,rfl⟩:=hh
      simp only[Bool.and_eq_true,beq_iff_eq,decide_eq_true_eq]at h2
      exact⟨j,by rw[ho,h2.1.2],h2.1.1,h2.2⟩
    . cases h2
   have hy:yielded ops a.tmps j=match a.tmps.getD s undef with| .bool b=>some b|_=>none:=by
    obtain⟨S,δ,Fr,hn,_⟩:=h
    have hs:s<a.tmps.size:=by rw[hn];exact hsn
    unfold yielded
    rw[hjs]
    simp only[Option.bind_some,Array.getElem?_eq_getElem hs,Array.getD_eq_getD_getElem?,Option.getD_some]
    cases a.tmps[s]<;>rfl
   have hval:a.tmps.getD s undef=match σ s with| .sc v=>v| .un=>undef|_=>a.tmps.getD s undef:=by
    obtain⟨S,δ,Fr,hn,hdef,ha,rfl,hst,_⟩:=h
    simp only
    cases hs:(δ s).er with
    |sc v=>rw[ha s];exact(hst.leaf hs rfl).2.1.1
    |un=>rw[ha s];exact(hst.leaf hs rfl).2.1
    |_=>rfl
   unfold gK at hrun
   split at hrun
   . rename_i b hb
     rw[hb]at hval
     simp only at hval
     have hwd:Region.wanted o (yielded ops a.tmps)=(some b==some want):=by simp only[Region.wanted,hog,hy,hval]
     split at hrun
     . rename_i hbw
       subst hbw
       rw[if_pos (by rw[hwd];simp)]
       exact .inl (hA hrun)
     . rename_i hbw
       rw[if_neg (by rw[hwd];simp[hbw])]
       exact skip hrun
   . rename_i hb
     rw[hb]at hval
     simp only at hval
     have hwd:Region.wanted o (yielded ops a.tmps)=false:=by simp only[Region.wanted,hog,hy,hval];rfl
     rw[if_neg (by rw[hwd];simp)]
     exact skip hrun
   . exact hrun.elim
theorem jS (v:Value) (hp:EO v=true) (w:World) (S:Nat->Prop):Ok w S (.lf (.sc v) v) (λ_=>False):=.lf _ _ _ ⟨rfl,hp⟩ (λ_ h=>h)
theorem q7 (l:List Value) (hp:∀v∈l,EO v=true) (w:World) (S:Nat->Prop):Ok w S (.A9 (l.map λv=>.lf (.sc v) v)) (λ_=>False):=by
 refine A4.2 (B4 λD hD=> ?_)
 obtain⟨v,hv,rfl⟩:=List.mem_map.1 hD
 exact jS v (hp v hv) w S
theorem kQ (l:List Value) (δ:Nat->DV):Cd δ (.A9 (l.map λv=>.lf (.sc v) v)):=by
 refine .A9 _ λi D hD=> ?_
 obtain⟨v,hv,rfl⟩:=List.mem_map.1 (List.mem_of_getElem? hD)
 exact .lf _ _ trivial
theorem NI {es:List (ByteArray×Value)} {arr:List MapEntry} (h:arr.map (λe=>(e.key,e.val))=es.map λx=>(Value.string x.1,x.2)) (s:ByteArray) (i:Nat):
 (es.find? (λx=>x.1==s)=none/\Instr.findNow .string (.string s) arr i=some none)∨∃x j,es.find? (λx=>x.1==s)=some x/\Instr.findNow .string (.string s) arr i=some (some (j,x.2)):=by
 induction es generalizing arr i with
 |nil=>cases arr with
  |nil=>exact .inl ⟨rfl,rfl⟩
  |cons e r=>simp at h
 |cons x es ih=>
  cases arr with
  |nil=>simp at h
  |cons e r=>
   simp only[List.map_cons,List.cons.injEq,Prod.mk.injEq]at h
   obtain⟨⟨h1,h2⟩,h3⟩:=h
   by_cases hx:(s==x.1)=true
   . have hx':(x.1==s)=true:=by rw[bytes_beq]at hx ⊢;exact hx.symm
     exact .inr ⟨x,i,by simp[List.find?,hx'],by simp[Instr.findNow,h1,Instr.sameNow,hx,h2]⟩
   . have hx':(x.1==s)=false:=by rw[← Bool.not_eq_true,bytes_beq];rw[bytes_beq]at hx;exactλe=>hx e.symm
     have hx2:(s==x.1)=false:=by simpa using hx
     rcases ih h3 (i+1)with⟨k1,k2⟩|⟨y,j,k1,k2⟩
     . exact .inl ⟨by simp[List.find?,hx',k1],by simp[Instr.findNow,h1,Instr.sameNow,hx2,k2]⟩
     . exact .inr ⟨y,j,by simp[List.find?,hx',k1],by simp[Instr.findNow,h1,Instr.sameNow,hx2,k2]⟩
theorem eE {t kt et:TypeId} {b:Nat} {arr:Array MapEntry} {c:Nat} {es:List (ByteArray×Value)} {i:TypeInfo} (h1:P.underlying t=some (.map kt et)) (h2:P.underlying kt=some .string) (h3:P.info? et=some i) (h4:i.zero=some (.bool false))
 (hb:w.heap[b]? =some (.map arr c)) (he:arr.toList.map (λe=>(e.key,e.val))=es.map λx=>(Value.string x.1,x.2)) (s:ByteArray):
 (Instr.lookup t (.map (some b)) (.string s) false).run P w= .ok (Ia es s (.bool false)) w:=by
 have hck:∀em,(Instr.checkKey em 10000 kt (.string s)).run P w= .ok () w:=λem=>MapKept.run_checkKey h2 (k:=.string s) (by simp[IsKey]) em 9999
 rcases NI he s 0 with⟨k1,k2⟩|⟨x,j,k1,k2⟩
 . have hf:=run_findKey (w:=w) h2 k2
   simp[Instr.lookup,run_underlying h1,MapKept.run_getObj_map hb,hck,hf,Ia,k1,zeroValue,typeInfo,h3,h4]
 . have hf:=run_findKey (w:=w) h2 k2
   simp[Instr.lookup,run_underlying h1,MapKept.run_getObj_map hb,hck,hf,Ia,k1]
theorem kB {t kt et:TypeId} {b:Nat} {arr:Array MapEntry} {c:Nat} {es:List (ByteArray×Value)} (h1:P.underlying t=some (.map kt et)) (h2:P.underlying kt=some .string)
 (hb:w.heap[b]? =some (.map arr c)) (he:arr.toList.map (λe=>(e.key,e.val))=es.map λx=>(Value.string x.1,x.2)) (s:ByteArray) (v:Value) (hno:es.all (λx=> !(x.1==s))=true):
 (Instr.mapUpdate t (.map (some b)) (.string s) v).run P w= .ok () {w with heap:=w.heap.setIfInBounds b (.map (arr.push {key:=.string s,val:=v,born:=c}) (c+1))}:=by
 have hck:(Instr.checkKey false 10000 kt (.string s)).run P w= .ok () w:=MapKept.run_checkKey h2 (k:=.string s) (by simp[IsKey]) false 9999
 rcases NI he s 0 with⟨k1,k2⟩|⟨x,j,k1,k2⟩
 . have hf:=run_findKey (w:=w) h2 k2
   simp[Instr.mapUpdate,run_underlying h1,MapKept.run_getObj_map hb,hck,hf,MapKept.run_setObj_map _ hb]
 . have hm:=List.mem_of_find?_eq_some k1
   have hp:=List.find?_some k1
   rw[List.all_eq_true]at hno
   have:=hno x hm
   simp only[hp]at this
   cases this
end Go.Abs
namespace Go.Abs
variable {w w':World} {S S':Nat->Prop} {G:Gi} {δ:Nat->DV} {Fr:Nat->Nat->Prop} {P:Program}
variable {n:Nat} {w0:World} {S0 U0:Nat->Prop} {a:Act} {σ:Sg} {μ:Mu}
theorem Gw.base (h:Gw G n w0 S0 U0 a w σ μ):∃(w1:World) (S1 U1:Nat->Prop),Sa w1 S1 U1/\Rel G n w1 S1 U1 a w σ/\∀a' w' σ',Rel G n w1 S1 U1 a' w' σ'->Gw G n w0 S0 U0 a' w' σ' μ:=by
 obtain⟨w1,S1,U1,hx,hG,hμ,hr⟩:=h
 exact⟨w1,S1,U1,hG,hr,λa' w' σ' h'=>⟨w1,S1,U1,hx,hG,hμ,h'⟩⟩
theorem kA (t:TypeId) (w:World):(Instr.makeMap t none).run P w= .ok (.map (some w.heap.size)) (w.alloc (.map #[] 0)):=rfl
theorem aH {ops:Array Oper} {K:Sg->Mu->Prop} (Q:Exit->Act->World->Prop) {k:Nat} {o:Oper} (ho:ops[k]? =some o) {x:V3} {xs:List V3}
 (h:Gw G n w0 S0 U0 a w σ μ) (hc:Wb P G n ops o x=true) (hr:Jr P G (x::xs) K σ μ):wpOp P ops Q k (λa' w'=>∃σ' μ',Gw G n w0 S0 U0 a' w' σ' μ'/\Jr P G xs K σ' μ') a w:=by
 have hplain:o.guard.isNone=true->o.wp P a w (λa' w'=>∃σ' μ',Gw G n w0 S0 U0 a' w' σ' μ'/\Jr P G xs K σ' μ') Q->wpOp P ops Q k (λa' w'=>∃σ' μ',Gw G n w0 S0 U0 a' w' σ' μ'/\Jr P G xs K σ' μ') a w:=by
  intro hg hwp
  unfold wpOp
  rw[ho]
  have hog:o.guard=none:=by simpa using hg
  simp only
  rw[if_pos (by simp[Region.wanted,hog])]
  exact .inl hwp
 cases x with
 |x io=>
  obtain⟨w1,S1,U1,hG,hrel,hback⟩:=h.base
  refine wpOp_mono ?_ (Uq hG Q ho hrel ⟨hc,trivial⟩ hr)
  rintro a' w' ⟨σ',h',hk⟩
  exact⟨σ',μ,hback _ _ _ h',hk⟩
 |uG d=>
  simp only[Wb,Bool.and_eq_true]at hc
  obtain⟨⟨g1,g2⟩,g3⟩:=hc
  refine hplain g1 ?_
  split at g3
  . rename_i t hop
    have hrun:(execOp a.eval o).run P w= .ok (.value (.map (some w.heap.size))) (w.alloc (.map #[] 0)):=by
     simp only[execOp,hop,Option.map_none,Sem.run_bind,kA,Result.andThen_ok,Sem.run_pure]
    unfold Oper.wp
    rw[hrun,Oper.upon_value]
    have h':=h.turn (w':=w.alloc (.map #[] 0)) (b:=w.heap.size) (o':=.mp []) (ob':=.map #[] 0) (.inr rfl) rfl rfl rfl (by show w.heap.size≤(w.heap.push _).size;rw[Array.size_push];omega) (λc hc _=>(MapKept.heap_alloc w _).2 c hc) (MapKept.heap_alloc w _).1 ⟨#[],0,rfl,rfl⟩
    obtain⟨σ',r1,r2⟩:=h'.DA (o:=o) g2 (D:=.lf (.sc (.map (some w.heap.size))) (.map (some w.heap.size))) (jS _ rfl) (λ_=>.lf _ _ trivial) (by simpa using hr w.heap.size h.fresh)
    exact⟨σ',_,by simpa using r1,r2⟩
  . cases g3
 |uF g d m k=>
  simp only[Wb,Bool.and_eq_true]at hc
  obtain⟨⟨g1,g2⟩,g3⟩:=hc
  obtain⟨w1,S1,U1,hG,hrel,hback⟩:=h.base
  refine VB hrel ho g2 g1 hr Q ?_ (λa' hr' hk=>⟨_,μ,hback _ _ _ hr',hk⟩)
  intro hl
  split at g3
  . rename_i t m' k' hop
    simp only[Bool.and_eq_true]at g3
    obtain⟨⟨c1,c2⟩,c3⟩:=g3
    unfold dH at hl
    split at hl
    . rename_i b s hm hk
      split at hl
      . rename_i es hes
        obtain⟨hp,hl⟩:=hl
        obtain⟨ob,hob,arr,c,rfl,harr⟩:=h.obj hes
        unfold Pt at c3
        split at c3
        . rename_i kt et ht
          simp only[Bool.and_eq_true,Bool.not_true,Bool.false_or]at c3
          obtain⟨c4,c5⟩:=c3
          have hk2:P.underlying kt=some .string:=by split at c4<;>first|assumption|cases c4
          obtain⟨i,hi,hz⟩:∃i,P.info? et=some i/\i.zero=some (.bool false):=by
           split at c5
           . rename_i hz
             cases hi:P.info? et with
             |none=>rw[hi]at hz;cases hz
             |some i=>rw[hi]at hz;exact⟨i,rfl,hz⟩
           . cases c5
          have hrun:(execOp a.eval o).run P w= .ok (.value (Ia es s (.bool false))) w:=by
           simp only[execOp,hop,(h.De c1 hm).1,(h.De c2 hk).1,Sem.run_bind,eE ht hk2 hi hz hob harr s,Result.andThen_ok,Sem.run_pure]
          unfold Oper.wp
          rw[hrun,Oper.upon_value]
          obtain⟨σ',r1,r2⟩:=h.DA (o:=o) g2 (D:=.lf (.sc (Ia es s (.bool false))) (Ia es s (.bool false))) (jS _ hp) (λ_=>.lf _ _ trivial) (by simpa using hl)
          exact⟨σ',μ,by simpa using r1,r2⟩
        . cases c3
      . exact hl.elim
    . exact hl.elim
  . cases g3
 |uH m k v=>
  simp only[Wb,Bool.and_eq_true]at hc
  obtain⟨⟨g1,g2⟩,g3⟩:=hc
  refine hplain g1 ?_
  split at g3
  . rename_i t m' k' v' hop
    simp only[Bool.and_eq_true]at g3
    obtain⟨⟨⟨c1,c2⟩,c2'⟩,c3⟩:=g3
    simp only[Jr]at hr
    unfold dQ at hr
    split at hr
    . rename_i b s u hm hk hu
      split at hr
      . rename_i es hes
        obtain⟨hno,hr⟩:=hr
        obtain⟨ob,hob,arr,c,rfl,harr⟩:=h.obj hes
        unfold Pt at c3
        split at c3
        . rename_i kt et ht
          simp only[Bool.and_eq_true]at c3
          have hk2:P.underlying kt=some .string:=by have c4:=c3.1;split at c4<;>first|assumption|cases c4
          have hrun:(execOp a.eval o).run P w= .ok .skip {w with heap:=w.heap.setIfInBounds b (.map (arr.push {key:=.string s,val:=u,born:=c}) (c+1))}:=by
           simp only[execOp,hop,(h.De c1 hm).1,(h.De c2 hk).1,(h.De c2' hu).1,Sem.run_bind,kB ht hk2 hob harr s u hno,Result.andThen_ok,Sem.run_pure]
          unfold Oper.wp
          rw[hrun,Oper.upon_skip]
          have hd:o.dst=none:=by
           obtain⟨S,δ,Fr,hn,_⟩:=h.fA
           exact DH g2 hn
          rw[hd]
          refine⟨σ,_,h.turn (b:=b) (o':=.mp (V9 es s u)) (ob':=.map (arr.push {key:=.string s,val:=u,born:=c}) (c+1)) (.inl ⟨_,hes⟩) rfl rfl rfl (by simp) (λc' _ hne=>(MapKept.heap_set hob).2 c' hne) (MapKept.heap_set hob).1 ⟨_,_,rfl,?_⟩,hr⟩
          simp[V9,harr]
        . cases c3
      . exact hr.elim
    . exact hr.elim
  . cases g3
 |uO d x=>
  simp only[Wb,Bool.and_eq_true]at hc
  obtain⟨⟨g1,g2⟩,g3⟩:=hc
  refine hplain g1 ?_
  split at g3
  . rename_i t x' hop
    simp only[Bool.and_eq_true]at g3
    obtain⟨c1,c2⟩:=g3
    have ht:P.underlying t=some .string:=by split at c2<;>first|assumption|cases c2
    simp only[Jr]at hr
    unfold eD at hr
    split at hr
    . rename_i s hx
      have hrun:(execOp a.eval o).run P w= .ok (.value (.pointer (some ⟨w.heap.size,0,none⟩))) (w.iter s 0):=by
       simp only[execOp,hop,(h.De c1 hx).1,Sem.run_bind,run_range_string w t s ht,Result.andThen_ok,Sem.run_pure]
      unfold Oper.wp
      rw[hrun,Oper.upon_value]
      have h':=h.turn (w':=w.iter s 0) (b:=w.heap.size) (o':=.it s 0) (ob':=.stringIter s 0) (.inr rfl) rfl rfl rfl (by show w.heap.size≤(w.heap.push _).size;rw[Array.size_push];omega) (λc hc _=>(MapKept.heap_alloc w _).2 c hc) (MapKept.heap_alloc w _).1 rfl
      obtain⟨σ',r1,r2⟩:=h'.DA (o:=o) g2 (D:=.lf (.sc (.pointer (some ⟨w.heap.size,0,none⟩))) (.pointer (some ⟨w.heap.size,0,none⟩))) (jS _ rfl) (λ_=>.lf _ _ trivial) (by simpa using hr w.heap.size h.fresh)
      exact⟨σ',_,by simpa using r1,r2⟩
    . exact hr.elim
  . cases g3
 |uJ d x=>
  simp only[Wb,Bool.and_eq_true]at hc
  obtain⟨⟨g1,g2⟩,g3⟩:=hc
  refine hplain g1 ?_
  split at g3
  . rename_i x' hop
    simp only[Jr]at hr
    unfold dS at hr
    split at hr
    . rename_i b hx
      split at hr
      . rename_i s pos hit
        obtain⟨ob,hob,rfl⟩:=h.obj hit
        split at hr
        . rename_i hlt
          have hrun:(execOp a.eval o).run P w= .ok (.value (.tuple #[.bool true,.int .i64 pos,.int .i32 (Utf8.decode s pos).1])) (w.iterAt b s (pos+(Utf8.decode s pos).2)):=by
           simp only[execOp,hop,(h.De g3 hx).1,Sem.run_bind,Lib.run_next_any_at w b s pos o.type hob hlt,Result.andThen_ok,Sem.run_pure]
          unfold Oper.wp
          rw[hrun,Oper.upon_value]
          have h':=h.turn (w':=w.iterAt b s (pos+(Utf8.decode s pos).2)) (b:=b) (o':=.it s (pos+(Utf8.decode s pos).2)) (ob':=.stringIter s (pos+(Utf8.decode s pos).2)) (.inl ⟨_,hit⟩) rfl rfl rfl (by simp[World.iterAt]) (λc hc hne=>(MapKept.heap_set hob).2 c hne) (MapKept.heap_set hob).1 rfl
          obtain⟨σ',r1,r2⟩:=h'.DA (o:=o) g2 (D:=.A9 ([.bool true,.int .i64 pos,.int .i32 (Utf8.decode s pos).1].map λv=>.lf (.sc v) v)) (q7 _ (by simp[EO])) (kQ _) (by simpa using hr)
          exact⟨σ',_,by simpa using r1,r2⟩
        . rename_i hlt
          have hrun:(execOp a.eval o).run P w= .ok (.value (.tuple #[.bool false])) w:=by
           simp only[execOp,hop,(h.De g3 hx).1,Sem.run_bind,Lib.run_next_end_at w b s pos o.type hob hlt,Result.andThen_ok,Sem.run_pure]
          unfold Oper.wp
          rw[hrun,Oper.upon_value]
          obtain⟨σ',r1,r2⟩:=h.DA (o:=o) g2 (D:=.A9 ([.bool false].map λv=>.lf (.sc v) v)) (q7 _ (by simp[EO])) (kQ _) (by simpa using hr)
          exact⟨σ',_,by simpa using r1,r2⟩
      . exact hr.elim
    . exact hr.elim
  . cases g3
def Sm (P:Program) (G:Gi) (n:Nat) (ops:Array Oper):List Oper->List V3->Bool
 |[],[]=>true
 |o::os,x::xs=>Wb P G n ops o x&&Sm P G n ops os xs
 |_,_=>false
theorem YG {ops:Array Oper} {K:Sg->Mu->Prop} (Q:Exit->Act->World->Prop) (hQ:∀a w σ μ,Gw G n w0 S0 U0 a w σ μ->K σ μ->Q .normal a w) (xs:List V3):
 ∀(k:Nat) {a:Act} {w:World} {σ:Sg} {μ:Mu},Gw G n w0 S0 U0 a w σ μ->Sm P G n ops (ops.toList.drop k) xs=true->Jr P G xs K σ μ->wpOps P ops Q (List.range' k (ops.size-k)) a w:=by
 induction xs with
 |nil=>
  intro k a w σ μ h hc hr
  have hk:ops.toList.drop k=[]:=by cases hd:ops.toList.drop k with|nil=>rfl|cons o os=>rw[hd]at hc;simp[Sm]at hc
  have hlen:ops.size≤k:=by simpa using hk
  rw[show ops.size-k=0 from by omega]
  exact hQ a w σ μ h hr
 |cons x xs ih=>
  intro k a w σ μ h hc hr
  cases hd:ops.toList.drop k with
  |nil=>rw[hd]at hc;simp[Sm]at hc
  |cons o os=>
   rw[hd]at hc
   simp only[Sm,Bool.and_eq_true]at hc
   have hk:k<ops.size:=by
    have:(ops.toList.drop k).length=os.length+1:=by rw[hd];rfl
    simp at this;omega
   have ho:ops[k]? =some o:=by
    have:(ops.toList.drop k)[0]? =some o:=by rw[hd];rfl
    simpa using this
   have hos:ops.toList.drop (k+1)=os:=by
    have:(ops.toList.drop k).drop 1=os:=by rw[hd];rfl
    rw[List.drop_drop]at this;exact this
   rw[show ops.size-k=(ops.size-(k+1))+1 from by omega,List.range'_succ,wpOps_cons]
   refine wpOp_mono ?_ (aH Q ho h hc.1 hr)
   rintro a' w' ⟨σ',μ',h',hK'⟩
   exact ih (k+1) h' (by rw[hos];exact hc.2) hK'
inductive Rp where
 |ic (c:IC)
 |SH (xs:List V3)
 |seq (a b:Rp)
 |cond (c:Ar) (a b:Rp)
 |block (id:Nat) (a:Rp)
 |loop (a:Rp)
def E6 (P:Program) (G:Gi) (n:Nat):Code->Rp->Bool
 |c,.ic c'=>Ei P G n c c'
 | .region _ ops false,.SH xs=>Sm P G n ops ops.toList xs
 | .seq a b,.seq a' b'=>E6 P G n a a'&&E6 P G n b b'
 | .cond c a b,.cond c' a' b'=>Bf c c'&&E6 P G n a a'&&E6 P G n b b'
 | .block id a,.block id' a'=>id==id'&&E6 P G n a a'
 | .loop a,.loop a'=>E6 P G n a a'
 |_,_=>false
def Exit.RU (next:Sg->Mu->Prop) (Q:Exit->Sg->Mu->Prop):Exit->Sg->Mu->Prop
 | .normal,σ,μ=>next σ μ
 |e,σ,μ=>Q e σ μ
def Exit.ON (id:Nat) (Q:Exit->Sg->Mu->Prop):Exit->Sg->Mu->Prop
 | .exit i,σ,μ=>if i=id then Q .normal σ μ else Q (.exit i) σ μ
 |e,σ,μ=>Q e σ μ
def Xj (x:AV) (a b:Sg->Mu->Prop) (σ:Sg) (μ:Mu):Prop:=match x with
 | .sc (.bool x)=>if x=true then a σ μ else b σ μ
 |_=>False
def GQ (P:Program) (G:Gi):Rp->(Exit->Sg->Mu->Prop)->Sg->Mu->Prop
 | .ic c,Q,σ,μ=>FZ P G c (λe σ'=>Q e σ' μ) σ
 | .SH xs,Q,σ,μ=>Jr P G xs (Q .normal) σ μ
 | .seq a b,Q,σ,μ=>GQ P G a (Exit.RU (GQ P G b Q) Q) σ μ
 | .cond c a b,Q,σ,μ=>Xj (ar σ c) (GQ P G a Q) (GQ P G b Q) σ μ
 | .block id a,Q,σ,μ=>GQ P G a (Exit.ON id Q) σ μ
 | .loop a,Q,σ,μ=>∃I:Nat->Sg->Mu->Prop,(∃n,I n σ μ)/\∀n τ ν,I n τ ν->GQ P G a (Exit.RU (λτ' ν'=>∃n',n'<n/\I n' τ' ν') Q) τ ν
def aF (G:Gi) (n:Nat) (w0:World) (S0 U0:Nat->Prop) (Q:Exit->Sg->Mu->Prop) (e:Exit) (a:Act) (w:World):Prop:=∃σ μ,Gw G n w0 S0 U0 a w σ μ/\Q e σ μ
theorem WL (hm:P.follows .mixedOrders=true) (c:Code):∀(ic:Rp) (Q:Exit->Sg->Mu->Prop) (a:Act) (w:World) (σ:Sg) (μ:Mu),E6 P G n c ic=true->Gw G n w0 S0 U0 a w σ μ->GQ P G ic Q σ μ->c.wp P (aF G n w0 S0 U0 Q) a w:=by
 have plain:∀(c:Code) (ic:IC) (Q:Exit->Sg->Mu->Prop) (a:Act) (w:World) (σ:Sg) (μ:Mu),Ei P G n c ic=true->Gw G n w0 S0 U0 a w σ μ->FZ P G ic (λe σ'=>Q e σ' μ) σ->c.wp P (aF G n w0 S0 U0 Q) a w:=by
  intro c ic Q a w σ μ hc h hw
  obtain⟨w1,S1,U1,hG,hrel,hback⟩:=h.base
  refine wp_mono (Sj hG hm (m:=0) (a0:=a) c ic _ a w σ hc (KL c) (LM.refl _ _) hrel hw) ?_
  rintro e a' w' ⟨⟨σ',h',hq⟩,_⟩
  exact⟨σ',μ,hback _ _ _ h',hq⟩
 induction c with
 |region id ops d=>
  intro ic Q a w σ μ hc h hw
  cases ic with
  |ic c'=>exact plain _ c' Q a w σ μ (by simpa[E6]using hc) h hw
  |SH xs=>
   cases d with
   |true=>simp[E6]at hc
   |false=>
    simp only[E6]at hc
    refine wp_region ?_
    have:=YG (P:=P) (G:=G) (ops:=ops) (K:=Q .normal) (aF G n w0 S0 U0 Q) (λa w σ μ h hk=>⟨σ,μ,h,hk⟩) xs 0 h (by simpa using hc) hw
    rw[List.range_eq_range']
    simpa using this
  |_=>simp[E6]at hc
 |seq x y ihx ihy=>
  intro ic Q a w σ μ hc h hw
  cases ic with
  |ic c'=>exact plain _ c' Q a w σ μ (by simpa[E6]using hc) h hw
  |seq x' y'=>
   simp only[E6,Bool.and_eq_true]at hc
   refine wp_seq (wp_mono (ihx x' _ a w σ μ hc.1 h hw) ?_)
   rintro e a' w' ⟨σ',μ',h',hq⟩
   cases e with
   |normal=>exact ihy y' Q a' w' σ' μ' hc.2 h' hq
   |_=>exact⟨σ',μ',h',hq⟩
  |_=>simp[E6]at hc
 |cond c x y ihx ihy=>
  intro ic Q a w σ μ hc h hw
  cases ic with
  |ic c'=>exact plain _ c' Q a w σ μ (by simpa[E6]using hc) h hw
  |cond c' x' y'=>
   simp only[E6,Bool.and_eq_true]at hc
   obtain⟨⟨h1,h2⟩,h3⟩:=hc
   simp only[GQ]at hw
   unfold Xj at hw
   split at hw
   . rename_i b hb
     have hev:a.eval c= .bool b:=(h.De h1 hb).1
     split at hw
     . rename_i hbt
       subst hbt
       exact wp_cond_true hev (ihx x' Q a w σ μ h2 h hw)
     . rename_i hbf
       obtain rfl:b=false:=by simpa using hbf
       exact wp_cond_false hev (ihy y' Q a w σ μ h3 h hw)
   . exact hw.elim
  |_=>simp[E6]at hc
 |block id x ihx=>
  intro ic Q a w σ μ hc h hw
  cases ic with
  |ic c'=>exact plain _ c' Q a w σ μ (by simpa[E6]using hc) h hw
  |block id' x'=>
   simp only[E6,Bool.and_eq_true,beq_iff_eq]at hc
   obtain⟨rfl,h2⟩:=hc
   refine wp_block (wp_mono (ihx x' _ a w σ μ h2 h hw) ?_)
   rintro e a' w' ⟨σ',μ',h',hq⟩
   cases e with
   |exit i=>
    simp only[Exit.inBlock]
    simp only[Exit.ON]at hq
    split
    . rename_i hi;rw[if_pos hi]at hq;exact⟨σ',μ',h',hq⟩
    . rename_i hi;rw[if_neg hi]at hq;exact⟨σ',μ',h',hq⟩
   |_=>exact⟨σ',μ',h',hq⟩
  |_=>simp[E6]at hc
 |loop x ihx=>
  intro ic Q a w σ μ hc h hw
  cases ic with
  |ic c'=>exact plain _ c' Q a w σ μ (by simpa[E6]using hc) h hw
  |loop x'=>
   simp only[E6]at hc
   obtain⟨I,⟨n0,h0⟩,hround⟩:=hw
   refine wp_loop_ghost (λk a w=>∃σ μ,Gw G n w0 S0 U0 a w σ μ/\I k σ μ) n0 ⟨σ,μ,h,h0⟩ ?_
   rintro k a' w' ⟨τ,ν,h',hI⟩
   refine wp_mono (ihx x' _ a' w' τ ν hc h' (hround k τ ν hI)) ?_
   rintro e a2 w2 ⟨σ2,μ2,h2,hq⟩
   cases e with
   |normal=>
    obtain⟨k',hk,hI'⟩:=hq
    exact⟨k',hk,σ2,μ2,h2,hI'⟩
   |_=>exact⟨σ2,μ2,h2,hq⟩
  |_=>simp[E6]at hc
 |_=>
  intro ic Q a w σ μ hc h hw
  cases ic with
  |ic c'=>exact plain _ c' Q a w σ μ (by simpa[E6]using hc) h hw
  |_=>simp[E6]at hc
structure FIM where
 c:Rp
 g:Gi
 r:List RV
def Xf (P:Program) (fn:Func) (I:FIM):Bool:=
 (match fn.body with
 |some c=>E6 P I.g fn.ntmps c I.c
 |none=>false)&&KK P fn.results.toList I.r&&I.g.rt.all (λx=> !x.2.contains x.1)
theorem Vj {f:Nat} {fn:Func} {I:FIM} {args:List AV} {res:AV} (hm:P.follows .mixedOrders=true) (hf:P.funcs[f]? =some fn) (hc:Xf P fn I=true) (hn:args.length≤fn.ntmps) (hargs:args.all G1=true)
 (h:GQ P I.g I.c (λe σ _=>Ends I.g I.r res e σ) (start args) (λ_=>none)):Says P f args res:=by
 intro w S ds F hgi hds hok hS
 subst hds
 simp only[Xf,Bool.and_eq_true]at hc
 obtain⟨⟨hc1,hc2⟩,hc3⟩:=hc
 split at hc1
 . rename_i c hb
   obtain⟨Fs,hr,hd,hval,hF⟩:aC w S ds F:=by cases hok with|A9 _ Fs _ hr hd hval hF=>exact⟨Fs,hr,hd,hval,hF⟩
   have harg:∀(i:Nat) d,ds[i]? =some d->G1 d.er=true:=λi d hi=>by
    simp only[List.all_eq_true]at hargs
    exact hargs _ (List.mem_map_of_mem (List.mem_of_getElem? hi))
   refine calls_of_wp hf hb ?_
   let δ:Nat->DV:=λs=>ds.getD s (.lf .un undef)
   have hδ:∀s,(∃d,ds[s]? =some d/\δ s=d)∨(ds[s]? =none/\δ s= .lf .un undef):=by
    intro s
    cases hs:ds[s]? with
    |some d=>exact .inl ⟨d,rfl,by simp[δ,hs]⟩
    |none=>exact .inr ⟨rfl,by simp[δ,hs]⟩
   have hst:St I.g w S δ Fs:=by
    refine⟨λs=> ?_,λs t x=>hd s t x,λs=> ?_,λs=> ?_,X2 hc3⟩
    . rcases hδ s with⟨d,hs,e⟩|⟨hs,e⟩
      . rw[e];exact hr s d hs
      . rw[e]
        exact .lf _ _ _ rfl λx hx=>by obtain⟨d,hd⟩:=hval s x hx;rw[hs]at hd;cases hd
    . rcases hδ s with⟨d,hs,e⟩|⟨hs,e⟩
      . rw[e];exact Uk (hr s d hs).Hw (harg s d hs)
      . rw[e];exact .lf _ _ trivial
    . rcases hδ s with⟨d,hs,e⟩|⟨hs,e⟩
      . rw[e];exact Sf (harg s d hs)
      . rw[e];simp
   have hσ:(λs=>(δ s).er)=start (ds.map DV.er):=by
    funext s
    unfold start
    rcases hδ s with⟨d,hs,e⟩|⟨hs,e⟩
    . simp[e,hs]
    . simp[e,hs]
   have hn':ds.length≤fn.ntmps:=by simpa using hn
   have hrel:Rel I.g fn.ntmps w S F {tmps:=(ds.map DV.Al).toArray++Array.replicate (fn.ntmps-(ds.map DV.Al).toArray.size) undef,defers:=[]} w (start (ds.map DV.er)):=by
    refine⟨S,δ,Fs,by simp;omega,rfl,λs=>Qd ds fn.ntmps s,hσ,hst,Nx.less λx ⟨s,hx⟩=>(hF x).2 ⟨s,hx⟩,hS⟩
   have hrelM:=Gw.start ⟨hgi,λb hb=>⟨λhf=>hok.D6 b hf hb,hS b hb⟩⟩ hrel
   refine wp_mono (WL hm c I.c _ _ w _ _ hc1 hrelM h) ?_
   rintro e a' w1 ⟨σ,μ,hrM,hq⟩
   obtain⟨S1,δ1,F1,hn1,hdef,ha1,rfl,hst1,hnx,hlt⟩:=hrM.fA
   have hex:=XX hq
   obtain⟨_,vs,τ,htk,hone⟩:=hq
   obtain⟨Ds,FD,g1,g2,g3,g4,_⟩:=Ga fn.results.toList hst1 ha1 hc2 htk
   have hO:HF w1 S1 (ds.map λd=>DV.lf .dead d.Al) (λ_=>False):=by
    refine B4 λd hd=> ?_
    obtain⟨x,_,rfl⟩:=List.mem_map.1 hd
    exact .lf _ _ _ trivial (λ_ h=>h)
   have fin:∃v,(results fn a'.tmps).run P w1= .ok v w1/\∃(r:DV) (os:List DV) (S' F':Nat->Prop),Ending.returned v= .returned r.Al/\r.er=res/\os.map DV.er=((ds.map DV.er).map λ_=>AV.dead)/\os.map DV.Al=ds.map DV.Al/\
    Ok w1 S' (.A9 (r::os)) F'/\Ext w w1 F/\(∀b,S b->S' b)/\(∀b,S' b->S b∨F b∨w.heap.size≤b)/\(∀b,S' b->b<w1.heap.size)/\(∀x,F' x->F x∨w.heap.size≤x):=
    ⟨_,N7 g2,Jw Ds,ds.map λd=>DV.lf .dead d.Al,S1,FD,rfl,by rw[Nb,g1,hone],by simp,by simp,A4.2 ⟨FD,λ_=>False,JQ g3,hO,λ_ _ h=>h,λx=>by simp⟩,⟨hnx.os,hnx.tape,hnx.output,hnx.size,hnx.block⟩,hnx.sub,hnx.sup,hlt,λx hx=>hnx.own x (g4 x hx)⟩
   obtain⟨v,hv,hR⟩:=fin
   rcases hex with rfl|rfl
   . exact⟨hdef,v,hv,hR⟩
   . exact⟨hdef,v,hv,hR⟩
 . cases hc1
end Go.Abs
namespace Go.Abs
variable {P:Program} {G:Gi}
theorem gS (c:IC) (Q:Exit->Sg->Mu->Prop) (σ:Sg) (μ:Mu):GQ P G (.ic c) Q σ μ=FZ P G c (λe σ'=>Q e σ' μ) σ:=(rfl)
theorem YW (xs:List V3) (Q:Exit->Sg->Mu->Prop) (σ:Sg) (μ:Mu):GQ P G (.SH xs) Q σ μ=Jr P G xs (Q .normal) σ μ:=(rfl)
theorem Un (a b:Rp) (Q:Exit->Sg->Mu->Prop) (σ:Sg) (μ:Mu):GQ P G (.seq a b) Q σ μ=GQ P G a (Exit.RU (GQ P G b Q) Q) σ μ:=(rfl)
theorem QM (c:Ar) (a b:Rp) (Q:Exit->Sg->Mu->Prop) (σ:Sg) (μ:Mu):GQ P G (.cond c a b) Q σ μ=Xj (ar σ c) (GQ P G a Q) (GQ P G b Q) σ μ:=(rfl)
theorem WI (id:Nat) (a:Rp) (Q:Exit->Sg->Mu->Prop) (σ:Sg) (μ:Mu):GQ P G (.block id a) Q σ μ=GQ P G a (Exit.ON id Q) σ μ:=(rfl)
theorem Vl (next:Sg->Mu->Prop) (Q:Exit->Sg->Mu->Prop) (σ:Sg) (μ:Mu):Exit.RU next Q .normal σ μ=next σ μ:=(rfl)
theorem Zf (next:Sg->Mu->Prop) (Q:Exit->Sg->Mu->Prop) (id:Nat) (σ:Sg) (μ:Mu):Exit.RU next Q (.exit id) σ μ=Q (.exit id) σ μ:=(rfl)
theorem eL (next:Sg->Mu->Prop) (Q:Exit->Sg->Mu->Prop) (σ:Sg) (μ:Mu):Exit.RU next Q .ret σ μ=Q .ret σ μ:=(rfl)
theorem Rv (id:Nat) (Q:Exit->Sg->Mu->Prop) (σ:Sg) (μ:Mu):Exit.ON id Q .normal σ μ=Q .normal σ μ:=(rfl)
theorem Ol (id i:Nat) (Q:Exit->Sg->Mu->Prop) (σ:Sg) (μ:Mu):Exit.ON id Q (.exit i) σ μ=if i=id then Q .normal σ μ else Q (.exit i) σ μ:=(rfl)
theorem WN (id:Nat) (Q:Exit->Sg->Mu->Prop) (σ:Sg) (μ:Mu):Exit.ON id Q .ret σ μ=Q .ret σ μ:=(rfl)
theorem fZ (K:Sg->Mu->Prop) (σ:Sg) (μ:Mu):Jr P G [] K σ μ=K σ μ:=(rfl)
theorem uX (o:V7) (l:List V3) (K:Sg->Mu->Prop) (σ:Sg) (μ:Mu):Jr P G (.x o::l) K σ μ=K5 P G [o] (λσ'=>Jr P G l K σ' μ) σ:=(rfl)
theorem fX (d:DU) (l:List V3) (K:Sg->Mu->Prop) (σ:Sg) (μ:Mu):Jr P G (.uG d::l) K σ μ=∀b,μ b=none->CJ (some d) (.sc (.map (some b))) (λσ'=>Jr P G l K σ' (DF μ b (some (.mp [])))) σ:=(rfl)
theorem fW (g:Option (Nat×Bool)) (d:DU) (m k:Ar) (l:List V3) (K:Sg->Mu->Prop) (σ:Sg) (μ:Mu):Jr P G (.uF g d m k::l) K σ μ=gM g d (λσ=>dH (ar σ m) (ar σ k) μ d (λσ'=>Jr P G l K σ' μ) σ) (λσ'=>Jr P G l K σ' μ) σ:=(rfl)
theorem fY (m k v:Ar) (l:List V3) (K:Sg->Mu->Prop) (σ:Sg) (μ:Mu):Jr P G (.uH m k v::l) K σ μ=dQ (ar σ m) (ar σ k) (ar σ v) μ (λν=>Jr P G l K σ ν):=(rfl)
theorem gC (d:DU) (x:Ar) (l:List V3) (K:Sg->Mu->Prop) (σ:Sg) (μ:Mu):Jr P G (.uO d x::l) K σ μ=eD (ar σ x) d (Jr P G l K) σ μ:=(rfl)
theorem gA (d:DU) (x:Ar) (l:List V3) (K:Sg->Mu->Prop) (σ:Sg) (μ:Mu):Jr P G (.uJ d x::l) K σ μ=dS (ar σ x) d (Jr P G l K) σ μ:=(rfl)
theorem jE (s:Nat) (want:Bool) (d:DU) (A K:Sg->Prop) (σ:Sg):gM (some (s,want)) d A K σ=gK (σ s) want A (λσ=>K (DF (Fh d.kl d.d σ) d.d .un)) σ:=(rfl)
def lkpV (x:Option MO) (s:ByteArray) (d:DU) (K:Sg->Prop) (σ:Sg):Prop:=match x with
 |some (.mp es)=>EO (Ia es s (.bool false))=true/\CJ (some d) (.sc (Ia es s (.bool false))) K σ
 |_=>False
theorem jH (b:Nat) (s:ByteArray) (μ:Mu) (d:DU) (K:Sg->Prop) (σ:Sg):dH (.sc (.map (some b))) (.sc (.string s)) μ d K σ=lkpV (μ b) s d K σ:=(rfl)
theorem jI (es:List (ByteArray×Value)) (s:ByteArray) (d:DU) (K:Sg->Prop) (σ:Sg):lkpV (some (.mp es)) s d K σ=(EO (Ia es s (.bool false))=true/\CJ (some d) (.sc (Ia es s (.bool false))) K σ):=(rfl)
def mupV (x:Option MO) (b:Nat) (s:ByteArray) (u:Value) (μ:Mu) (K:Mu->Prop):Prop:=match x with
 |some (.mp es)=>es.all (λx=> !(x.1==s))=true/\K (DF μ b (some (.mp (V9 es s u))))
 |_=>False
theorem jN (b:Nat) (s:ByteArray) (u:Value) (μ:Mu) (K:Mu->Prop):dQ (.sc (.map (some b))) (.sc (.string s)) (.sc u) μ K=mupV (μ b) b s u μ K:=(rfl)
theorem jO (es:List (ByteArray×Value)) (b:Nat) (s:ByteArray) (u:Value) (μ:Mu) (K:Mu->Prop):mupV (some (.mp es)) b s u μ K=(es.all (λx=> !(x.1==s))=true/\K (DF μ b (some (.mp (V9 es s u))))):=(rfl)
theorem sL (s:ByteArray) (d:DU) (K:Sg->Mu->Prop) (σ:Sg) (μ:Mu):eD (.sc (.string s)) d K σ μ=∀b,μ b=none->CJ (some d) (.sc (.pointer (some ⟨b,0,none⟩))) (λσ'=>K σ' (DF μ b (some (.it s 0)))) σ:=(rfl)
def dT (x:Option MO) (b:Nat) (d:DU) (K:Sg->Mu->Prop) (σ:Sg) (μ:Mu):Prop:=match x with
 |some (.it s pos)=>if pos<s.size then CJ (some d) (.A9 [.sc (.bool true),.sc (.int .i64 pos),.sc (.int .i32 (Utf8.decode s pos).1)]) (λσ'=>K σ' (DF μ b (some (.it s (pos+(Utf8.decode s pos).2))))) σ
  else CJ (some d) (.A9 [.sc (.bool false)]) (λσ'=>K σ' μ) σ
 |_=>False
theorem jR (b:Nat) (d:DU) (K:Sg->Mu->Prop) (σ:Sg) (μ:Mu):dS (.sc (.pointer (some ⟨b,0,none⟩))) d K σ μ=dT (μ b) b d K σ μ:=(rfl)
theorem Ep {s:ByteArray} {pos:Nat} (b:Nat) (d:DU) (K:Sg->Mu->Prop) (σ:Sg) (μ:Mu) (h:pos<s.size):dT (some (.it s pos)) b d K σ μ=CJ (some d) (.A9 [.sc (.bool true),.sc (.int .i64 pos),.sc (.int .i32 (Utf8.decode s pos).1)]) (λσ'=>K σ' (DF μ b (some (.it s (pos+(Utf8.decode s pos).2))))) σ:=by simp[dT,h]
theorem EH {s:ByteArray} {pos:Nat} (b:Nat) (d:DU) (K:Sg->Mu->Prop) (σ:Sg) (μ:Mu) (h:¬pos<s.size):dT (some (.it s pos)) b d K σ μ=CJ (some d) (.A9 [.sc (.bool false)]) (λσ'=>K σ' μ) σ:=by simp[dT,h]
theorem YU {a:Rp} {Q:Exit->Sg->Mu->Prop} {σ:Sg} {μ:Mu} (I:Nat->Sg->Mu->Prop) (n:Nat) (h:I n σ μ)
 (round:∀n τ ν,I n τ ν->GQ P G a (Exit.RU (λτ' ν'=>∃n',n'<n/\I n' τ' ν') Q) τ ν):GQ P G (.loop a) Q σ μ:=⟨I,⟨n,h⟩,round⟩
attribute [go_sem] gS YW Un QM WI Vl Zf eL Rv Ol WN fZ uX fX fW fY gC gA jE jH jI jN jO sL jR
end Go.Abs
namespace Go.Abs
open Go.Proofs Go.Sort Go.RowKit
variable {P:Program}
theorem Tn {f g:Nat} {q:Int->Int->Bool}
 (hdel:∀(lb:Array Value) (p:Int->Bool) (blk off cap:Nat) (d:Array Int) (w:World),PredAt P g lb (Value.int .i64) p w->PredOver P g lb (Value.int .i64) p blk off d.size w->Holds (Value.int .i64) w blk off d->d.size≤9223372036854775807->d.size≤cap->
  Calls P f #[.slice (some ⟨blk,off,none⟩) d.size cap,.func (.func g) #[] lb] w λe w'=>e= .returned (.slice (some ⟨blk,off,none⟩) (d.toList.filter λx=> !p x).length cap)/\∃q,w'=putRow (Value.int .i64) (Sort.ahead w q) blk off ((d.toList.filter λx=> !p x)++List.replicate (d.size-(d.toList.filter λx=> !p x).length) (0:Int)).toArray)
 (hclo:∀(b off:Nat) (n x:Int) (W:World),W.cell? ⟨b,off,none⟩=some (.int .i64 n)->FnGives P g #[.pointer (some ⟨b,off,none⟩)] #[.int .i64 x] (.bool (q n x)) W)
 (zs:List Int) (n:Int) (hne:zs≠[]) (hl:zs.length<4611686018427387904):Says P f [.own false 1 (ints zs),.Wn g [[si n]]] (.own false 1 (ints (zs.filter λx=> !q n x))):=by
 intro w S ds F _ hds hok hS
 obtain⟨d,e,rfl⟩:∃d e,ds=[d,e]:=by
  have hlen:ds.length=2:=by simpa using congrArg List.length hds
  clear hds hok
  match ds,hlen with
  |[d,e],_=>exact⟨d,e,rfl⟩
 simp only[List.map_cons,List.map_nil,List.cons.injEq,and_true]at hds
 obtain⟨hd,he⟩:=hds
 obtain⟨F1,F2,h1,⟨F3,F4,h3,h4,_,h6⟩,hdis,h5⟩:=A4.1 hok
 obtain⟨v,rfl⟩:∃v,e= .lf (.Wn g [[si n]]) v:=by
  cases e with
  |lf a v=>rw[Dj]at he;exact⟨v,by rw[he]⟩
  |own=>simp at he
  |agg=>simp at he
  |A9=>simp at he
 cases h3 with
 |lf _ _ _ hlf hF3=>
 obtain⟨vs,rfl,hvl,hfp⟩:=hlf
 obtain⟨u,rfl⟩:∃u,vs=[u]:=by
  match vs,hvl with
  |[u],_=>exact⟨u,rfl⟩
 obtain⟨b',off',rfl,hSb',hcell⟩:=hfp 0 [si n] u rfl rfl
 obtain⟨u',hu',hfz⟩:=hcell 0 (si n) rfl
 cases hfz
 have hb':=hS b' hSb'
 rcases Qz h1 hd with⟨ha,rfl,hno⟩|⟨b,c,arr,E,ha,hb,hc,hlc,hSb,hz,hFb⟩
 . exact absurd rfl hne
 . have hbne:b'≠b:=λe=>hSb (e▸hSb')
   have hF:∀x,F x↔F1 x:=λx=>by
    rw[h5 x]
    refine⟨λh=>h.elim id λh=> ?_,.inl⟩
    rcases(h6 x).1 h with h|h
    . exact absurd h (hF3 x)
    . exact absurd h (h4 x)
   simp only[List.map_cons,List.map_nil,ha,Hk]
   have hp:PredAt P g #[.pointer (some ⟨b',off',none⟩)] (Value.int .i64) (q n) w:=λW x hB=>hclo b' off' n x W (by rw[hB.cell (p:=⟨b',off',none⟩) hb'];exact hu')
   have hpo:PredOver P g #[.pointer (some ⟨b',off',none⟩)] (Value.int .i64) (q n) b 0 zs.toArray.size w:=λm os dk x hdk=>hclo b' off' n x _ (by
    rw[World.cell?_of_block (w:=w) (a:=⟨b',off',none⟩) (by
     show(sortWorld _ w b 0 m dk os).heap[b']? =w.heap[b']?
     unfold sortWorld
     rw[heap_grow_old _ _ (by simpa[putRow,mapBlock,Sort.ahead]using hb')]
     simp[putRow,mapBlock,Sort.ahead,Array.getElem?_modify,Ne.symm hbne])]
    exact hu')
   refine(hdel #[.pointer (some ⟨b',off',none⟩)] (q n) b 0 c zs.toArray w hp hpo (MT hb hz) (by simpa using by omega) (by simpa using hlc)).mono ?_
   rintro e w' ⟨rfl,m,rfl⟩
   simp only[List.size_toArray]at*
   have hle:(zs.filter λx=> !q n x).length≤zs.length:=List.length_filter_le ..
   have hcl:((zs.filter λx=> !q n x)++List.replicate (zs.length-(zs.filter λx=> !q n x).length) (0:Int)).length=zs.length:=by simp;omega
   have hh:=Qg (n:=m) (os:= #[]) ((zs.filter λx=> !q n x)++List.replicate (zs.length-(zs.filter λx=> !q n x).length) 0).toArray hb
   have hx:=Ts (w:=w) (n:=m) (os:= #[]) (g:=b) (F:=F) ((zs.filter λx=> !q n x)++List.replicate (zs.length-(zs.filter λx=> !q n x).length) 0).toArray ((hF b).2 ((hFb b).2 rfl))
   rw[grow_empty]at hh hx
   obtain⟨d',k1,k2,k3⟩:=T0 (S:=S) (c:=c) (zs:=zs.filter λx=> !q n x) hh (by simp[putCells,hc]) (by omega) hSb (λi z hi=>XA ((zs.filter λx=> !q n x)++List.replicate (zs.length-(zs.filter λx=> !q n x).length) 0) (by rw[hcl];omega) i z (by
    rw[List.getElem?_append_left (List.getElem?_eq_some_iff.1 hi).1];exact hi))
   refine⟨d',[.lf .dead d.Al,.lf .dead (.func (.func g) #[] #[.pointer (some ⟨b',off',none⟩)])],S,λx=>x=b,by rw[k2],k1,by simp,by simp[ha],?_,hx,λ_ h=>h,λ_ h=>.inl h,λx hx=> ?_,λx hx=>.inl ((hF x).2 ((hFb x).2 hx))⟩
   . refine A4.2 ⟨_,λ_=>False,k3,B4 λy hy=> ?_,λ_ _ h=>h,λx=>by simp⟩
     simp only[List.mem_cons,List.not_mem_nil,or_false]at hy
     rcases hy with rfl|rfl<;>exact .lf _ _ _ trivial (λ_ h=>h)
   . have:=hS x hx;simpa[putRow,mapBlock,Sort.ahead]using this
end Go.Abs
namespace Go.Abs
variable {P:Program} {G:Gi}
def XW (G:Gi) (rs:List RV) (res:AV) (outs:List AV) (e:Exit) (σ:Sg):Prop:=
 (match e with| .normal=>True| .ret=>True|_=>False)/\∃vs τ,EF G rs σ=some (vs,τ)/\one (vs.map Zx)=res/\Nd τ 0 outs
def XD (x:Option (List AV×Sg)) (res:AV) (outs:List AV):Prop:=match x with
 |some (vs,τ)=>one (vs.map Zx)=res/\Nd τ 0 outs
 |none=>False
theorem Va (vs:List AV) (τ:Sg) (res:AV) (outs:List AV):XD (some (vs,τ)) res outs=(one (vs.map Zx)=res/\Nd τ 0 outs):=(rfl)
theorem YB (G:Gi) (rs:List RV) (res:AV) (outs:List AV) (σ:Sg):XW G rs res outs .ret σ=XD (EF G rs σ) res outs:=by
 unfold XW XD
 cases EF G rs σ with
 |none=>simp
 |some x=>
  obtain⟨vs,τ⟩:=x
  simp only[Option.some.injEq,Prod.mk.injEq,true_and,eq_iff_iff]
  exact⟨λ⟨_,_,⟨e1,e2⟩,h⟩=>by subst e1;subst e2;exact h,λh=>⟨_,_,⟨rfl,rfl⟩,h⟩⟩
theorem Zd {f:Nat} {fn:Func} {I:FI} {args:List AV} {res:AV} {outs:List AV} (hm:P.follows .mixedOrders=true) (hf:P.funcs[f]? =some fn) (hc:I2 P fn I=true) (hD:Yh fn args.length=true) (hn:args.length≤fn.ntmps) (hargs:args.all G1=true) (hlo:outs.length=args.length)
 (h:FZ P I.g I.c (XW I.g I.r res outs) (start args)):A5 P f args res outs:=by
 intro w S ds F hgi hds hok hS
 subst hds
 refine K6 (m:=ds.length) hm hf hc (by simpa using hn) hargs (λc hb=>by simp only[Yh,hb]at hD;simpa using hD) hgi hok hS h ?_
 rintro ex w1 S1 δ1 F1 tmps hq hst1 hnx hlt ha1 hkeep hc2
 have hex:ex= .normal∨ex= .ret:=by obtain⟨h,_⟩:=hq;cases ex<;>simp_all
 refine⟨hex,?_⟩
 obtain⟨_,vs,τ,htk,hone,hout⟩:=hq
 have hkp:=hkeep.resolve_left (by rcases hex with rfl|rfl<;>simp)
 obtain⟨Ds,FD,g1,g2,g3,g4,δ2,F2,k1,k2,k3,k4,k5⟩:=Ga fn.results.toList hst1 ha1 hc2 htk
 rw[← k2]at hout
 obtain⟨os,e1,e2,Fo,e3,e4⟩:=Qy k1 outs 0 hout
 have hann:os.map DV.Al=ds.map DV.Al:=by
  rw[e2]
  have hl:outs.length=ds.length:=by simpa using hlo
  rw[hl]
  apply List.ext_getElem?
  intro i
  simp only[List.getElem?_map]
  by_cases hi:i<ds.length
  . rw[List.getElem?_range' (by simpa using hi),List.getElem?_eq_getElem hi]
    simp only[Nat.zero_add,Nat.one_mul,Option.map_some,Option.some.injEq]
    rw[k3,← ha1,hkp i hi]
    simp[hi]
  . rw[List.getElem?_eq_none (by simp;omega),List.getElem?_eq_none (by omega)]
    rfl
 obtain⟨Ds',q1,q2,q3⟩:=Su _ g3
 have hO:HF w1 (λx=>S1 x∨FD x) os Fo:=e3.mono (λ_ _=>rfl) (λ_ _=>rfl) (λ_ h=>.inl h) λx hx hy=>by
  rcases hy with hy|hy
  . exact(BQ.2 e3).D6 x hx hy
  . obtain⟨s,_,hs⟩:=e4 x hx;exact k4 s x hs hy
 refine⟨_,N7 g2,Jw Ds',os,λx=>S1 x∨FD x,Fo,by rw[Na,Na,q2],by rw[Nb,q1,g1,hone],e1,hann,A4.2 ⟨λ_=>False,Fo,JQ q3,hO,λ_ h=>h.elim,λx=>by simp⟩,⟨hnx.os,hnx.tape,hnx.output,hnx.size,hnx.block⟩,λb hb=>.inl (hnx.sub b hb),?_,?_,?_⟩
 . rintro b (hb|hb)
   . exact hnx.sup b hb
   . exact .inr (hnx.own b (g4 b hb))
 . rintro b (hb|hb)
   . exact hlt b hb
   . exact(JQ g3).lt b hb
 . intro x hx
   obtain⟨s,_,hs⟩:=e4 x hx;exact hnx.own x (k5 x ⟨s,hs⟩)
def sG (G:Gi) (n:Nat) (x:Option AV) (res:AV) (d:Option DU) (K:Sg->Prop) (r:Nat) (σ:Sg):Prop:=match x with
 |some t=>CJ d res K (DF (Fq G n r σ) r t)
 |none=>False
theorem ZU (n:Nat) (t res:AV) (d:Option DU) (K:Sg->Prop) (r:Nat) (σ:Sg):sG G n (some t) res d K r σ=CJ d res K (DF (Fq G n r σ) r t):=(rfl)
def YC (P:Program) (G:Gi) (r:Nat) (p:List Step) (b:Bool) (k f:Nat) (xs ys:List AV) (n:AV) (c:Option Nat) (d:Option DU) (K:Sg->Prop) (σ:Sg):Prop:=
 ∃res out o,A5 P f (xs++n::ys) res ((xs.map λ_=>.dead)++out::ys.map λ_=>.dead)/\Mz c out=some o/\HJ o=true/\clean res=true/\sG G (Tv o b k p) (put (σ r) p o) res d K r σ
theorem YC.intro {r:Nat} {p:List Step} {b:Bool} {k f:Nat} {xs ys:List AV} {n:AV} {c:Option Nat} {d:Option DU} {K:Sg->Prop} {σ:Sg} {res out o:AV} (h:A5 P f (xs++n::ys) res ((xs.map λ_=>.dead)++out::ys.map λ_=>.dead)) (h1:Mz c out=some o) (h2:HJ o=true) (h3:clean res=true)
 (h4:sG G (Tv o b k p) (put (σ r) p o) res d K r σ):YC P G r p b k f xs ys n c d K σ:=⟨res,out,o,h,h1,h2,h3,h4⟩
def lndB (P:Program) (G:Gi) (y:Option AV) (r:Nat) (p:List Step) (xs ys:List AV) (a:AV->AV) (c:Option Nat) (f:Nat) (d:Option DU) (K:Sg->Prop) (σ:Sg):Prop:=match y with
 |some (.own b k rows)=>YC P G r p b k f xs ys (a (.own b k rows)) c d K σ
 |_=>False
theorem dI (b:Bool) (k:Nat) (rows:List (List AV)) (r:Nat) (p:List Step) (xs ys:List AV) (a:AV->AV) (c:Option Nat) (f:Nat) (d:Option DU) (K:Sg->Prop) (σ:Sg):lndB P G (some (.own b k rows)) r p xs ys a c f d K σ=YC P G r p b k f xs ys (a (.own b k rows)) c d K σ:=(rfl)
theorem r7 (r:Nat) (p:List Step) (xs ys:List AV) (a:AV->AV) (c:Option Nat) (f:Nat) (d:Option DU) (K:Sg->Prop) (σ:Sg):lndK P G (some (r,p)) (some xs) (some ys) a c f d K σ=lndB P G (sub (σ r) p) r p xs ys a c f d K σ:=(rfl)
theorem dJ (b:Bool) (k:Nat) (rows:List (List AV)) (p:List Step):Tv (.own b k rows) b k p=p.length+1:=by simp[Tv]
attribute [go_sem] dJ r7 dI ZU YB Va
end Go.Abs
