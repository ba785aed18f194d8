/- A calculus of abstract states of Go memory, and that it is sound. -/
import Derived.Orders
import Derived.Deep.LoopGhost
import Derived.Laws.Cells
import Derived.Laws.Small
import Derived.Laws.AppendOwn
import Derived.Laws.CopyRow
import Derived.Laws.StructEq
set_option linter.unusedSimpArgs false
set_option linter.unusedVariables false
set_option linter.defProp false
namespace Go.Abs
abbrev iq:=List Int
abbrev iu:=Nat->Prop
abbrev iy:=Nat->Nat->Prop
abbrev iz:=Program
abbrev ja:=World
abbrev jb:=List (List Int)
abbrev jh:=List Nat
abbrev jj:=List Value
abbrev jn:=Value
abbrev jo:=TypeId
abbrev jp:=List (List Bool)
abbrev js:=Nat->Bool
abbrev jt:=Array Value
abbrev jD:=List Bool
abbrev ki:=Operand
abbrev lu:=List (Nat×Nat×Nat×Nat)
abbrev lz:=List Operand
abbrev l0:=List (Nat×Nat)
abbrev nh:=List (Nat×Bool)
abbrev nj:=Nat->List Nat
abbrev nq:=Int->Prop
def ah{p:Prop}(h:p:=by omega):p:=h
def ak{p:Prop}(h:p:=by simp):p:=h
def am{p:Prop}(h:p:=by simp_all):p:=h
def an{p:Prop}(h:p:=by simp;omega):p:=h
def aA{p:Prop}(h:p:=by simp only;omega):p:=h
def aS{p:Prop}(h:p:=by grind):p:=h
def bg{p:Prop}(h:p:=by decide):p:=h
variable{J q:Prop}
def bm(h:J->q:=by intro h;cases h):J->q:=h
def bn{p:Prop}(h:p:=by assumption):p:=h
def bN(h:J->q:=by intro h;omega):J->q:=h
def AA0:=@List.getElem?_append_left
def AA1:=@Option.map_some
def AA2:=@List.map_nil
def AA3:=@List.take_of_length_le
def AA4:=@Option.map_eq_some_iff
def AA5:=@List.map_append
def AA6:=@List.length_map
def AA7:=@List.mem_or_eq_of_mem_set
def AA8:=@List.length_append
def AA9:=@Int.toNat_natCast
def AAS:=@Option.bind_some
def AAT:=@Bool.and_eq_true
def AAU:=@Option.some.injEq
def AAV:=@List.getElem?_eq_some_iff
def AAW:=@Option.some.inj
def AAX:=@List.getElem?_set_self
def AAY:=@List.all_eq_true
def AAZ:=@List.getElem?_eq_getElem
def AAa:=@if_neg
def AAb:=@if_pos
def AAc:=@of_decide_eq_true
def AAd:=@Bool.false_eq_true
def AAe:=@List.getElem?_set_ne
def AAf:=@List.getElem?_map
def AAg:=@List.mem_of_getElem?
def AAh:=@beq_iff_eq
def AAi:=@List.getElem_mem
def AAj:=@Prod.mk.injEq
def AAk:=@if_false
def AAl:=@decide_eq_true_eq
def AAm:=@List.map_cons
def AAn:=@Array.getD_eq_getD_getElem?
def AAo:=@List.mem_append
def AAp:=@List.take_append_getElem
def AAq:=@Bool.true_and
def AAr:=@List.mem_cons
def AAs:=@List.getElem?_of_mem
def AAt:=@Bool.or_eq_true
def AAu:=@List.contains_iff_mem
def AAv:=@Nat.le_refl
def AAw:=@List.mem_singleton
def AAx:=@List.getElem?_append_right
def AAy:=@if_true
def AAz:=@List.drop_zero
def ABA:=@List.getElem?_cons_zero
def ABB:=@List.eq_nil_iff_forall_not_mem
def ABC:=@Nat.mul_le_mul_right
def ABD:=@Array.getElem?_eq_some_iff
def ABE:=@List.cons_append
def ABF:=@List.all_cons
def ABG:=@Bool.not_eq_true'
def ABH:=@Option.isNone_iff_eq_none
def ABI:=@List.map_set
def ABJ:=@Array.getElem?_setIfInBounds
def ABK:=@or_false
def ABL:=@List.not_mem_nil
def ABM:=@beq_self_eq_true
def ABN:=@List.getElem?_cons_succ
def ABO:=@Nat.le_trans
def ABP:=@Nat.lt_of_lt_of_le
def ABQ:=@List.drop_eq_getElem_cons
def ABR:=@List.all_map
def ABS:=@List.take_append_drop
def ABT:=@List.mem_cons_self
def ABU:=@List.length_cons
def ABV:=@Nat.mul_comm
def ABW:=@Nat.zero_add
def ABX:=@List.getElem_of_mem
def ABY:=@List.mem_map_of_mem
def ABZ:=@beq_eq_false_iff_ne
def ABa:=@Array.getElem?_eq_getElem
def ABb:=@List.map_eq_singleton_iff
def ABc:=@List.length_nil
def ABd:=@List.length_replicate
def ABe:=@List.getElem?_take
def ABf:=@Option.getD_some
def ABg:=@List.mem_cons_of_mem
def ABh:=@List.mem_map
def ABi:=@List.append_assoc
def ABj:=@List.ext_getElem?
def ABk:=@List.length_take_of_le
def ABl:=@bne_iff_ne
def ABm:=@Nat.succ_mul
def ABn:=@List.mem_of_find?_eq_some
def ABo:=@List.mem_range
def ABp:=@List.mem_of_mem_take
def ABq:=@List.replicate_succ'
def ABr:=@Array.ext'
def ABs:=@Bool.eq_iff_iff
def ABt:=@List.cons.injEq
abbrev ABu(a:Type _):=Option a
abbrev ir:=Int->ABu Bool
abbrev iw:=(List Int)->Int->ABu (List Int)
abbrev jc:=ABu (Nat×Bool)
abbrev jw:=Int->Int->ABu Bool
abbrev jx:=Int->Int->Int->Int->Int->ABu (Int×Int)
abbrev ka:=Int->ABu (Int×Int)
abbrev kg:=(List Int)->(List Int)->Int->ABu ((List Int)×(List Int))
abbrev kq:=Int->Bool->Int->ABu Bool
abbrev lq:=(List Int)->Int->Int->ABu (List Int)
abbrev lA:=Int->ABu Int
abbrev mg:=Int->Int->ABu Int
abbrev mo:=(List Int)->Int->ABu Bool
abbrev mq:=Nat->ABu (Nat×Nat)
abbrev m0:=Int->Int->Int->ABu Bool
abbrev m8:=ABu Nat
abbrev na:=ABu (Int×Int)
abbrev ABv:=ByteArray
abbrev je:=(List ABv)->Int->ABu ((List ABv)×Bool)
abbrev jf:=List ABv
abbrev kp:=ABv->Prop
abbrev ku:=List ABv->Int->ABu (List ABv×Bool)
abbrev ln:=List (ABv×Value)
abbrev mn:=(List ABv)×Bool
abbrev Step:=Nat×Nat×Nat
abbrev i4:=List Step
abbrev j9:=List (Nat×List Step)
abbrev kw:=ABu (Nat×List Step)
inductive AV where
 |sc (v:Value)
 |sl (x:Bool) (k:Nat) (rows:List (List AV))
 |own (b:Bool) (k:Nat) (rows:List (List AV))
 |agg (cs:List AV)
 |BZ (cs:List AV)
 |al (r:Nat) (p:List Step)
 |Lm (r:Nat) (p:List Step) (i j k:Nat)
 |fp (cs:List AV)
 |dead
 |un
 |cl (f:Nat) (rs:List (Nat×List Step))
 |vb (s off:Nat) (us:List Value)
 |YA (f:Nat) (Mk:List (List AV))
 |cb (f:Nat) (vs:List Value) (b:Nat) (ss:List (Nat×Bool))
 deriving Inhabited
abbrev i5:=List AV
abbrev i6:=List (List AV)
abbrev mj:=List (List AV->Prop)
abbrev Sg:=Nat->AV
abbrev iv:=Sg->Prop
abbrev lw:=Nat->Sg->Prop
abbrev mf:=ABu (List AV×Sg)
variable{α:Type}
def Dn(h:Nat->α)(d:Nat)(v:α):Nat->α:=λs=>if s=d then v else h s
theorem BW(h:Nat->α)(d:Nat)(v:α):Dn h d v d=v:=by simp[Dn]
variable{k n:Nat}
theorem Br(V:Nat->α)(v:α)(h:n≠k):Dn V k v n=V n:=by simp[Dn,h]
def sub:AV->List Step->ABu AV
 |a,[]=>some a
 | .own _ _ rows,(i,j,_)::p=>match rows[i]? with
  |some row=>match row[j]? with
   |some c=>sub c p
   |none=>none
  |none=>none
 | .agg cs,(_,j,_)::p=>match cs[j]? with
  |some c=>sub c p
  |none=>none
 | .BZ cs,(_,j,_)::p=>match cs[j]? with
  |some c=>sub c p
  |none=>none
 |_,_::_=>none
def put:AV->List Step->AV->ABu AV
 |_,[],x=>some x
 | .own b k rows,(i,j,_)::p,x=>match rows[i]? with
  |some row=>match row[j]? with
   |some c=>match put c p x with
    |some c'=>some (.own b k (rows.set i (row.set j c')))
    |none=>none
   |none=>none
  |none=>none
 | .agg cs,(_,j,_)::p,x=>match cs[j]? with
  |some c=>match put c p x with
   |some c'=>some (.agg (cs.set j c'))
   |none=>none
  |none=>none
 | .BZ cs,(_,j,_)::p,x=>match cs[j]? with
  |some c=>match put c p x with
   |some c'=>some (.BZ (cs.set j c'))
   |none=>none
  |none=>none
 |_,_::_,_=>none
inductive DV where
 |lf (a:AV) (v:Value)
 |own (h:Value) (b:Bool) (k:Nat) (rows:List (List DV))
 |agg (cs:List DV)
 |BZ (cs:List DV)
 deriving Inhabited
abbrev jd:=List (List DV)
abbrev ji:=Nat->DV
abbrev jl:=List DV
mutual
def DV.er:DV->AV
 | .lf a _=>a
 | .own _ b k rows=>.own b k (erR rows)
 | .agg cs=>.agg (erL cs)
 | .BZ cs=>.BZ (erL cs)
def erL:List DV->List AV
 |[]=>[]
 |d::r=>d.er::erL r
def erR:List (List DV)->List (List AV)
 |[]=>[]
 |d::r=>erL d::erR r
end
theorem sU(l:jl):erL l=l.map DV.er:=by
 induction l with
 |nil=>rfl
 |cons d r ih=>simp[erL,ih]
theorem erR_eq(l:jd):erR l=l.map (·.map DV.er):=by
 induction l with
 |nil=>rfl
 |cons d r ih=>simp[erR,ih,sU]
mutual
def DV.A0:DV->Value
 | .lf _ v=>v
 | .own h _ _ _=>h
 | .agg cs=>.agg (annL cs).toArray
 | .BZ cs=>.tuple (annL cs).toArray
def annL:List DV->List Value
 |[]=>[]
 |d::r=>d.A0::annL r
end
theorem v8(l:jl):annL l=l.map DV.A0:=by
 induction l with
 |nil=>rfl
 |cons d r ih=>simp[annL,ih]
@[simp]theorem Eb(a:AV)(v:jn):(DV.lf a v).er=a:=by simp[DV.er]
@[simp]theorem FO(h:jn)(b:Bool)(k:Nat)(rows:jd):(DV.own h b k rows).er= .own b k (rows.map (·.map DV.er)):=by simp[DV.er,erR_eq]
@[simp]theorem Iy(a:jl):(DV.agg a).er= .agg (a.map DV.er):=by simp[DV.er,sU]
@[simp]theorem LP(a:jl):(DV.BZ a).er= .BZ (a.map DV.er):=by simp[DV.er,sU]
@[simp]theorem Kn(a:AV)(v:jn):(DV.lf a v).A0=v:=by simp[DV.A0]
@[simp]theorem Ma(h:jn)(b:Bool)(k:Nat)(rows:jd):(DV.own h b k rows).A0=h:=by simp[DV.A0]
@[simp]theorem MZ(a:jl):(DV.agg a).A0= .agg (a.map DV.A0).toArray:=by simp[DV.A0,v8]
@[simp]theorem Oz(a:jl):(DV.BZ a).A0= .tuple (a.map DV.A0).toArray:=by simp[DV.A0,v8]
def Ax:DV->List Step->Option DV
 |a,[]=>some a
 | .own _ _ _ rows,(i,j,_)::p=>match rows[i]? with
  |some row=>match row[j]? with
   |some c=>Ax c p
   |none=>none
  |none=>none
 | .agg cs,(_,j,_)::p=>match cs[j]? with
  |some c=>Ax c p
  |none=>none
 | .BZ cs,(_,j,_)::p=>match cs[j]? with
  |some c=>Ax c p
  |none=>none
 |_,_::_=>none
def D4:DV->List Step->DV->Option DV
 |_,[],x=>some x
 | .own h b k rows,(i,j,_)::p,x=>match rows[i]? with
  |some row=>match row[j]? with
   |some c=>match D4 c p x with
    |some c'=>some (.own h b k (rows.set i (row.set j c')))
    |none=>none
   |none=>none
  |none=>none
 | .agg cs,(_,j,_)::p,x=>match cs[j]? with
  |some c=>match D4 c p x with
   |some c'=>some (.agg (cs.set j c'))
   |none=>none
  |none=>none
 | .BZ cs,(_,j,_)::p,x=>match cs[j]? with
  |some c=>match D4 c p x with
   |some c'=>some (.BZ (cs.set j c'))
   |none=>none
  |none=>none
 |_,_::_,_=>none
def DS:AV->Bool
 | .own .. | .agg _| .BZ _=>false
 |_=>true
inductive dU:DV->Prop
 |lf (a v) (h:DS a=true):dU (.lf a v)
 |own (h b k rows) (hr:∀(i j:Nat) row d,rows[i]? =some row->row[j]? =some d->dU d):dU (.own h b k rows)
 |agg (cs) (hr:∀(i:Nat) d,cs[i]? =some d->dU d):dU (.agg cs)
 |BZ (cs) (hr:∀(i:Nat) d,cs[i]? =some d->dU d):dU (.BZ cs)
variable{d new:DV}{p:i4}
theorem dU.Ax(h:dU d)(e:Ax d p=some new):dU new:=by
 induction p generalizing d with
 |nil=>simp only[Abs.Ax,Option.some.injEq]at e;exact e▸h
 |cons s p ih=>
  obtain⟨i,j,k⟩:=s;cases h with
  |lf a v h=>simp[Abs.Ax]at e
  |own hh b k' rows hr=>
   simp only[Abs.Ax]at e;split at e
   . split at e
     . rename_i row g _ c f;exact ih (hr i j row c g f) e
     . cases e
   . cases e
  |agg cs hr=>
   simp only[Abs.Ax]at e;split at e
   . rename_i c f;exact ih (hr j c f) e
   . cases e
  |BZ cs hr=>
   simp only[Abs.Ax]at e;split at e
   . rename_i c f;exact ih (hr j c f) e
   . cases e
theorem ED{a:AV}(h:dU d)(e:sub d.er p=some a):∃x,Ax d p=some x/\x.er=a:=by
 induction p generalizing d with
 |nil=>simp only[sub,Option.some.injEq]at e;exact⟨d,rfl,e⟩
 |cons s p ih=>
  obtain⟨i,j,k⟩:=s;cases h with
  |lf b v h=>cases b<;>simp_all [sub,DS]
  |own hh b k' rows hr=>
   simp only[FO,sub,List.getElem?_map]at e;cases hi:rows[i]? with
   |none=>simp[hi]at e
   |some row=>
    simp only[hi,Option.map_some,List.getElem?_map]at e;cases hj:row[j]? with
    |none=>simp[hj]at e
    |some c=>simp only[hj,Option.map_some]at e;obtain⟨x,g,f⟩:=ih (hr i j row c hi hj) e;exact⟨x,by simp[Ax,hi,hj,g],f⟩
  |agg cs hr=>
   simp only[Iy,sub,List.getElem?_map]at e;cases hj:cs[j]? with
   |none=>simp[hj]at e
   |some c=>simp only[hj,Option.map_some]at e;obtain⟨x,g,f⟩:=ih (hr j c hj) e;exact⟨x,by simp[Ax,hj,g],f⟩
  |BZ cs hr=>
   simp only[LP,sub,List.getElem?_map]at e;cases hj:cs[j]? with
   |none=>simp[hj]at e
   |some c=>simp only[hj,Option.map_some]at e;obtain⟨x,g,f⟩:=ih (hr j c hj) e;exact⟨x,by simp[Ax,hj,g],f⟩
theorem Ht{a:AV}(x:DV)(h:dU d)(e:put d.er p x.er=some a):∃t,D4 d p x=some t/\t.er=a:=by
 induction p generalizing d a with
 |nil=>simp only[put,Option.some.injEq]at e;exact⟨x,rfl,e⟩
 |cons s p ih=>
  obtain⟨i,j,k⟩:=s;cases h with
  |lf b v h=>cases b<;>simp_all [put,DS]
  |own hh b k' rows hr=>
   simp only[FO,put,List.getElem?_map]at e;cases hi:rows[i]? with
   |none=>simp[hi]at e
   |some row=>
    simp only[hi,Option.map_some,List.getElem?_map]at e;cases hj:row[j]? with
    |none=>simp[hj]at e
    |some c=>
     simp only[hj,Option.map_some]at e;cases hp:put c.er p x.er with
     |none=>simp[hp]at e
     |some c'=>simp only[hp,Option.some.injEq]at e;obtain⟨t,g,f⟩:=ih (hr i j row c hi hj) hp;refine⟨.own hh b k' (rows.set i (row.set j t)),by simp[D4,hi,hj,g],?_⟩;rw[<- e,<- f];simp[List.map_set]
  |agg cs hr=>
   simp only[Iy,put,List.getElem?_map]at e;cases hj:cs[j]? with
   |none=>simp[hj]at e
   |some c=>
    simp only[hj,Option.map_some]at e;cases hp:put c.er p x.er with
    |none=>simp[hp]at e
    |some c'=>simp only[hp,Option.some.injEq]at e;obtain⟨t,g,f⟩:=ih (hr j c hj) hp;refine⟨.agg (cs.set j t),by simp[D4,hj,g],?_⟩;rw[<- e,<- f];simp[List.map_set]
  |BZ cs hr=>
   simp only[LP,put,List.getElem?_map]at e;cases hj:cs[j]? with
   |none=>simp[hj]at e
   |some c=>
    simp only[hj,Option.map_some]at e;cases hp:put c.er p x.er with
    |none=>simp[hp]at e
    |some c'=>simp only[hp,Option.some.injEq]at e;obtain⟨t,g,f⟩:=ih (hr j c hj) hp;refine⟨.BZ (cs.set j t),by simp[D4,hj,g],?_⟩;rw[<- e,<- f];simp[List.map_set]
variable{v:jn}{f:i5}
section
def G4:Value->Bool
 | .agg _| .tuple _=>false
 |_=>true
def KW(bx:Bool)(b n c:Nat):Value:=if bx then .pointer (some ⟨b,0,none⟩)else .slice (some ⟨b,0,none⟩) n c
inductive Fz (w:World) (S:Nat->Prop):AV->Value->Prop
 |sc (v:Value) (hp:G4 v=true):Fz w S (.sc v) v
 |dead (v:Value):Fz w S .dead v
 |nil (x:Bool) (k:Nat) (a:ABu Addr) (c:Nat) (hx:x=true->c=0):Fz w S (.sl x k []) (.slice a 0 c)
 |sl (x:Bool) (k:Nat) (rows:List (List AV)) (b off c:Nat) (vs:Nat->Nat->Value) (hx:x=true->c=rows.length) (SE:rows.length<=c) (hS:S b)
  (hk:∀row∈rows,row.length=k)
  (hc:∀i j row a,rows[i]? =some row->row[j]? =some a->w.cell? ⟨b,off+(i*k+j),none⟩=some (vs i j))
  (hr:∀i j row a,rows[i]? =some row->row[j]? =some a->Fz w S a (vs i j)):Fz w S (.sl x k rows) (.slice (some ⟨b,off,none⟩) rows.length c)
 |agg (cs:List AV) (vs:List Value) (hs:vs.length=cs.length) (h:∀(i:Nat) a v,cs[i]? =some a->vs[i]? =some v->Fz w S a v):Fz w S (.agg cs) (.agg vs.toArray)
 |BZ (cs:List AV) (vs:List Value) (hs:vs.length=cs.length) (h:∀(i:Nat) a v,cs[i]? =some a->vs[i]? =some v->Fz w S a v):Fz w S (.BZ cs) (.tuple vs.toArray)
theorem Fz.mono{w w':ja}{S S':iu}{a:AV}(h:Fz w S a v)(g:∀b,S b->w'.heap[b]? =w.heap[b]?)(f:∀b,S b->S' b):Fz w' S' a v:=by
 induction h with
 |sc v hp=>exact .sc v hp
 |dead v=>exact .dead v
 |nil x k a c hx=>exact .nil x k a c hx
 |sl x k rows b off c vs hx SE hb hk hc hr ih=>refine .sl x k rows b off c vs hx SE (f b hb) hk (λi j row a d e=> ?_) (λi j row a d e=>ih i j row a d e);rw[<- hc i j row a d e];simp only[World.cell?,g b hb]
 |agg cs vs hs h ih=>exact .agg cs vs hs ih
 |BZ cs vs hs h ih=>exact .BZ cs vs hs ih
def qX(w:ja)(S:iu)(cs:i5)(v:jn):Prop:=∃b off,v= .pointer (some ⟨b,off,none⟩)/\S b/\∀(j:Nat) a,cs[j]? =some a->∃u,w.cell? ⟨b,off+j,none⟩=some u/\Fz w S a u
theorem qX.mono{w w':ja}{S S':iu}(h:qX w S f v)(c:∀b,S b->w'.heap[b]? =w.heap[b]?)(d:∀b,S b->S' b):qX w' S' f v:=by obtain⟨b,off,rfl,e,g⟩:=h;refine⟨b,off,rfl,d b e,λj a k=> ?_⟩;obtain⟨u,l,i⟩:=g j a k;refine⟨u,?_,i.mono c d⟩;rw[<- l];simp only[World.cell?,c b e]
def Hh(w:ja)(S:iu):AV->Value->Prop
 | .sc u,v=>v=u/\G4 u=true
 | .sl x k rows,v=>Fz w S (.sl x k rows) v
 | .fp cs,v=>∃b off,v= .pointer (some ⟨b,off,none⟩)/\S b/\∀(j:Nat) a,cs[j]? =some a->∃u,w.cell? ⟨b,off+j,none⟩=some u/\Fz w S a u
 | .un,v=>v=undef
 | .al ..,_=>True
 | .Lm ..,_=>True
 | .dead,_=>True
 | .cl ..,_=>True
 | .YA f Mk,v=>∃vs:List Value,v= .func (.func f) #[] vs.toArray/\vs.length=Mk.length/\∀(i:Nat) cs u,Mk[i]? =some cs->vs[i]? =some u->qX w S cs u
 | .vb _ off us,v=>∃b,v= .pointer (some ⟨b,off,none⟩)/\S b/\∀(j:Nat) u,us[j]? =some u->w.cell? ⟨b,j,none⟩=some u
 | .cb f vs b _,v=>v= .pointer (some ⟨b,0,none⟩)/\S b/\w.cell? ⟨b,0,none⟩=some (.func (.func f) #[] (vs++[v]).toArray)
 |_,_=>False
theorem Hh.DS{w:ja}{S:iu}{a:AV}(h:Hh w S a v):DS a=true:=by cases a<;>simp_all [Hh,Abs.DS]
theorem Hh.mono{w w':ja}{S S':iu}{a:AV}(h:Hh w S a v)(e:∀b,S b->w'.heap[b]? =w.heap[b]?)(d:∀b,S b->S' b):Hh w' S' a v:=by
 cases a with
 |sl x k rows=>exact Fz.mono h e d
 |fp o=>obtain⟨b,off,rfl,c,g⟩:=h;refine⟨b,off,rfl,d b c,λj a m=> ?_⟩;obtain⟨u,n,r⟩:=g j a m;refine⟨u,?_,r.mono e d⟩;rw[<- n];simp only[World.cell?,e b c]
 |sc u=>exact h
 |own=>exact h
 |agg=>exact h
 |BZ=>exact h
 |al=>exact h
 |Lm=>exact h
 |dead=>exact h
 |un=>exact h
 |cl=>exact h
 |YA f Mk=>obtain⟨vs,l,p,q⟩:=h;exact⟨vs,l,p,λi o u hi n=>(q i o u hi n).mono e d⟩
 |vb s off us=>obtain⟨b,rfl,c,g⟩:=h;refine⟨b,rfl,d b c,λj u m=> ?_⟩;rw[<- g j u m];simp only[World.cell?,e b c]
 |cb f vs b ss=>obtain⟨l,c,g⟩:=h;refine⟨l,d b c,?_⟩;rw[<- g];simp only[World.cell?,e b c]
inductive Ok (w:World) (S:Nat->Prop):DV->(Nat->Prop)->Prop
 |lf (a:AV) (v:Value) (F:Nat->Prop) (ha:Hh w S a v) (hF:∀x,¬F x):Ok w S (.lf a v) F
 |nil (k:Nat) (F:Nat->Prop) (hF:∀x,¬F x):Ok w S (.own (.slice none 0 0) false k []) F
 |own (bx:Bool) (k:Nat) (rows:List (List DV)) (b c:Nat) (arr:Array Value) (E:TypeId) (Fs:Nat->Nat->Nat->Prop) (F:Nat->Prop)
  (hb:w.heap[b]? =some (.cells arr E (0,0))) (hk:∀row∈rows,row.length=k)
  (Ee:if bx then rows.length=1/\arr.size=k else c*k=arr.size/\rows.length<=c) (hS:¬S b)
  (hv:∀(i j:Nat) row d,rows[i]? =some row->row[j]? =some d->arr[i*k+j]? =some d.A0)
  (hr:∀(i j:Nat) row d,rows[i]? =some row->row[j]? =some d->Ok w S d (Fs i j))
  (hd:∀i j i' j' x,Fs i j x->Fs i' j' x->i=i'/\j=j')
  (B0:∀i j x,Fs i j x->∃row d,rows[i]? =some row/\row[j]? =some d) (LR:∀i j,¬Fs i j b)
  (hF:∀x,F x↔x=b\/∃i j,Fs i j x):Ok w S (.own (KW bx b rows.length c) bx k rows) F
 |agg (cs:List DV) (Fs:Nat->Nat->Prop) (F:Nat->Prop) (hr:∀(i:Nat) d,cs[i]? =some d->Ok w S d (Fs i))
  (hd:∀i i' x,Fs i x->Fs i' x->i=i') (B0:∀i x,Fs i x->∃d,cs[i]? =some d) (hF:∀x,F x↔∃i,Fs i x):Ok w S (.agg cs) F
 |BZ (cs:List DV) (Fs:Nat->Nat->Prop) (F:Nat->Prop) (hr:∀(i:Nat) d,cs[i]? =some d->Ok w S d (Fs i))
  (hd:∀i i' x,Fs i x->Fs i' x->i=i') (B0:∀i x,Fs i x->∃d,cs[i]? =some d) (hF:∀x,F x↔∃i,Fs i x):Ok w S (.BZ cs) F
variable{w w':ja}{S S':iu}{d:DV}{F F':iu}
theorem Ok.Lh(h:Ok w S d F):dU d:=by
 induction h with
 |lf a v F ha hF=>exact .lf a v ha.DS
 |nil k F hF=>exact .own _ _ _ _ ak
 |own bx k rows b c arr E Fs F hb hk Ee hS hv hr hd B0 LR hF ih=>exact .own _ _ _ _ ih
 |agg cs Fs F hr hd B0 hF ih=>exact .agg cs ih
 |BZ cs Fs F hr hd B0 hF ih=>exact .BZ cs ih
theorem Ok.FQ(h:Ok w S d F):∀x,F x->¬S x:=by
 induction h with
 |lf a v F ha hF=>simp_all
 |nil k F hF=>simp_all
 |own bx k rows b c arr E Fs F hb hk Ee hS hv hr hd B0 LR hF ih=>grind
 |agg cs Fs F hr hd B0 hF ih=>grind
 |BZ cs Fs F hr hd B0 hF ih=>grind
theorem Ok.lt(h:Ok w S d F):∀x,F x->x<w.heap.size:=by
 induction h with
 |lf a v F ha hF=>simp_all
 |nil k F hF=>simp_all
 |own bx k rows b c arr E Fs F hb hk Ee hS hv hr hd B0 LR hF ih=>grind
 |agg cs Fs F hr hd B0 hF ih=>grind
 |BZ cs Fs F hr hd B0 hF ih=>grind
theorem Ok.congr(h:Ok w S d F)(a:∀x,F' x↔F x):Ok w S d F':=by have:F'=F:=funext λx=>propext (a x);simp_all
theorem Ok.mono(h:Ok w S d F)(n:∀b,S b->w'.heap[b]? =w.heap[b]?)(g:∀b,F b->w'.heap[b]? =w.heap[b]?)(m:∀b,S b->S' b)(hn:∀x,F x->¬S' x):Ok w' S' d F:=by
 induction h with
 |lf a v F ha hF=>exact .lf a v F (ha.mono n m) hF
 |nil k F hF=>exact .nil k F hF
 |own bx k rows b c arr E Fs F hb hk Ee Md hv hr hd B0 LR hF ih=>
  refine .own bx k rows b c arr E Fs F ?_ hk Ee (hn b ((hF b).2 (.inl rfl))) hv (λi j row d f l=>ih i j row d f l ?_ ?_) hd B0 LR hF
  all_goals grind
 |agg cs Fs F hr hd B0 hF ih=>exact .agg cs Fs F (λi d f=>ih i d f (λx e=>g x ((hF x).2 ⟨i,e⟩)) (λx e=>hn x ((hF x).2 ⟨i,e⟩))) hd B0 hF
 |BZ cs Fs F hr hd B0 hF ih=>exact .BZ cs Fs F (λi d f=>ih i d f (λx e=>g x ((hF x).2 ⟨i,e⟩)) (λx e=>hn x ((hF x).2 ⟨i,e⟩))) hd B0 hF
theorem Ok.Ax(h:Ok w S d F)(e:Ax d p=some new):∃F',Ok w S new F'/\∀y,F' y->F y:=by
 induction p generalizing d F with
 |nil=>simp only[Abs.Ax,AAU]at e;grind
 |cons s p ih=>
  obtain⟨i,j,k⟩:=s;cases h with
  |lf a v _ ha hF=>simp[Abs.Ax]at e
  |nil k _ hF=>simp[Abs.Ax]at e
  |own bx k rows b c arr E Fs _ hb hk Ee Md hv hr hd B0 LR hF=>simp only[Abs.Ax]at e;grind
  |agg cs Fs _ hr hd B0 hF=>simp only[Abs.Ax]at e;grind
  |BZ cs Fs _ hr hd B0 hF=>simp only[Abs.Ax]at e;grind
mutual
def KI:AV->AV
 | .own false k rows=>.sl false k (Mt rows)
 | .own true _ _=>.dead
 | .agg cs=>.agg (cA cs)
 | .BZ cs=>.BZ (cA cs)
 | .sc v=>.sc v
 | .sl x k rows=>.sl x k rows
 |_=>.dead
def cA:List AV->List AV
 |[]=>[]
 |a::r=>KI a::cA r
def Mt:List (List AV)->List (List AV)
 |[]=>[]
 |a::r=>cA a::Mt r
end
theorem YB(l:i5):cA l=l.map KI:=by
 induction l with
 |nil=>rfl
 |cons d r ih=>simp[cA,ih]
theorem UN(l:i6):Mt l=l.map (·.map KI):=by
 induction l with
 |nil=>rfl
 |cons d r ih=>simp[Mt,ih,YB]
@[simp]theorem PB(k:Nat)(rows:i6):KI (.own false k rows)= .sl false k (rows.map (·.map KI)):=by simp[KI,UN]
@[simp]theorem wR(k:Nat)(rows:i6):KI (.own true k rows)= .dead:=by simp[KI]
@[simp]theorem wQ(a:i5):KI (.agg a)= .agg (a.map KI):=by simp[KI,YB]
@[simp]theorem wS(a:i5):KI (.BZ a)= .BZ (a.map KI):=by simp[KI,YB]
@[simp]theorem frz_sc(v:jn):KI (.sc v)= .sc v:=by simp[KI]
@[simp]theorem frz_sl(x:Bool)(k:Nat)(rows:i6):KI (.sl x k rows)= .sl x k rows:=by simp[KI]
theorem frz_leaf{a:AV}(h:Hh w S a v):Fz w S (KI a) v:=by
 cases a with
 |sc u=>obtain⟨rfl,b⟩:=h;simpa using Fz.sc v b
 |sl x k rows=>rw[frz_sl];exact h
 |_=>first|exact h.elim| (simp only[KI];exact .dead v)
theorem Ok.freeze(h:Ok w S d F):Fz w (λx=>S x\/F x) (KI d.er) d.A0:=by
 induction h with
 |lf a v F ha hF=>simp only[Eb,Kn];exact(frz_leaf ha).mono (λ_ _=>rfl) (λ_ h=>.inl h)
 |nil k F hF=>simpa using Fz.nil false k none 0 ak
 |own bx k rows b c arr E Fs F hb hk Ee Md hv hr hd B0 LR hF ih=>
  cases bx with
  |true=>simp only[FO,wR];exact .dead _
  |false=>
   simp only[FO,PB,Ma,KW,List.map_map];have g:((rows.map ((λx=>x.map KI) ∘ λx=>x.map DV.er))).length=rows.length:=ak;rw[show(Value.slice (some ⟨b,0,none⟩) rows.length c)=Value.slice (some ⟨b,0,none⟩) (rows.map ((λx=>x.map KI) ∘ λx=>x.map DV.er)).length c from by rw[g]];refine Fz.sl false k _ b 0 c (λi j=>(arr[i*k+j]?).getD undef) ak am (.inr ((hF b).2 (.inl rfl))) ?_ ?_ ?_
   . simp_all
   . intro i j row a e f;simp only[List.getElem?_map,Option.map_eq_some_iff]at e;obtain⟨n,l,rfl⟩:=e;simp only[Function.comp,List.map_map,List.getElem?_map,Option.map_eq_some_iff]at f;obtain⟨d0,m,rfl⟩:=f;simp[World.cell?,hb,hv i j n d0 l m]
   . intro i j row a e f;simp only[List.getElem?_map,Option.map_eq_some_iff]at e;obtain⟨n,l,rfl⟩:=e;simp only[Function.comp,List.map_map,List.getElem?_map,Option.map_eq_some_iff]at f;obtain⟨d0,m,rfl⟩:=f;simp only[hv i j n d0 l m,Option.getD_some];refine(ih i j n d0 l m).mono (λ_ _=>rfl) ?_;grind
 |agg cs Fs F hr hd B0 hF ih=>
  simp only[Iy,wQ,MZ];refine Fz.agg _ _ ak ?_;intro i a v e f;simp only[List.map_map,List.getElem?_map,Option.map_eq_some_iff]at e f;obtain⟨d1,e,rfl⟩:=e;obtain⟨o,f,rfl⟩:=f;obtain rfl:d1=o:=am
  refine(ih i d1 e).mono (λ_ _=>rfl) ?_;grind
 |BZ cs Fs F hr hd B0 hF ih=>
  simp only[LP,wS,Oz];refine Fz.BZ _ _ ak ?_;intro i a v e f;simp only[List.map_map,List.getElem?_map,Option.map_eq_some_iff]at e f;obtain⟨d1,e,rfl⟩:=e;obtain⟨o,f,rfl⟩:=f;obtain rfl:d1=o:=am
  refine(ih i d1 e).mono (λ_ _=>rfl) ?_;grind
end
variable{i off b:Nat}{bx:Bool}{rows:jd}{row:jl}{D:DV}
section
variable{w w':ja}{S S':iu}{d:DV}{F F':iu}
def US:Value->ABu Nat
 | .slice (some a) _ _=>some a.block
 | .pointer (some a)=>some a.block
 |_=>none
@[simp]theorem Y8(bx:Bool)(b n c:Nat):US (KW bx b n c)=some b:=by cases bx<;>rfl
theorem xE(e:n<k)(d:b<k)(h:i*k+n=off*k+b):i=off/\n=b:=by
 have c:0<k:=ah
 have f:(i*k+n)/k=i:=by rw[ABV,Nat.mul_add_div c,Nat.div_eq_of_lt e];rfl
 have g:(off*k+b)/k=off:=by rw[ABV,Nat.mul_add_div c,Nat.div_eq_of_lt d];rfl
 simp_all
theorem S5(w:ja)(b o:Nat)(v:jn)(arr:jt)(E:jo)(fz:Nat×Nat)(a:w.heap[b]? =some (.cells arr E fz)):
 (w.setCell ⟨b,o,none⟩ v).heap[b]? =some (.cells (arr.setIfInBounds o v) E fz):=by
 simp[World.setCell,Array.getElem?_modify,a]
theorem Dc(w:ja)(b o x:Nat)(v:jn)(h:x≠b):(w.setCell ⟨b,o,none⟩ v).heap[x]? =w.heap[x]? :=by simp only[World.setCell,Array.getElem?_modify];grind
theorem Tv{rows:List (List α)}{row:List α}{x:α}(d:∀row∈rows,row.length=k)(b:rows[i]? =some row)(c:row[n]? =some x):n<k:=aS
theorem Ok.store{Fn:iu}(p:i4)(h:Ok w S d F)(y:Abs.Ax d p=some (.own v bx k rows))(J:rows[i]? =some row)(W:row[n]? =some D)(hb:US v=some b)(hn:Ok (w.setCell ⟨b,i*k+n,none⟩ new.A0) S new Fn)(C:∀x,Fn x->¬F x):
 ∃t F',D4 d (p++[(i,n,k)]) new=some t/\Ok (w.setCell ⟨b,i*k+n,none⟩ new.A0) S t F'/\(∀x,F' x->F x\/Fn x)/\t.A0=d.A0/\F b:=by
 induction p generalizing d F with
 |nil=>
  simp only[Abs.Ax,AAU]at y;subst y;generalize Z:v=tW at h;cases h with
  |nil k _ hF=>simp at J
  |own _ _ _ b' c arr E Fs _ hbb hk Ee Md v hr hd B0 LR hF=>
   subst Z;simp only[Y8,AAU]at hb;subst hb;have X:=Tv hk J W;have H:=(AAV.1 J).1;have B:=(AAV.1 W).1;have Su:i*k+n<arr.size:=(by have:=v i n row D J W;exact(ABD.1 this).1);refine⟨.own (KW bx b' rows.length c) bx k (rows.set i (row.set n new)),λx=>x=b'\/∃g o,(if g=i/\o=n then Fn else Fs g o) x,?_,?_,?_,ak,(hF b').2 (.inl rfl)⟩
   . simp[D4,J,W]
   . rw[show(KW bx b' rows.length c)=KW bx b' (rows.set i (row.set n new)).length c from by simp];refine Ok.own bx k _ b' c (arr.setIfInBounds (i*k+n) new.A0) E (λg o=>if g=i/\o=n then Fn else Fs g o) _ (S5 _ _ _ _ _ _ _ hbb) ?_ ?_ Md ?_ ?_ ?_ ?_ ?_ (λx=>Iff.rfl)
     . intro r jM;rcases AA7 jM with h|rfl
       . exact hk r h
       . simp[hk row (AAg J)]
     . simpa using Ee
     . intro g o r e m l;by_cases hi:g=i
       . subst hi;rw[AAX H]at m;obtain rfl:=AAW m;by_cases O:o=n
         . subst O;rw[AAX B]at l;obtain rfl:=AAW l;simp[Su]
         . rw[AAe ah]at l;rw[Array.getElem?_setIfInBounds_ne (by have:=Tv hk J l;omega)];exact v g o row e J l
       . rw[AAe ah]at m;rw[Array.getElem?_setIfInBounds_ne]
         . exact v g o r e m l
         . intro he;exact hi (xE (Tv hk m l) X he.symm).1
     . intro g o r e m l;by_cases u:g=i/\o=n
       . obtain⟨rfl,rfl⟩:=u;rw[AAX H]at m;obtain rfl:=AAW m;rw[AAX B]at l;obtain rfl:=AAW l;simpa using hn
       . simp only[u,AAk];have hold:Ok w S e (Fs g o):=by
          by_cases hi:g=i
          . subst hi;have O:o≠n:=λe=>u ⟨rfl,e⟩;rw[AAX H]at m;obtain rfl:=AAW m;rw[AAe ah]at l;exact hr g o row e J l
          . rw[AAe ah]at m;exact hr g o r e m l
         refine hold.mono (λx f=>Dc _ _ _ _ _ ?_) (λx f=>Dc _ _ _ _ _ ?_) (λ_ h=>h) hold.FQ
         . rintro rfl;exact Md f
         . rintro rfl;exact LR _ _ f
     . intro i1 j1 i2 j2 x f q;split at f<;>split at q
       . rename_i a b;omega
       . exact absurd ((hF x).2 (.inr ⟨i2,j2,q⟩)) (C x f)
       . exact absurd ((hF x).2 (.inr ⟨i1,j1,f⟩)) (C x q)
       . exact hd _ _ _ _ x f q
     . intro i1 j1 x f;split at f
       . rename_i u;obtain⟨rfl,rfl⟩:=u;exact⟨_,new,AAX H,AAX B⟩
       . obtain⟨r,e,m,l⟩:=B0 i1 j1 x f;by_cases hi:i1=i
         . subst hi;rename_i R;have O:j1≠n:=λe=>R ⟨rfl,e⟩;obtain rfl:row=r:=(by rw[J]at m;exact AAW m);exact⟨_,e,AAX H,by rw[AAe ah];exact l⟩
         . exact⟨r,e,by rw[AAe ah];exact m,l⟩
     . intro i1 j1 f;split at f
       . exact C b' f ((hF b').2 (.inl rfl))
       . exact LR _ _ f
   . rintro x (rfl|⟨i1,j1,f⟩)
     . exact .inl ((hF x).2 (.inl rfl))
     . split at f
       . exact .inr f
       . exact .inl ((hF x).2 (.inr ⟨i1,j1,f⟩))
 |cons s p ih=>
  obtain⟨i0,j0,k0⟩:=s;cases h with
  |lf a I _ ha hF=>simp[Abs.Ax]at y
  |nil k _ hF=>simp[Abs.Ax]at y
  |own bx0 k1 MB b0 c arr E Fs _ hbb hk Ee Md v hr hd B0 LR hF=>
   simp only[Abs.Ax]at y;split at y
   . split at y
     . rename_i L K _ M z;obtain⟨t,N,U,P,V,Q,G⟩:=ih (hr i0 j0 L M K z) y (λx f T=>C x f ((hF x).2 (.inr ⟨i0,j0,T⟩)));have R:b0≠b:=(by rintro rfl;exact LR _ _ G);have H:=(AAV.1 K).1;have B:=(AAV.1 z).1;refine⟨.own (KW bx0 b0 MB.length c) bx0 k1 (MB.set i0 (L.set j0 t)),λx=>x=b0\/∃g o,(if g=i0/\o=j0 then N else Fs g o) x,?_,?_,?_,ak,(hF b).2 (.inr ⟨i0,j0,G⟩)⟩
       . simp[D4,K,z,U]
       . rw[show(KW bx0 b0 MB.length c)=KW bx0 b0 (MB.set i0 (L.set j0 t)).length c from by simp];refine Ok.own bx0 k1 _ b0 c arr E (λg o=>if g=i0/\o=j0 then N else Fs g o) _ (by rw[Dc _ _ _ _ _ R];exact hbb) ?_ (by simpa using Ee) Md ?_ ?_ ?_ ?_ ?_ (λx=>Iff.rfl)
         . intro r jM;rcases AA7 jM with h|rfl
           . exact hk r h
           . simp[hk L (AAg K)]
         . intro g o r e m l;by_cases hi:g=i0
           . subst hi;rw[AAX H]at m;obtain rfl:=AAW m;by_cases O:o=j0
             . subst O;rw[AAX B]at l;obtain rfl:=AAW l;rw[Q];exact v g o L M K z
             . rw[AAe ah]at l;exact v g o L e K l
           . rw[AAe ah]at m;exact v g o r e m l
         . intro g o r e m l;by_cases u:g=i0/\o=j0
           . obtain⟨rfl,rfl⟩:=u;rw[AAX H]at m;obtain rfl:=AAW m;rw[AAX B]at l;obtain rfl:=AAW l;simpa using P
           . simp only[u,AAk];have hold:Ok w S e (Fs g o):=by
              by_cases hi:g=i0
              . subst hi;have O:o≠j0:=λe=>u ⟨rfl,e⟩;rw[AAX H]at m;obtain rfl:=AAW m;rw[AAe ah]at l;exact hr g o L e K l
              . rw[AAe ah]at m;exact hr g o r e m l
             refine hold.mono (λx f=>Dc _ _ _ _ _ ?_) (λx f=>Dc _ _ _ _ _ ?_) (λ_ h=>h) hold.FQ
             . rintro rfl;exact(hr i0 j0 L M K z).FQ x G f
             . rintro rfl;exact u (hd _ _ _ _ x f G)
         . intro i1 j1 i2 j2 x f q;split at f<;>split at q
           . rename_i a b;omega
           . rename_i a b;rcases V x f with h|h
             . exact absurd (hd _ _ _ _ x q h) b
             . exact absurd ((hF x).2 (.inr ⟨i2,j2,q⟩)) (C x h)
           . rename_i a b;rcases V x q with h|h
             . exact absurd (hd _ _ _ _ x f h) a
             . exact absurd ((hF x).2 (.inr ⟨i1,j1,f⟩)) (C x h)
           . exact hd _ _ _ _ x f q
         . intro i1 j1 x f;split at f
           . rename_i u;obtain⟨rfl,rfl⟩:=u;exact⟨_,t,AAX H,AAX B⟩
           . obtain⟨r,e,m,l⟩:=B0 i1 j1 x f;by_cases hi:i1=i0
             . subst hi;rename_i R;have O:j1≠j0:=λe=>R ⟨rfl,e⟩;obtain rfl:L=r:=(by rw[K]at m;exact AAW m);exact⟨_,e,AAX H,by rw[AAe ah];exact l⟩
             . exact⟨r,e,by rw[AAe ah];exact m,l⟩
         . intro i1 j1 f;split at f
           . rcases V b0 f with h|h
             . exact LR _ _ h
             . exact C b0 h ((hF b0).2 (.inl rfl))
           . exact LR _ _ f
       . rintro x (rfl|⟨i1,j1,f⟩)
         . exact .inl ((hF x).2 (.inl rfl))
         . split at f
           . rcases V x f with h|h
             . exact .inl ((hF x).2 (.inr ⟨i0,j0,h⟩))
             . exact .inr h
           . exact .inl ((hF x).2 (.inr ⟨i1,j1,f⟩))
     . cases y
   . cases y
  |agg cs Fs _ hr hd B0 hF=>
   simp only[Abs.Ax]at y;split at y
   . rename_i M z;obtain⟨t,N,U,P,V,Q,G⟩:=ih (hr j0 M z) y (λx f T=>C x f ((hF x).2 ⟨j0,T⟩));have B:=(AAV.1 z).1;refine⟨.agg (cs.set j0 t),λx=>∃g,(if g=j0 then N else Fs g) x,by simp[D4,z,U],?_,?_,?_,(hF b).2 ⟨j0,G⟩⟩
     . refine Ok.agg _ (λg=>if g=j0 then N else Fs g) _ ?_ ?_ ?_ (λx=>Iff.rfl)
       . intro g e l;by_cases hi:g=j0
         . subst hi;rw[AAX B]at l;obtain rfl:=AAW l;simpa using P
         . simp only[hi,AAk];rw[AAe ah]at l;refine(hr g e l).mono (λx f=>Dc _ _ _ _ _ ?_) (λx f=>Dc _ _ _ _ _ ?_) (λ_ h=>h) (hr g e l).FQ
           . rintro rfl;exact(hr j0 M z).FQ x G f
           . rintro rfl;exact hi (hd _ _ x f G)
       . intro i1 i2 x f q;split at f<;>split at q
         . omega
         . rename_i a b;rcases V x f with h|h
           . exact absurd (hd _ _ x q h) b
           . exact absurd ((hF x).2 ⟨i2,q⟩) (C x h)
         . rename_i a b;rcases V x q with h|h
           . exact absurd (hd _ _ x f h) a
           . exact absurd ((hF x).2 ⟨i1,f⟩) (C x h)
         . exact hd _ _ x f q
       . intro i1 x f;split at f
         . rename_i u;subst u;exact⟨t,AAX B⟩
         . rename_i u;obtain⟨e,m⟩:=B0 i1 x f;exact⟨e,by rw[AAe ah];exact m⟩
     . rintro x ⟨i1,f⟩;split at f
       . rcases V x f with h|h
         . exact .inl ((hF x).2 ⟨j0,h⟩)
         . exact .inr h
       . exact .inl ((hF x).2 ⟨i1,f⟩)
     . simp only[MZ,ABI,Q];congr 2;apply ABj;intro j;by_cases hn:j=j0
       . subst hn;rw[AAX (by simpa using B)];simp[z]
       . rw[AAe ah]
   . cases y
  |BZ cs Fs _ hr hd B0 hF=>
   simp only[Abs.Ax]at y;split at y
   . rename_i M z;obtain⟨t,N,U,P,V,Q,G⟩:=ih (hr j0 M z) y (λx f T=>C x f ((hF x).2 ⟨j0,T⟩));have B:=(AAV.1 z).1;refine⟨.BZ (cs.set j0 t),λx=>∃g,(if g=j0 then N else Fs g) x,by simp[D4,z,U],?_,?_,?_,(hF b).2 ⟨j0,G⟩⟩
     . refine Ok.BZ _ (λg=>if g=j0 then N else Fs g) _ ?_ ?_ ?_ (λx=>Iff.rfl)
       . intro g e l;by_cases hi:g=j0
         . subst hi;rw[AAX B]at l;obtain rfl:=AAW l;simpa using P
         . simp only[hi,AAk];rw[AAe ah]at l;refine(hr g e l).mono (λx f=>Dc _ _ _ _ _ ?_) (λx f=>Dc _ _ _ _ _ ?_) (λ_ h=>h) (hr g e l).FQ
           . rintro rfl;exact(hr j0 M z).FQ x G f
           . rintro rfl;exact hi (hd _ _ x f G)
       . intro i1 i2 x f q;split at f<;>split at q
         . omega
         . rename_i a b;rcases V x f with h|h
           . exact absurd (hd _ _ x q h) b
           . exact absurd ((hF x).2 ⟨i2,q⟩) (C x h)
         . rename_i a b;rcases V x q with h|h
           . exact absurd (hd _ _ x f h) a
           . exact absurd ((hF x).2 ⟨i1,f⟩) (C x h)
         . exact hd _ _ x f q
       . intro i1 x f;split at f
         . rename_i u;subst u;exact⟨t,AAX B⟩
         . rename_i u;obtain⟨e,m⟩:=B0 i1 x f;exact⟨e,by rw[AAe ah];exact m⟩
     . rintro x ⟨i1,f⟩;split at f
       . rcases V x f with h|h
         . exact .inl ((hF x).2 ⟨j0,h⟩)
         . exact .inr h
       . exact .inl ((hF x).2 ⟨i1,f⟩)
     . simp only[Oz,ABI,Q];congr 2;apply ABj;intro j;by_cases hn:j=j0
       . subst hn;rw[AAX (by simpa using B)];simp[z]
       . rw[AAe ah]
   . cases y
end
variable{δ:ji}{L:jh}
section
structure Gi where
 rt:List (Nat×List Nat)
def Gi.HA(G:Gi)(s:Nat):List Nat:=match G.rt.find? (·.1==s)with
 |some x=>x.2
 |none=>[]
def Gi.Pm(G:Gi)(d:Nat):List Nat:=(G.rt.filter (λx=>x.2.contains d)).map (·.1)
variable{G:Gi}
theorem Gi.xI(h:n∈G.HA k):k∈G.Pm n:=by
 unfold Gi.HA at h;split at h
 . rename_i x b;have a:=List.find?_some b;have c:=ABn b;simp only[AAh]at a;subst a;simp only[Gi.Pm,ABh,List.mem_filter];grind
 . cases h
mutual
def GL(L:jh):AV->Bool
 | .al r _=>L.contains r
 | .Lm r _ _ _ _=>L.contains r
 | .cl _ rs=>rs.all λx=>L.contains x.1
 | .vb s _ _=>L.contains s
 | .cb _ _ _ ss=>ss.all λx=>L.contains x.1
 | .agg cs=>RA L cs
 | .BZ cs=>RA L cs
 |_=>true
def ck{p:Prop}(h:p:=by simp[GL]):p:=h
def RA(L:jh):List AV->Bool
 |[]=>true
 |a::r=>GL L a&&RA L r
end
theorem YJ(L:jh)(l:i5):RA L l=l.all (GL L):=by
 induction l with
 |nil=>rfl
 |cons d r ih=>simp[RA,ih]
mutual
def Fj(d:Nat):AV->Bool
 | .al r _=>r != d
 | .Lm r _ _ _ _=>r != d
 | .cl _ rs=>rs.all λx=>x.1 != d
 | .vb s _ _=>s != d
 | .cb _ _ _ ss=>ss.all λx=>x.1 != d
 | .agg cs=>PR d cs
 | .BZ cs=>PR d cs
 |_=>true
def PR(d:Nat):List AV->Bool
 |[]=>true
 |a::r=>Fj d a&&PR d r
end
theorem fI(d:Nat)(l:i5):PR d l=l.all (Fj d):=by
 induction l with
 |nil=>rfl
 |cons a r ih=>simp[PR,ih]
mutual
def Dv(d:Nat):AV->AV
 | .al r p=>if r=d then .dead else .al r p
 | .Lm r p i j k=>if r=d then .dead else .Lm r p i j k
 | .cl f rs=>if(rs.all λx=>x.1 != d)=true then .cl f rs else .dead
 | .vb s o us=>if s=d then .dead else .vb s o us
 | .cb f vs b ss=>if(ss.all λx=>x.1 != d)=true then .cb f vs b ss else .dead
 | .agg cs=>.agg (Qi d cs)
 | .BZ cs=>.BZ (Qi d cs)
 |a=>a
def cm{p:Prop}(h:p:=by simp[Dv]):p:=h
def Qi(d:Nat):List AV->List AV
 |[]=>[]
 |a::r=>Dv d a::Qi d r
end
theorem fE(d:Nat)(l:i5):Qi d l=l.map (Dv d):=by
 induction l with
 |nil=>rfl
 |cons a r ih=>simp[Qi,ih]
@[simp]theorem rin_sc(L:jh)(v:jn):GL L (.sc v)=true:=ck
@[simp]theorem rin_sl(L:jh)(x:Bool)(k:Nat)(rows:i6):GL L (.sl x k rows)=true:=ck
@[simp]theorem rin_own(L:jh)(x:Bool)(k:Nat)(rows:i6):GL L (.own x k rows)=true:=ck
@[simp]theorem rin_fp(L:jh)(a:i5):GL L (.fp a)=true:=ck
@[simp]theorem rin_dead(L:jh):GL L .dead=true:=ck
@[simp]theorem rin_un(L:jh):GL L .un=true:=ck
@[simp]theorem K7(L:jh)(r:Nat)(p:i4):GL L (.al r p)=L.contains r:=ck
@[simp]theorem YK(L:jh)(r:Nat)(p:i4)(i j k:Nat):GL L (.Lm r p i j k)=L.contains r:=ck
@[simp]theorem K6(L:jh)(a:i5):GL L (.agg a)=a.all (GL L):=by simp[GL,YJ]
@[simp]theorem Pa(L:jh)(a:i5):GL L (.BZ a)=a.all (GL L):=by simp[GL,YJ]
@[simp]theorem killr_sc(d:Nat)(v:jn):Dv d (.sc v)= .sc v:=cm
@[simp]theorem killr_sl(d:Nat)(x:Bool)(k:Nat)(rows:i6):Dv d (.sl x k rows)= .sl x k rows:=cm
@[simp]theorem killr_own(d:Nat)(x:Bool)(k:Nat)(rows:i6):Dv d (.own x k rows)= .own x k rows:=cm
@[simp]theorem killr_fp(d:Nat)(a:i5):Dv d (.fp a)= .fp a:=cm
@[simp]theorem killr_dead(d:Nat):Dv d .dead= .dead:=cm
@[simp]theorem killr_un(d:Nat):Dv d .un= .un:=cm
@[simp]theorem ZQ(d r:Nat)(p:i4):Dv d (.al r p)=if r=d then .dead else .al r p:=cm
@[simp]theorem Vu(d r:Nat)(p:i4)(i j k:Nat):Dv d (.Lm r p i j k)=if r=d then .dead else .Lm r p i j k:=cm
@[simp]theorem killr_agg(d:Nat)(a:i5):Dv d (.agg a)= .agg (a.map (Dv d)):=by simp[Dv,fE]
@[simp]theorem killr_tup(d:Nat)(a:i5):Dv d (.BZ a)= .BZ (a.map (Dv d)):=by simp[Dv,fE]
@[simp]theorem rin_fcl(L:jh)(f:Nat)(a:i6):GL L (.YA f a)=true:=ck
@[simp]theorem killr_fcl(d f:Nat)(a:i6):Dv d (.YA f a)= .YA f a:=cm
@[simp]theorem rin_vb(L:jh)(s o:Nat)(a:jj):GL L (.vb s o a)=L.contains s:=ck
@[simp]theorem ZR(d s o:Nat)(a:jj):Dv d (.vb s o a)=if s=d then .dead else .vb s o a:=cm
@[simp]theorem nroot_vb(d s o:Nat)(a:jj):Fj d (.vb s o a)=(s != d):=by simp[Fj]
@[simp]theorem rin_cl(L:jh)(f:Nat)(rs:j9):GL L (.cl f rs)=rs.all λx=>L.contains x.1:=ck
@[simp]theorem Uc(d f:Nat)(rs:j9):Dv d (.cl f rs)=if(rs.all λx=>x.1 != d)=true then .cl f rs else .dead:=cm
@[simp]theorem nroot_cl(d f:Nat)(rs:j9):Fj d (.cl f rs)=rs.all λx=>x.1 != d:=by simp[Fj]
@[simp]theorem rin_cb(L:jh)(f:Nat)(vs:jj)(b:Nat)(a:nh):GL L (.cb f vs b a)=a.all λx=>L.contains x.1:=ck
@[simp]theorem Ub(d f:Nat)(vs:jj)(b:Nat)(a:nh):Dv d (.cb f vs b a)=if(a.all λx=>x.1 != d)=true then .cb f vs b a else .dead:=cm
@[simp]theorem nroot_cb(d f:Nat)(vs:jj)(b:Nat)(a:nh):Fj d (.cb f vs b a)=a.all λx=>x.1 != d:=by simp[Fj]
@[simp]theorem nroot_agg(d:Nat)(a:i5):Fj d (.agg a)=a.all (Fj d):=by simp[Fj,fI]
@[simp]theorem nroot_tup(d:Nat)(a:i5):Fj d (.BZ a)=a.all (Fj d):=by simp[Fj,fI]
@[simp]theorem nroot_al(d r:Nat)(p:i4):Fj d (.al r p)=(r != d):=by simp[Fj]
@[simp]theorem nroot_adr(d r:Nat)(p:i4)(i j k:Nat):Fj d (.Lm r p i j k)=(r != d):=by simp[Fj]
mutual
def IY(d:Nat):DV->DV
 | .lf a v=>.lf (Dv d a) v
 | .own h b k rows=>.own h b k rows
 | .agg cs=>.agg (ZJ d cs)
 | .BZ cs=>.BZ (ZJ d cs)
def ZJ(d:Nat):List DV->List DV
 |[]=>[]
 |a::r=>IY d a::ZJ d r
end
theorem fB(d:Nat)(l:jl):ZJ d l=l.map (IY d):=by
 induction l with
 |nil=>rfl
 |cons a r ih=>simp[ZJ,ih]
@[simp]theorem UZ(d:Nat)(a:AV)(v:jn):IY d (.lf a v)= .lf (Dv d a) v:=by simp[IY]
@[simp]theorem Rj(d:Nat)(h:jn)(b:Bool)(k:Nat)(rows:jd):IY d (.own h b k rows)= .own h b k rows:=by simp[IY]
@[simp]theorem Ob(d:Nat)(a:jl):IY d (.agg a)= .agg (a.map (IY d)):=by simp[IY,fB]
@[simp]theorem Oc(d:Nat)(a:jl):IY d (.BZ a)= .BZ (a.map (IY d)):=by simp[IY,fB]
variable{w w':ja}{S S':iu}{x:DV}{F F':iu}
theorem Lv(d:Nat)(h:Ok w S x F):(IY d x).er=Dv d x.er/\(IY d x).A0=x.A0/\Ok w S (IY d x) F/\Fj d (IY d x).er=true:=by
 induction h with
 |lf a v F ha hF=>
  refine⟨ak,ak,?_,?_⟩
  . rw[UZ];refine .lf _ v F ?_ hF;cases a with
    |al r p=>rw[ZQ];by_cases h:r=d<;>simp[h,Hh]
    |Lm r p i j k=>rw[Vu];by_cases h:r=d<;>simp[h,Hh]
    |cl f rs=>rw[Uc];split<;>trivial
    |vb s o us=>rw[ZR];split<;>first|trivial|exact ha
    |cb f vs b ss=>rw[Ub];split<;>first|trivial|exact ha
    |agg cs=>exact ha.elim
    |BZ cs=>exact ha.elim
    |own=>exact ha.elim
    |_=>simp_all
  . have:=ha.DS;cases a with
    |al r p=>by_cases h:r=d<;>simp[h,Fj]
    |Lm r p i j k=>by_cases h:r=d<;>simp[h,Fj]
    |vb s o us=>by_cases h:s=d<;>simp[h,Fj]
    |cl f rs=>
     simp only[UZ,Eb,Uc];split
     . rename_i h;simpa using h
     . simp[Fj]
    |cb f vs b ss=>
     simp only[UZ,Eb,Ub];split
     . simp_all
     . simp[Fj]
    |agg cs=>exact ha.elim
    |BZ cs=>exact ha.elim
    |own=>exact ha.elim
    |_=>simp[Fj]
 |nil k F hF=>exact⟨ak,ak,by rw[Rj];exact .nil k F hF,by simp[Fj]⟩
 |own bx k rows b c arr E Fs F hb hk Ee Md hv hr hd B0 LR hF ih=>exact⟨ak,ak,by rw[Rj];exact .own bx k rows b c arr E Fs F hb hk Ee Md hv hr hd B0 LR hF,by simp[Fj]⟩
 |agg cs Fs F hr hd B0 hF ih=>
  have key:∀e∈cs,(IY d e).er=Dv d e.er/\(IY d e).A0=e.A0/\Fj d (IY d e).er=true:=by intro e g;obtain⟨i,hi⟩:=List.getElem?_of_mem g;exact⟨(ih i e hi).1,(ih i e hi).2.1,(ih i e hi).2.2.2⟩
  refine⟨?_,?_,?_,?_⟩
  . simp_all
  . simp_all
  . rw[Ob];refine .agg _ Fs F ?_ hd ?_ hF
    all_goals grind
  . simp only[Ob,Iy,nroot_agg,List.map_map,List.all_map,List.all_eq_true];grind
 |BZ cs Fs F hr hd B0 hF ih=>
  have key:∀e∈cs,(IY d e).er=Dv d e.er/\(IY d e).A0=e.A0/\Fj d (IY d e).er=true:=by intro e g;obtain⟨i,hi⟩:=List.getElem?_of_mem g;exact⟨(ih i e hi).1,(ih i e hi).2.1,(ih i e hi).2.2.2⟩
  refine⟨?_,?_,?_,?_⟩
  . simp_all
  . simp_all
  . rw[Oc];refine .BZ _ Fs F ?_ hd ?_ hF
    all_goals grind
  . simp only[Oc,LP,nroot_tup,List.map_map,List.all_map,List.all_eq_true];grind
def Nz(δ:ji):AV->Value->Prop
 | .al r p,v=>∃bx k rows,Ax (δ r) p=some (.own v bx k rows)
 | .Lm r p i j k,v=>∃h bx rows b,Ax (δ r) p=some (.own h bx k rows)/\US h=some b/\v= .pointer (some ⟨b,i*k+j,none⟩)
 | .vb s _ us,_=>(δ s).A0= .agg us.toArray
 | .cb _ vs _ ss,_=>vs.length=ss.length/\∀(i:Nat) s fl u,ss[i]? =some (s,fl)->vs[i]? =some u->(δ s).A0=u/\(fl=true->∃bx k rows,Ax (δ s) []=some (.own u bx k rows))
 | .cl f rs,v=>∃vs:List Value,v= .func (.func f) #[] vs.toArray/\vs.length=rs.length/\∀(i:Nat) r p u,rs[i]? =some (r,p)->vs[i]? =some u->∃bx k rows,Ax (δ r) p=some (.own u bx k rows)
 |_,_=>True
inductive Dr (δ:Nat->DV):DV->Prop
 |lf (a v) (h:Nz δ a v):Dr δ (.lf a v)
 |own (h b k rows):Dr δ (.own h b k rows)
 |agg (cs) (hr:∀(i:Nat) d,cs[i]? =some d->Dr δ d):Dr δ (.agg cs)
 |BZ (cs) (hr:∀(i:Nat) d,cs[i]? =some d->Dr δ d):Dr δ (.BZ cs)
theorem Dr.mono{e:ji}(h:Dr δ x)(g:GL L x.er=true)(w:∀r∈L,∀p v bx k rows,Ax (δ r) p=some (.own v bx k rows)->∃c,Ax (e r) p=some (.own v bx k c))(y:∀r∈L,(e r).A0=(δ r).A0):Dr e x:=by
 induction h with
 |lf a v h=>
  refine .lf a v ?_;cases a with
  |al r p=>obtain⟨bx,k,rows,h⟩:=h;obtain⟨c,l⟩:=w r am p v bx k rows h;exact⟨bx,k,c,l⟩
  |Lm r p i j k=>obtain⟨t,bx,rows,b,h,B,rfl⟩:=h;obtain⟨c,l⟩:=w r am p t bx k rows h;exact⟨t,bx,c,b,l,B,rfl⟩
  |vb s o us=>exact(y s am).trans h
  |cb f vs b ss=>refine⟨h.1,λi s fl u hi m=> ?_⟩;simp only[Eb,rin_cb,List.all_eq_true]at g;have C:s∈L:=(by simpa using g _ (List.mem_of_getElem? hi));obtain⟨n,q⟩:=h.2 i s fl u hi m;grind
  |cl f rs=>obtain⟨vs,n,q,z⟩:=h;refine⟨vs,n,q,λi r p u hi m=> ?_⟩;obtain⟨bx,k,rows,C⟩:=z i r p u hi m;simp only[Eb,rin_cl,List.all_eq_true]at g;grind
  |_=>trivial
 |own=>exact .own _ _ _ _
 |agg cs _ ih=>refine .agg cs λi d hd=>ih i d hd ?_;simp only[Iy,K6,List.all_map,List.all_eq_true]at g;grind
 |BZ cs _ ih=>refine .BZ cs λi d hd=>ih i d hd ?_;simp only[LP,Pa,List.all_map,List.all_eq_true]at g;grind
theorem rin_nroot{a:AV}:GL L a=true->k∉L->Fj k a=true:=by
 refine AV.rec (motive_1:=λa=>GL L a=true->k∉L->Fj k a=true) (motive_2:=λ_=>True) (motive_3:=λl=>RA L l=true->k∉L->PR k l=true)
  ?_ ?_ ?_ ?_ ?_ ?_ ?_ ?_ ?_ ?_ ?_ ?_ ?_ ?_ ?_ ?_ ?_ ?_ a
 all_goals intros
 all_goals first|trivial|simp[Fj];done|skip
 all_goals simp_all [GL,RA,PR,Fj]
 all_goals grind
theorem killr_rin{a:AV}:GL L a=true->GL L (Dv k a)=true:=by
 refine AV.rec (motive_1:=λa=>GL L a=true->GL L (Dv k a)=true) (motive_2:=λ_=>True) (motive_3:=λl=>RA L l=true->RA L (Qi k l)=true)
  ?_ ?_ ?_ ?_ ?_ ?_ ?_ ?_ ?_ ?_ ?_ ?_ ?_ ?_ ?_ ?_ ?_ ?_ a
 all_goals intros
 all_goals first|trivial| (simp_all [GL,RA,Dv,Qi];done)|skip
 all_goals first
  | (simp only[Dv];split<;>simp_all [GL];done)
  | (simp only[Dv];split<;>first|assumption|simp[GL])
  | (rename_i b h;simp only[Dv,GL]at h |-;exact b h)
end
variable{z:DV}
section
variable{w w':ja}{S S':iu}{d:DV}{F F':iu}
theorem Ok.replace(p:i4)(h:Ok w S d F)(C:Abs.Ax d p=some new):
 ∃q,Ok w S new q/\(∀x,q x->F x)/\∀(w':ja)(S':iu)(n:DV)(Fn:iu),n.A0=new.A0->Ok w' S' n Fn->
  (∀x,Fn x->F x->q x)->(∀b,S b->w'.heap[b]? =w.heap[b]?)->(∀b,F b->¬q b->w'.heap[b]? =w.heap[b]?)->(∀b,S b->S' b)->(∀b,F b->¬q b->¬S' b)->
  ∃t F',D4 d p n=some t/\Ok w' S' t F'/\(∀x,F' x↔(F x/\¬q x)\/Fn x)/\t.A0=d.A0:=by
 induction p generalizing d F with
 |nil=>
  simp only[Abs.Ax,AAU]at C;subst C;refine⟨F,h,λ_ h=>h,λw' S' n Fn ha hn _ _ _ _ _=>⟨n,Fn,rfl,hn,λx=>⟨.inr,?_⟩,ha⟩⟩;rintro(⟨y,K⟩|h)
  . exact absurd y K
  . exact h
 |cons s p ih=>
  obtain⟨i0,j0,k0⟩:=s;cases h with
  |lf a v _ ha hF=>simp[Abs.Ax]at C
  |nil k _ hF=>simp[Abs.Ax]at C
  |own bx0 k1 MB b0 c arr E Fs _ hbb hk Ee Md hv hr hd B0 LR hF=>
   simp only[Abs.Ax]at C;split at C
   . split at C
     . rename_i X V _ e0 H;obtain⟨q,ho,Q,N8⟩:=ih (hr i0 j0 X e0 V H) C;have O:∀x,q x->F x:=λx f=>(hF x).2 (.inr ⟨i0,j0,Q x f⟩);refine⟨q,ho,O,?_⟩;intro w' S' n Fn ha hn z Z U W R;have EP:=(AAV.1 V).1;have N:=(AAV.1 H).1;obtain⟨t,L,ht,Cq,G,EJ⟩:=N8 w' S' n Fn ha hn (λx f u=>z x f ((hF x).2 (.inr ⟨i0,j0,u⟩))) Z
        (λb P=>U b ((hF b).2 (.inr ⟨i0,j0,P⟩))) W (λb P=>R b ((hF b).2 (.inr ⟨i0,j0,P⟩)))
       have T:¬q b0:=λh=>LR _ _ (Q _ h);have J:F b0:=(hF b0).2 (.inl rfl);have M:∀i j,¬(i=i0/\j=j0)->∀x,Fs i j x->¬q x:=λi j l x f YF=>l (hd _ _ _ _ x f (Q x YF));refine⟨.own (KW bx0 b0 MB.length c) bx0 k1 (MB.set i0 (X.set j0 t)),λx=>x=b0\/∃g B,(if g=i0/\B=j0 then L else Fs g B) x,?_,?_,?_,ak⟩
       . simp[D4,V,H,ht]
       . rw[show(KW bx0 b0 MB.length c)=KW bx0 b0 (MB.set i0 (X.set j0 t)).length c from by simp];refine Ok.own bx0 k1 _ b0 c arr E (λg B=>if g=i0/\B=j0 then L else Fs g B) _ (by rw[U b0 J T];exact hbb) ?_ (by simpa using Ee) (R b0 J T) ?_ ?_ ?_ ?_ ?_ (λx=>Iff.rfl)
         . intro r jM;rcases AA7 jM with h|rfl
           . exact hk r h
           . simp[hk X (AAg V)]
         . intro g B r e m o;by_cases hi:g=i0
           . subst hi;rw[AAX EP]at m;obtain rfl:=AAW m;by_cases hj:B=j0
             . subst hj;rw[AAX N]at o;obtain rfl:=AAW o;rw[EJ];exact hv g B X e0 V H
             . rw[AAe ah]at o;exact hv g B X e V o
           . rw[AAe ah]at m;exact hv g B r e m o
         . intro g B r e m o;by_cases l:g=i0/\B=j0
           . obtain⟨rfl,rfl⟩:=l;rw[AAX EP]at m;obtain rfl:=AAW m;rw[AAX N]at o;obtain rfl:=AAW o;simpa using Cq
           . simp only[l,AAk];have hold:Ok w S e (Fs g B):=by
              by_cases hi:g=i0
              . subst hi;have hj:B≠j0:=λe=>l ⟨rfl,e⟩;rw[AAX EP]at m;obtain rfl:=AAW m;rw[AAe ah]at o;exact hr g B X e V o
              . rw[AAe ah]at m;exact hr g B r e m o
             have I:∀x,Fs g B x->F x/\¬q x:=λx f=>⟨(hF x).2 (.inr ⟨g,B,f⟩),M g B l x f⟩;exact hold.mono Z (λx f=>U x (I x f).1 (I x f).2) W (λx f=>R x (I x f).1 (I x f).2)
         . intro i1 j1 i2 j2 x f u;have D:∀i j,¬(i=i0/\j=j0)->Fs i j x->¬L x:=by
            intro i j l y K;rcases(G x).1 K with⟨m,o⟩|m
            . exact l (hd _ _ _ _ x y m)
            . exact M i j l x y (z x m ((hF x).2 (.inr ⟨i,j,y⟩)))
           split at f<;>split at u
           . rename_i a b;omega
           . rename_i a b;exact absurd f (D _ _ b u)
           . rename_i a b;exact absurd u (D _ _ a f)
           . exact hd _ _ _ _ x f u
         . intro i1 j1 x f;split at f
           . rename_i l;obtain⟨rfl,rfl⟩:=l;exact⟨_,t,AAX EP,AAX N⟩
           . obtain⟨r,e,m,o⟩:=B0 i1 j1 x f;by_cases hi:i1=i0
             . subst hi;rename_i Me;have hj:j1≠j0:=λe=>Me ⟨rfl,e⟩;obtain rfl:X=r:=(by rw[V]at m;exact AAW m);exact⟨_,e,AAX EP,by rw[AAe ah];exact o⟩
             . exact⟨r,e,by rw[AAe ah];exact m,o⟩
         . intro i1 j1 f;split at f
           . rcases(G b0).1 f with h|h
             . exact LR _ _ h.1
             . exact T (z b0 h J)
           . exact LR _ _ f
       . intro x;constructor
         . rintro(rfl|⟨i1,j1,f⟩)
           . exact .inl ⟨J,T⟩
           . split at f
             . rcases(G x).1 f with h|h
               . exact .inl ⟨(hF x).2 (.inr ⟨i0,j0,h.1⟩),h.2⟩
               . exact .inr h
             . rename_i l;exact .inl ⟨(hF x).2 (.inr ⟨i1,j1,f⟩),M _ _ l x f⟩
         . rintro(⟨y,K⟩|h)
           . rcases(hF x).1 y with rfl|⟨i1,j1,m⟩
             . exact .inl rfl
             . by_cases l:i1=i0/\j1=j0
               . obtain⟨rfl,rfl⟩:=l;exact .inr ⟨i1,j1,by simp;exact(G x).2 (.inl ⟨m,K⟩)⟩
               . exact .inr ⟨i1,j1,by simp only[l,AAk];exact m⟩
           . exact .inr ⟨i0,j0,by simp;exact(G x).2 (.inr h)⟩
     . cases C
   . cases C
  |agg cs Fs _ hr hd B0 hF=>
   simp only[Abs.Ax]at C;split at C
   . rename_i e0 H;obtain⟨q,ho,Q,N8⟩:=ih (hr j0 e0 H) C;have O:∀x,q x->F x:=λx f=>(hF x).2 ⟨j0,Q x f⟩;refine⟨q,ho,O,?_⟩;intro w' S' n Fn ha hn z Z U W R;have N:=(AAV.1 H).1;obtain⟨t,L,ht,Cq,G,EJ⟩:=N8 w' S' n Fn ha hn (λx f u=>z x f ((hF x).2 ⟨j0,u⟩)) Z
      (λb P=>U b ((hF b).2 ⟨j0,P⟩)) W (λb P=>R b ((hF b).2 ⟨j0,P⟩))
     have M:∀i,¬i=j0->∀x,Fs i x->¬q x:=λi l x f YF=>l (hd _ _ x f (Q x YF));refine⟨.agg (cs.set j0 t),λx=>∃g,(if g=j0 then L else Fs g) x,by simp[D4,H,ht],?_,?_,?_⟩
     . refine Ok.agg _ (λg=>if g=j0 then L else Fs g) _ ?_ ?_ ?_ (λx=>Iff.rfl)
       . intro g e o;by_cases hi:g=j0
         . subst hi;rw[AAX N]at o;obtain rfl:=AAW o;simpa using Cq
         . simp only[hi,AAk];rw[AAe ah]at o;have I:∀x,Fs g x->F x/\¬q x:=λx f=>⟨(hF x).2 ⟨g,f⟩,M g hi x f⟩;exact(hr g e o).mono Z (λx f=>U x (I x f).1 (I x f).2) W (λx f=>R x (I x f).1 (I x f).2)
       . intro i1 i2 x f u;have D:∀i,¬i=j0->Fs i x->¬L x:=by
          intro i l y K;rcases(G x).1 K with⟨m,o⟩|m
          . exact l (hd _ _ x y m)
          . exact M i l x y (z x m ((hF x).2 ⟨i,y⟩))
         split at f<;>split at u
         . omega
         . rename_i a b;exact absurd f (D _ b u)
         . rename_i a b;exact absurd u (D _ a f)
         . exact hd _ _ x f u
       . intro i1 x f;split at f
         . rename_i l;subst l;exact⟨t,AAX N⟩
         . rename_i l;obtain⟨e,m⟩:=B0 i1 x f;exact⟨e,by rw[AAe ah];exact m⟩
     . intro x;constructor
       . rintro⟨i1,f⟩;split at f
         . rcases(G x).1 f with h|h
           . exact .inl ⟨(hF x).2 ⟨j0,h.1⟩,h.2⟩
           . exact .inr h
         . rename_i l;exact .inl ⟨(hF x).2 ⟨i1,f⟩,M _ l x f⟩
       . rintro(⟨y,K⟩|h)
         . obtain⟨i1,m⟩:=(hF x).1 y;by_cases l:i1=j0
           . subst l;exact⟨i1,by simp;exact(G x).2 (.inl ⟨m,K⟩)⟩
           . exact⟨i1,by simp only[l,AAk];exact m⟩
         . exact⟨j0,by simp;exact(G x).2 (.inr h)⟩
     . simp only[MZ,ABI,EJ];congr 2;apply ABj;intro new;by_cases hn:new=j0
       . subst hn;rw[AAX (by simpa using N)];simp[H]
       . rw[AAe ah]
   . cases C
  |BZ cs Fs _ hr hd B0 hF=>
   simp only[Abs.Ax]at C;split at C
   . rename_i e0 H;obtain⟨q,ho,Q,N8⟩:=ih (hr j0 e0 H) C;have O:∀x,q x->F x:=λx f=>(hF x).2 ⟨j0,Q x f⟩;refine⟨q,ho,O,?_⟩;intro w' S' n Fn ha hn z Z U W R;have N:=(AAV.1 H).1;obtain⟨t,L,ht,Cq,G,EJ⟩:=N8 w' S' n Fn ha hn (λx f u=>z x f ((hF x).2 ⟨j0,u⟩)) Z
      (λb P=>U b ((hF b).2 ⟨j0,P⟩)) W (λb P=>R b ((hF b).2 ⟨j0,P⟩))
     have M:∀i,¬i=j0->∀x,Fs i x->¬q x:=λi l x f YF=>l (hd _ _ x f (Q x YF));refine⟨.BZ (cs.set j0 t),λx=>∃g,(if g=j0 then L else Fs g) x,by simp[D4,H,ht],?_,?_,?_⟩
     . refine Ok.BZ _ (λg=>if g=j0 then L else Fs g) _ ?_ ?_ ?_ (λx=>Iff.rfl)
       . intro g e o;by_cases hi:g=j0
         . subst hi;rw[AAX N]at o;obtain rfl:=AAW o;simpa using Cq
         . simp only[hi,AAk];rw[AAe ah]at o;have I:∀x,Fs g x->F x/\¬q x:=λx f=>⟨(hF x).2 ⟨g,f⟩,M g hi x f⟩;exact(hr g e o).mono Z (λx f=>U x (I x f).1 (I x f).2) W (λx f=>R x (I x f).1 (I x f).2)
       . intro i1 i2 x f u;have D:∀i,¬i=j0->Fs i x->¬L x:=by
          intro i l y K;rcases(G x).1 K with⟨m,o⟩|m
          . exact l (hd _ _ x y m)
          . exact M i l x y (z x m ((hF x).2 ⟨i,y⟩))
         split at f<;>split at u
         . omega
         . rename_i a b;exact absurd f (D _ b u)
         . rename_i a b;exact absurd u (D _ a f)
         . exact hd _ _ x f u
       . intro i1 x f;split at f
         . rename_i l;subst l;exact⟨t,AAX N⟩
         . rename_i l;obtain⟨e,m⟩:=B0 i1 x f;exact⟨e,by rw[AAe ah];exact m⟩
     . intro x;constructor
       . rintro⟨i1,f⟩;split at f
         . rcases(G x).1 f with h|h
           . exact .inl ⟨(hF x).2 ⟨j0,h.1⟩,h.2⟩
           . exact .inr h
         . rename_i l;exact .inl ⟨(hF x).2 ⟨i1,f⟩,M _ l x f⟩
       . rintro(⟨y,K⟩|h)
         . obtain⟨i1,m⟩:=(hF x).1 y;by_cases l:i1=j0
           . subst l;exact⟨i1,by simp;exact(G x).2 (.inl ⟨m,K⟩)⟩
           . exact⟨i1,by simp only[l,AAk];exact m⟩
         . exact⟨j0,by simp;exact(G x).2 (.inr h)⟩
     . simp only[Oz,ABI,EJ];congr 2;apply ABj;intro new;by_cases hn:new=j0
       . subst hn;rw[AAX (by simpa using N)];simp[H]
       . rw[AAe ah]
   . cases C
theorem S6{l:DV}(m:i4)(d:D4 D m new=some z)(f:Abs.Ax D m=some l)(o:∀h b k rows,l≠ .own h b k rows)(w:∀e,l≠ .agg e)(x:∀e,l≠ .BZ e)(q:i4)(v:jn)(bx:Bool)(k:Nat)(rows:jd)(g:Abs.Ax D q=some (.own v bx k rows)):∃n,Abs.Ax z q=some (.own v bx k n):=by
 induction m generalizing D z q with
 |nil=>
  simp only[Abs.Ax,AAU]at f;subst f;cases q with
  |nil=>simp only[Abs.Ax,AAU]at g;grind
  |cons s q=>
   cases D with
   |lf a v=>simp[Abs.Ax]at g
   |own h b k rows=>grind
   |agg e=>simp_all
   |BZ e=>simp_all
 |cons s m ih=>
  obtain⟨i,j,B⟩:=s;cases D with
  |lf a v=>simp[D4]at d
  |own h b k1 Kb=>
   simp only[D4]at d;simp only[Abs.Ax]at f;cases hi:Kb[i]? with
   |none=>simp_all
   |some row=>
    simp only[hi]at d f;cases hj:row[j]? with
    |none=>simp_all
    |some c=>
     simp only[hj]at d f;cases hc:D4 c m new with
     |none=>simp_all
     |some c'=>
      simp only[hc,AAU]at d;subst d;have y:=(AAV.1 hi).1;have p:=(AAV.1 hj).1;cases q with
      |nil=>simp only[Abs.Ax,AAU,DV.own.injEq]at g;obtain⟨rfl,rfl,rfl,_⟩:=g;exact⟨_,rfl⟩
      |cons s2 q=>obtain⟨i2,r,u⟩:=s2;simp only[Abs.Ax]at g |-;grind
  |agg e=>
   simp only[D4]at d;simp only[Abs.Ax]at f;cases hj:e[j]? with
   |none=>simp_all
   |some c=>
    simp only[hj]at d f;cases hc:D4 c m new with
    |none=>simp_all
    |some c'=>
     simp only[hc,AAU]at d;subst d;have p:=(AAV.1 hj).1;cases q with
     |nil=>simp[Abs.Ax]at g
     |cons s2 q=>obtain⟨i2,r,u⟩:=s2;simp only[Abs.Ax]at g |-;grind
  |BZ e=>
   simp only[D4]at d;simp only[Abs.Ax]at f;cases hj:e[j]? with
   |none=>simp_all
   |some c=>
    simp only[hj]at d f;cases hc:D4 c m new with
    |none=>simp_all
    |some c'=>
     simp only[hc,AAU]at d;subst d;have p:=(AAV.1 hj).1;cases q with
     |nil=>simp[Abs.Ax]at g
     |cons s2 q=>obtain⟨i2,r,u⟩:=s2;simp only[Abs.Ax]at g |-;grind
end
section
variable{w w':ja}{S S':iu}{F F':iu}
structure St (G:Gi) (w:World) (S:Nat->Prop) (δ:Nat->DV) (F:Nat->Nat->Prop):Prop where
 ok:∀s,Ok w S (δ s) (F s)
 NK:∀s t x,F s x->F t x->s=t
 al:∀s,Dr δ (δ s)
 rt:∀s,GL (G.HA s) (δ s).er=true
 self:∀s,s∉G.HA s
mutual
def FG(n d:Nat):AV->AV
 | .al r p=>if r=d/\n<=p.length then .dead else .al r p
 | .Lm r p i j k=>if r=d/\n<=p.length then .dead else .Lm r p i j k
 | .cl f rs=>if(rs.all λx=>x.1 != d)=true then .cl f rs else .dead
 | .vb s o us=>if s=d then .dead else .vb s o us
 | .cb f vs b ss=>if(ss.all λx=>x.1 != d||(x.2&&decide (0<n)))=true then .cb f vs b ss else .dead
 | .agg cs=>.agg (Vs n d cs)
 | .BZ cs=>.BZ (Vs n d cs)
 |a=>a
def cn{p:Prop}(h:p:=by simp[FG]):p:=h
def Vs(n d:Nat):List AV->List AV
 |[]=>[]
 |a::r=>FG n d a::Vs n d r
end
theorem fD(n d:Nat)(l:i5):Vs n d l=l.map (FG n d):=by
 induction l with
 |nil=>rfl
 |cons a r ih=>simp[Vs,ih]
mutual
def HW(n d:Nat):DV->DV
 | .lf a v=>.lf (FG n d a) v
 | .own h b k rows=>.own h b k rows
 | .agg cs=>.agg (Ua n d cs)
 | .BZ cs=>.BZ (Ua n d cs)
def Ua(n d:Nat):List DV->List DV
 |[]=>[]
 |a::r=>HW n d a::Ua n d r
end
theorem ZK(n d:Nat)(l:jl):Ua n d l=l.map (HW n d):=by
 induction l with
 |nil=>rfl
 |cons a r ih=>simp[Ua,ih]
def GJ(G:Gi)(n d:Nat)(h:Sg):Sg:=λs=>if s∈G.Pm d then FG n d (h s)else h s
def Eo(G:Gi)(n d:Nat)(δ:ji):Nat->DV:=λs=>if s∈G.Pm d then HW n d (δ s)else δ s
def KY(G:Gi)(d:Nat)(h:Sg):Sg:=λs=>if s∈G.Pm d then Dv d (h s)else h s
def ID(G:Gi)(d:Nat)(δ:ji):Nat->DV:=λs=>if s∈G.Pm d then IY d (δ s)else δ s
theorem aX(t:Nat)(q:i4)(e:Abs.Ax d q=some (.own v bx k rows)):Abs.Ax (IY t d) q=some (.own v bx k rows):=by
 induction q generalizing d with
 |nil=>simp only[Abs.Ax,Option.some.injEq]at e;subst e;simp[Abs.Ax]
 |cons s q ih=>
  obtain⟨i,j,f⟩:=s;cases d with
  |lf a v=>simp[Abs.Ax]at e
  |own h b k1 Kb=>rw[Rj];exact e
  |agg cs=>
   simp only[Ob,Abs.Ax,List.getElem?_map]at e |-;cases hj:cs[j]? with
   |none=>simp[hj]at e
   |some c=>simp only[hj,Option.map_some]at e |-;exact ih e
  |BZ cs=>
   simp only[Oc,Abs.Ax,List.getElem?_map]at e |-;cases hj:cs[j]? with
   |none=>simp[hj]at e
   |some c=>simp only[hj,Option.map_some]at e |-;exact ih e
theorem Dr.kill{δ:ji}(x:Nat)(h:Dr δ d)(c:dU d):Dr δ (IY x d):=by
 induction h with
 |lf a v h=>
  rw[UZ];refine .lf _ v ?_;cases c with
  |lf _ _ c=>
   cases a with
   |al r p=>
    rw[ZQ];by_cases e:r=x
    . simp only[e,if_true];trivial
    . simp only[e,if_false];exact h
   |Lm r p i j k=>
    rw[Vu];by_cases e:r=x
    . simp only[e,if_true];trivial
    . simp only[e,if_false];exact h
   |vb s o us=>
    rw[ZR];split
    . trivial
    . exact h
   |cl f rs=>
    rw[Uc];split
    . exact h
    . trivial
   |cb f vs b ss=>
    rw[Ub];split
    . exact h
    . trivial
   |agg cs=>simp[DS]at c
   |BZ cs=>simp[DS]at c
   |own=>simp[DS]at c
   |_=>simp only[Dv];trivial
 |own=>rw[Rj];exact .own _ _ _ _
 |agg cs _ ih=>
  rw[Ob];cases c with
  |agg _ c=>refine .agg _ λi l hd=> ?_;simp only[List.getElem?_map,Option.map_eq_some_iff]at hd;obtain⟨e,g,rfl⟩:=hd;exact ih i e g (c i e g)
 |BZ cs _ ih=>
  rw[Oc];cases c with
  |BZ _ c=>refine .BZ _ λi l hd=> ?_;simp only[List.getElem?_map,Option.map_eq_some_iff]at hd;obtain⟨e,g,rfl⟩:=hd;exact ih i e g (c i e g)
variable{G:Gi}{δ:ji}{Fr:iy}
theorem St.oB(h:St G w S δ Fr)(d s:Nat):(ID G d δ s).er=KY G d (λs=>(δ s).er) s:=by
 unfold ID KY;split
 . exact(Lv d (h.ok s)).1
 . rfl
theorem St.Vv(h:St G w S δ Fr)(d s:Nat):(ID G d δ s).A0=(δ s).A0:=by
 unfold ID;split
 . exact(Lv d (h.ok s)).2.1
 . rfl
theorem St.oC(h:St G w S δ Fr)(d s:Nat):Fj d (ID G d δ s).er=true:=by
 unfold ID;split
 . exact(Lv d (h.ok s)).2.2.2
 . rename_i hn;exact rin_nroot (h.rt s) λa=>hn (Gi.xI a)
theorem St.killδ_ok(h:St G w S δ Fr)(d s:Nat):Ok w S (ID G d δ s) (Fr s):=by
 unfold ID;split
 . exact(Lv d (h.ok s)).2.2.1
 . exact h.ok s
theorem St.oE(h:St G w S δ Fr)(d s:Nat):GL (G.HA s) (ID G d δ s).er=true:=by
 unfold ID;split
 . rw[(Lv d (h.ok s)).1];exact killr_rin (h.rt s)
 . exact h.rt s
theorem St.killδ_al(h:St G w S δ Fr)(d s:Nat):Dr δ (ID G d δ s):=by
 unfold ID;split
 . exact(h.al s).kill d (h.ok s).Lh
 . exact h.al s
theorem killδ_own(d r:Nat)(p:i4)(a:Abs.Ax (δ r) p=some (.own v bx k rows)):Abs.Ax (ID G d δ r) p=some (.own v bx k rows):=by
 unfold ID;split
 . exact aX d p a
 . exact a
theorem nroot_rin{a:AV}:GL L a=true->Fj k a=true->GL (L.filter (· != k)) a=true:=by
 refine AV.rec (motive_1:=λa=>GL L a=true->Fj k a=true->GL (L.filter (· != k)) a=true) (motive_2:=λ_=>True) (motive_3:=λl=>RA L l=true->PR k l=true->RA (L.filter (· != k)) l=true)
  ?_ ?_ ?_ ?_ ?_ ?_ ?_ ?_ ?_ ?_ ?_ ?_ ?_ ?_ ?_ ?_ ?_ ?_ a
 all_goals intros
 all_goals first|trivial| (simp[GL];done)|skip
 all_goals first
  | (simp_all [GL,Fj];done)
  | (simp_all [RA,PR];done)
  | (rename_i b c;simp only[GL,Fj,List.all_eq_true,List.contains_iff_mem,List.mem_filter]at b c |-;exactλx e=>⟨b x e,c x e⟩)
  | (rename_i f b c;simp only[GL,Fj]at b c |-;exact f b c)
theorem St.set(h:St G w S δ Fr)(d:Nat)(e:DV)(Fn:iu)(D:∀b,S b->w'.heap[b]? =w.heap[b]?)(B:∀s,s≠d->∀x,Fr s x->w'.heap[x]? =w.heap[x]?)(y:∀b,S b->S' b)(z:∀s,s≠d->∀x,Fr s x->¬S' x)(hn:Ok w' S' e Fn)(m:∀s,s≠d->∀x,Fn x->¬Fr s x)(q:GL (G.HA d) e.er=true)(u:Dr δ e):
 St G w' S' (Dn (ID G d δ) d e) (Dn Fr d Fn):=by
 have n:∀(L:jh),d∉L->∀r∈L,∀p v bx k rows,Abs.Ax (δ r) p=some (.own v bx k rows)->∃c,Abs.Ax (Dn (ID G d δ) d e r) p=some (.own v bx k c):=by intro L j r l p v bx k rows C;refine⟨rows,?_⟩;rw[Br _ _ (by rintro rfl;exact j l)];exact killδ_own d r p C
 have o:∀(L:jh),d∉L->∀r∈L,(Dn (ID G d δ) d e r).A0=(δ r).A0:=by intro L j r l;rw[Br _ _ (by rintro rfl;exact j l)];exact h.Vv d r
 refine⟨?_,?_,?_,?_,h.self⟩
 . intro s;by_cases a:s=d
   . subst a;rw[BW,BW];exact hn
   . rw[Br _ _ a,Br _ _ a];exact(h.killδ_ok d s).mono D (B s a) y (z s a)
 . intro s t x f g;by_cases a:s=d<;>by_cases i:t=d
   . omega
   . subst a;rw[BW]at f;rw[Br _ _ i]at g;exact absurd g (m t i x f)
   . subst i;rw[BW]at g;rw[Br _ _ a]at f;exact absurd f (m s a x g)
   . rw[Br _ _ a]at f;rw[Br _ _ i]at g;exact h.NK s t x f g
 . intro s;by_cases a:s=d
   . subst a;rw[BW];exact u.mono q (n _ (h.self s)) (o _ (h.self s))
   . rw[Br _ _ a];refine(h.killδ_al d s).mono (nroot_rin (h.oE d s) (h.oC d s)) (n _ ?_) (o _ ?_)
     . simp
     . simp
 . intro s;by_cases a:s=d
   . subst a;rw[BW];exact q
   . rw[Br _ _ a];exact h.oE d s
theorem St.poke(h:St G w S δ Fr)(d:Nat)(e:DV)(Fn:iu)(C:∀b,S b->w'.heap[b]? =w.heap[b]?)(B:∀s,s≠d->∀x,Fr s x->w'.heap[x]? =w.heap[x]?)(hn:Ok w' S e Fn)(l:∀s,s≠d->∀x,Fn x->¬Fr s x)(o:GL (G.HA d) e.er=true)(y:Dr δ e)(z:∀p v bx k rows,Abs.Ax (δ d) p=some (.own v bx k rows)->∃c,Abs.Ax e p=some (.own v bx k c))(u:e.A0=(δ d).A0):
 St G w' S (Dn δ d e) (Dn Fr d Fn):=by
 have m:∀(L:jh),∀r∈L,∀p v bx k rows,Abs.Ax (δ r) p=some (.own v bx k rows)->∃c,Abs.Ax (Dn δ d e r) p=some (.own v bx k c):=by
  intro L r _ p v bx k rows q;by_cases i:r=d
  . subst i;rw[BW];exact z p v bx k rows q
  . rw[Br _ _ i];exact⟨rows,q⟩
 have n:∀(L:jh),∀r∈L,(Dn δ d e r).A0=(δ r).A0:=by
  intro L r _;by_cases i:r=d
  . subst i;rw[BW];exact u
  . rw[Br _ _ i]
 refine⟨?_,?_,?_,?_,h.self⟩
 . intro s;by_cases a:s=d
   . subst a;rw[BW,BW];exact hn
   . rw[Br _ _ a,Br _ _ a];exact(h.ok s).mono C (B s a) (λ_ h=>h) (h.ok s).FQ
 . intro s t x f g;by_cases a:s=d<;>by_cases j:t=d
   . omega
   . subst a;rw[BW]at f;rw[Br _ _ j]at g;exact absurd g (l t j x f)
   . subst j;rw[BW]at g;rw[Br _ _ a]at f;exact absurd f (l s a x g)
   . rw[Br _ _ a]at f;rw[Br _ _ j]at g;exact h.NK s t x f g
 . intro s;by_cases a:s=d
   . subst a;rw[BW];exact y.mono o (m _) (n _)
   . rw[Br _ _ a];exact(h.al s).mono (h.rt s) (m _) (n _)
 . intro s;by_cases a:s=d
   . subst a;rw[BW];exact o
   . rw[Br _ _ a];exact h.rt s
def St.world(h:St G w S δ Fr)(e:∀b,S b->w'.heap[b]? =w.heap[b]?)(d:∀s x,Fr s x->w'.heap[x]? =w.heap[x]?)(a:∀b,S b->S' b)(c:∀s x,Fr s x->¬S' x):St G w' S' δ Fr:=
 ⟨λs=>(h.ok s).mono e (d s) a (c s),h.NK,h.al,h.rt,h.self⟩
end
inductive Ar where
 |t (s:Nat)
 |c (a:AV)
 deriving Inhabited
abbrev j7:=List Ar
abbrev mr:=List (Nat×Nat×Ar)
abbrev nr:=List (Nat×Ar)
inductive bH where
 |cp (x:Ar)
 |mv (x:Ar)
 |fz (x:Ar)
 |pick (c a b:Ar)
 |bx (n:Nat) (x:Ar)
 |TK (z:List AV) (ps:List (Nat×Nat×Ar))
 |OR (k:Nat) (z:List (List AV)) (ps:List (Nat×Ar))
 |ld (agg:Bool) (n:Nat) (a:Ar)
 |st (n:Nat) (a v:Ar)
 |Wc (off:Nat) (x:Ar)
 |fld (agg:Bool) (off n:Nat) (x:Ar)
 |ZG (k:Nat) (x i:Ar)
 |aad (len k:Nat) (x i:Ar)
 |idx (agg:Bool) (len k:Nat) (x i:Ar)
 |bin (op:BinOp) (x y:Ar)
 |beq (neg:Bool) (x y:Ar)
 |un (op:UnOp) (x:Ar)
 |cvt (k:IntKind) (x:Ar)
 |mm (mx:Bool) (x y:Ar)
 |len (x:Ar)
 |dM (x:Ar)
 |pX (x i:Ar)
 |pW (neg:Bool) (kd:List Nat) (x y:Ar)
 |app (k bytes:Nat) (x y:Ar)
 |slc (k:Nat) (fr:Bool) (x:Ar) (lo hi mx:ABu Ar)
 |ext (x:Ar) (i:Nat)
 |mk (k bytes:Nat) (z:List AV) (l c:Ar)
 |I6 (x:Ar)
 |mkf (f:Nat) (xs:List Ar)
 |ZX (a:Ar)
 |fl
 |flk (x:Ar) (k:Nat)
 |nW (r off kb k:Nat) (i:Ar)
 |YM (a v:Ar)
 |std (a:Ar)
 |call (f:Nat) (args:List Ar) (m:Nat)
 |Vx (f:Nat) (pre:List Ar) (x:Ar) (c:ABu Nat) (post:List Ar)
 |bad
 deriving Inhabited
structure D3 where
 d:Nat
 kl:List Nat
 rs:List Nat
 deriving Inhabited
structure BD where
 dst:ABu D3
 op:bH
 guard:ABu (Nat×Bool)
 deriving Inhabited
abbrev jG:=List BD
structure Apd where
 s:Nat
 e:Nat
 ap:Nat
 i7:Nat
 i8:Nat
 i9:Nat
 i11:Nat
 i12:Nat
 deriving Inhabited
inductive mC where
 |o (o:BD)
 |bxv (d:D3) (n:Nat) (s:Nat)
 |clo (d:ABu D3) (f:Nat) (x:Ar) (args:List Ar) (g:ABu (Nat×Bool))
 |jU (d:D3) (neg:Bool) (x:Ar)
 |lb (d:ABu D3) (f:Nat) (x:Ar) (Uj:List Ar) (y:Ar)
 |gld (d:D3) (g n:Nat)
 |clv (d:ABu D3) (x:Ar) (args:List Ar)
 deriving Inhabited
abbrev np:=List mC
structure Flo where
 r:Nat
 off:Nat
 kb:Nat
 i0:Nat
 i1:Nat
 i2:Nat
 d0:Nat
 d1:Nat
 deriving Inhabited
inductive Tr where
 |leaf
 |one (i:Nat) (t:Tr)
 |fork (f m:Nat) (a b:Tr)
inductive IC where
 |skip
 |bad
 |fR (ops:List mC)
 |gz (c:Bool) (r:Nat) (p:List Step) (a:IC)
 |pg (c:Bool) (r:Nat) (p:List Step) (a:IC)
 |apd (f:Apd) (ops:List BD)
 |dH (ops:List BD)
 |drw (t:Tr) (ops:List BD)
 |flo (f:Flo) (a b:List BD)
 |jB (fs:List (Nat×Nat×Nat×Nat)) (ops:List BD)
 |seq (a b:IC)
 |cond (c:Ar) (a b:IC)
 |block (id:Nat) (a:IC)
 |loop (a:IC)
 |exit (id:Nat)
 |ret
 deriving Inhabited
def ar(h:Sg):Ar->AV
 | .t s=>h s
 | .c a=>a
def IM:AV->Bool
 | .sc _| .sl .. =>true
 |_=>false
def KN:AV->AV
 | .sc u=>.sc u
 | .sl x k rows=>.sl x k rows
 |_=>.dead
def GN:AV->Bool
 | .sc _| .sl .. | .own .. =>true
 |_=>false
mutual
def view(r:Nat):List Step->AV->AV
 |p,.own _ _ _=>.al r p
 |p,.agg cs=>.agg (RL r p 0 cs)
 |p,.BZ cs=>.BZ (RL r p 0 cs)
 |_,a=>a
def RL(r:Nat)(p:i4):Nat->List AV->List AV
 |_,[]=>[]
 |i,c::cs=>view r (p++[(0,i,0)]) c::RL r p (i+1) cs
end
def vC(r:Nat)(p:i4)(i j k:Nat):AV->AV
 | .own _ _ _=>.al r (p++[(i,j,k)])
 | .sc v=>.sc v
 | .sl x k' rows=>.sl x k' rows
 |_=>.dead
def vF(s j:Nat):AV->AV
 | .own _ _ _=>.al s [(0,j,0)]
 | .agg _=>.dead
 | .BZ _=>.dead
 |a=>a
def RK(r:Nat)(p:i4)(i k:Nat):Nat->List AV->List AV
 |_,[]=>[]
 |j,c::cs=>vC r p i j k c::RK r p i k (j+1) cs
def Nv(s:Nat):Nat->List AV->List AV
 |_,[]=>[]
 |j,c::cs=>vF s j c::Nv s (j+1) cs
def Jl(kl:jh)(d:Nat)(h:Sg):Sg:=match kl with
 |[]=>h
 |_=>λs=>if s∈kl then Dv d (h s)else h s
def wr(d:D3)(v:AV)(h:Sg):Option Sg:=if GL d.rs v=true then some (Dn (Jl d.kl d.d h) d.d v)else none
def dN(G:Gi)(r:Nat)(p:i4)(h:Sg):Option (AV×Sg):=
 match sub (h r) p with
 |some (.own b k rows)=>match put (h r) p .dead with
  |some t=>some (.own b k rows,Dn (GJ G p.length r h) r t)
  |none=>none
 |_=>none
def qQ(G:Gi):List AV->Sg->Option (List AV×Sg)
 |[],h=>some ([],h)
 |a::cs,h=>match a with
  | .al r p=>match dN G r p h with
   |some (n,τ)=>match qQ G cs τ with
    |some (l,τ')=>some (n::l,τ')
    |none=>none
   |none=>none
  |a=>if GN a=true then
   match qQ G cs h with
   |some (l,τ)=>some (a::l,τ)
   |none=>none
   else none
def tk(G:Gi)(x:Ar)(h:Sg):Option (AV×Sg):=
 match x with
 | .c a=>some (a,h)
 | .t s=>match h s with
  | .al r p=>dN G r p h
  | .own b k rows=>some (.own b k rows,Dn (KY G s h) s .dead)
  | .agg cs=>if cs.all IM=true then some (.agg cs,h)else
   match qQ G cs (Dn (KY G s h) s .dead)with
   |some (l,τ)=>some (.agg l,τ)
   |none=>none
  | .sc v=>some (.sc v,h)
  | .sl e k rows=>some (.sl e k rows,h)
  | .Lm r p i j k=>some (.Lm r p i j k,h)
  | .fp cs=>some (.fp cs,h)
  |_=>none
def cellsOf:AV->List AV
 | .agg cs=>cs
 |a=>[a]
def hd(h:Sg)(x:Ar):Option (AV×Option (Nat×List Step)):=
 match x with
 | .c a=>match a with
  | .own b k rows=>some (.own b k rows,none)
  |_=>none
 | .t s=>match h s with
  | .al r p=>match sub (h r) p with
   |some n=>some (n,some (r,p))
   |none=>none
  | .own b k rows=>some (.own b k rows,some (s,[]))
  | .sl e k rows=>some (.sl e k rows,none)
  |_=>none
def SA(G:Gi)(r:Nat)(p:i4)(h:Sg):Option (AV×Sg):=
 match sub (h r) p with
 |some (.own b k rows)=>match put (h r) p (KI (.own b k rows))with
  |some t=>some (KI (.own b k rows),Dn (KY G r h) r t)
  |none=>none
 |_=>none
def rL:AV->Option Int
 | .sc (.int _ n)=>some n
 |_=>none
def ER(h:Sg)(x:Ar):Option (Nat×List Step×Nat×Nat×Nat):=
 match x with
 | .c _=>none
 | .t s=>match h s with
  | .Lm r p i j k=>some (r,p,i,j,k)
  | .own true k _=>some (s,[],0,0,k)
  | .al r p=>match sub (h r) p with
   |some (.own true k _)=>some (r,p,0,0,k)
   |_=>none
  |_=>none
def binI(op:BinOp)(k:IntKind)(x y:Int):Option Value:=
 match op with
 | .add=>some (.int k (k.wrap (x+y)))
 | .sub=>some (.int k (k.wrap (x-y)))
 | .mul=>some (.int k (k.wrap (x*y)))
 | .quo=>if y=0 then none else some (.int k (k.wrap (x.tdiv y)))
 | .rem=>if y=0 then none else some (.int k (x.tmod y))
 | .eql=>some (.bool (x==y))
 | .neq=>some (.bool (x != y))
 | .lss=>some (.bool (x<y))
 | .leq=>some (.bool (x<=y))
 | .gtr=>some (.bool (x>y))
 | .geq=>some (.bool (x>=y))
 |_=>none
def binF(op:BinOp):AV->AV->Option AV
 | .sc (.int k x),.sc (.int k' y)=>if k=k' then(binI op k x y).map .sc else none
 | .sc (.string x),.sc (.string y)=>match op with
  | .eql=>some (.sc (.bool (x.toList==y.toList)))
  | .neq=>some (.sc (.bool (!(x.toList==y.toList))))
  |_=>none
 |_,_=>none
def unF(op:UnOp):AV->Option AV
 | .sc (.bool x)=>match op with
  | .not=>some (.sc (.bool (!x)))
  |_=>none
 | .sc (.int k x)=>match op with
  | .neg=>some (.sc (.int k (k.wrap (0-x))))
  |_=>none
 |_=>none
def I0(agg:Bool)(n:Nat)(cs:i5):Option AV:=
 if cs.length=n then(if agg=true then some (.agg cs)else match cs with|[c]=>some c|_=>none)else none
def UH(rows:i6)(lo hi:Nat):Option (List (List AV)):=
 if lo<=hi/\hi<=rows.length then some ((rows.drop lo).take (hi-lo))else none
def Og(h:Sg)(x:Option Ar)(d:Nat):Option Nat:=
 match x with
 |none=>some d
 |some a=>match rL (ar h a)with
  |some n=>if 0<=n then some n.toNat else none
  |none=>none
def mxI(V:Sg)(mx:Option Ar)(h:Nat):Option Nat:=
 match mx with
 |none=>some h
 |some a=>Og V (some a) 0
def zZ:Nat->Value->Value->Option Bool
 |0,.bool a,.bool b=>some (a==b)
 |1,.int k n,.int k' m=>if k=k' then some (n==m)else none
 |2,.string a,.string b=>some (a.toList==b.toList)
 |_,_,_=>none
def Rf:List Nat->List AV->List AV->Option Bool
 |[],[],[]=>some true
 |kd::ks,.sc u::xs,.sc v::ys=>match zZ kd u v,Rf ks xs ys with
  |some a,some b=>some (a&&b)
  |_,_=>none
 |_,_,_=>none
def XL(h:Sg):List Ar->Option (List (Nat×List Step))
 |[]=>some []
 |x::r=>match x with
  | .t s=>(match h s,XL h r with
   | .own true _ _,some l=>some ((s,[])::l)
   | .al q p,some l=>(match sub (h q) p with
    |some (.own true _ _)=>some ((q,p)::l)
    |_=>none)
   |_,_=>none)
  | .c _=>none
def iD(h:Sg):List Ar->Option (List (List AV))
 |[]=>some []
 |x::r=>match ar h x,iD h r with
  | .fp cs,some l=>some (cs::l)
  |_,_=>none
def valOf(o:bH)(h:Sg):Option AV:=
 match o with
 | .cp x=>match x with
  | .t s=>some (view s [] (h s))
  | .c a=>some a
 | .pick c a b=>match ar h c with
  | .sc (.bool x)=>match ar h (if x=true then a else b)with
   | .sc v=>some (.sc v)
   |_=>none
  |_=>none
 | .ld agg n a=>match a with
  | .c _=>none
  | .t s=>match h s with
   | .fp cs=>I0 agg n ((cs.take n).map KN)
   | .vb q o _=>match h q with
    | .agg cs=>I0 agg n (Nv q o ((cs.drop o).take n))
    |_=>none
   | .cb f vs b _=>if agg=false/\n=1 then some (.sc (.func (.func f) #[] (vs++[Value.pointer (some ⟨b,0,none⟩)]).toArray))else none
   |_=>match ER h (.t s)with
    |some (r,p,i,j,k)=>match sub (h r) p with
     |some (.own _ _ rows)=>match rows[i]? with
      |some row=>I0 agg n (RK r p i k j ((row.drop j).take n))
      |none=>none
     |_=>none
    |none=>none
 | .Wc off x=>match x with
  | .c _=>none
  | .t s=>match h s with
   | .fp cs=>some (.fp (cs.drop off))
   | .vb q o us=>some (.vb q (o+off) us)
   |_=>match ER h (.t s)with
    |some (r,p,i,j,k)=>some (.Lm r p i (j+off) k)
    |none=>none
 | .fld agg off n x=>match x with
  | .c _=>none
  | .t s=>match h s with
   | .agg cs=>I0 agg n (Nv s off ((cs.drop off).take n))
   |_=>none
 | .ZG k x i=>match hd h x,rL (ar h i)with
  |some (.own false k' rows,some (r,p)),some n=>if k'=k/\0<=n/\n<rows.length then some (.Lm r p n.toNat 0 k)else none
  |some (.sl _ k' rows,_),some n=>if k'=k/\0<=n then(rows[n.toNat]?).map .fp else none
  |_,_=>none
 | .aad len k x i=>match x,rL (ar h i)with
  | .t s,some n=>if 0<=n/\n<len then
   match h s with
   | .fp cs=>some (.fp (cs.drop (n.toNat*k)))
   |_=>match ER h (.t s)with
    |some (r,p,i,j,k')=>some (.Lm r p i (j+n.toNat*k) k')
    |none=>none
   else none
  |_,_=>none
 | .idx agg len k x i=>match x,rL (ar h i)with
  | .t s,some n=>if 0<=n/\n<len then
   match h s with
   | .agg cs=>I0 agg k (Nv s (n.toNat*k) ((cs.drop (n.toNat*k)).take k))
   |_=>none
   else none
  |_,_=>none
 | .bin op x y=>binF op (ar h x) (ar h y)
 | .beq neg x y=>match ar h x,ar h y with
  | .sc (.bool a),.sc (.bool b)=>some (.sc (.bool (if neg=true then !(a==b)else(a==b))))
  |_,_=>none
 | .un op x=>unF op (ar h x)
 | .cvt k x=>match ar h x with
  | .sc (.int _ n)=>some (.sc (.int k (k.wrap n)))
  |_=>none
 | .mm mx x y=>match ar h x,ar h y with
  | .sc (.int k n),.sc (.int k' m)=>if k=k' then some (.sc (.int k (if mx=true then(if m>n then m else n)else(if m<n then m else n))))else none
  |_,_=>none
 | .len x=>match hd h x with
  |some (.own false _ rows,_)=>some (.sc (.int .i64 rows.length))
  |some (.sl _ _ rows,_)=>some (.sc (.int .i64 rows.length))
  |_=>none
 | .dM x=>match ar h x with
  | .sc (.string s)=>some (.sc (.int .i64 s.size))
  |_=>none
 | .pX x i=>match ar h x,rL (ar h i)with
  | .sc (.string s),some n=>if 0<=n then(s[n.toNat]?).map λb=>.sc (.int .u8 b.toNat)else none
  |_,_=>none
 | .pW neg kd x y=>match ar h x,ar h y with
  | .agg xs,.agg ys=>(Rf kd xs ys).map λb=>.sc (.bool (if neg=true then !b else b))
  |_,_=>none
 | .ext x i=>match x with
  | .t s=>match h s with
   | .BZ cs=>match cs[i]? with
    |some c=>some (view s [(0,i,0)] c)
    |none=>none
   |_=>none
  |_=>none
 | .I6 x=>match ar h x with
  | .Lm r p i j k=>some (.Lm r p i j k)
  | .fp cs=>some (.fp cs)
  | .al r p=>match sub (h r) p with
   |some (.own true _ _)=>some (.al r p)
   |_=>none
  | .own true _ _=>match x with
   | .t s=>some (.al s [])
   |_=>none
  |_=>none
 | .mkf f xs=>match XL h xs with
  |some rs=>some (.cl f rs)
  |none=>(iD h xs).map (.YA f)
 | .fl=>some .dead
 | .flk x k=>match x with
  | .t s=>match h s with
   | .BZ cs=>if k<cs.length then some .dead else none
   |_=>none
  |_=>none
 | .nW r off kb k i=>match h r,rL (ar h i)with
  | .own true kb' [row],some n=>match row[off]? with
   |some (.own false k' rows)=>if kb'=kb/\k'=k/\0<=n/\n<rows.length then some (.Lm r [(0,off,kb)] n.toNat 0 k)else none
   |_=>none
  |_,_=>none
 | .ZX a=>match ER h a with
  |some (r,p,i,j,k)=>match sub (h r) p with
   |some (.own _ _ rows)=>match rows[i]? with
    |some row=>match row[j]? with
     |some (.own _ _ _)=>some (.al r (p++[(i,j,k)]))
     |_=>none
    |none=>none
   |_=>none
  |none=>none
 |_=>none
def kU(cs:i5)(off:Nat)(xs:i5):List AV:=cs.take off++xs++cs.drop (off+xs.length)
def XJ(G:Gi):List (Nat×Nat×Ar)->List AV->Sg->Option (List AV×Sg)
 |[],cs,h=>some (cs,h)
 | (off,n,x)::ps,cs,h=>match tk G x h with
  |some (a,τ)=>if(cellsOf a).length=n/\off+n<=cs.length/\(cellsOf a).all GN=true then XJ G ps (kU cs off (cellsOf a)) τ else none
  |none=>none
def XK(G:Gi)(k:Nat):List (Nat×Ar)->List (List AV)->Sg->Option (List (List AV)×Sg)
 |[],rows,h=>some (rows,h)
 | (i,x)::ps,rows,h=>match tk G x h with
  |some (a,τ)=>if(cellsOf a).length=k/\i<rows.length/\(cellsOf a).all GN=true then XK G k ps (rows.set i (cellsOf a)) τ else none
  |none=>none
def stC(p:i4)(i k:Nat):Nat->List AV->AV->Option AV
 |_,[],t=>some t
 |j,c::cs,t=>match put t (p++[(i,j,k)]) c with
  |some t'=>stC p i k (j+1) cs t'
  |none=>none
def Am(n bytes:Nat):Bool:=n*bytes<=70368744177664
def Yd(G:Gi)(k:Nat)(y:Ar)(h:Sg):Option (List (List AV)×Sg):=
 match y with
 | .t s=>match h s with
  | .own false k' rows=>if k'=k/\rows.all (·.all GN)=true then some (rows,Dn (KY G s h) s .dead)else none
  | .sl _ k' rows=>if k'=k/\rows.all (·.all IM)=true then some (rows,h)else none
  | .al r p=>match SA G r p h with
   |some (.sl _ k' rows,τ)=>if k'=k/\rows.all (·.all IM)=true then some (rows,τ)else none
   |_=>none
  |_=>none
 | .c a=>match a with
  | .own false _ []=>some ([],h)
  |_=>none
def XH(G:Gi)(k:Nat)(x:Ar)(τ:Sg):Option (AV×Sg):=
 match x with
 | .t s=>match τ s with
  | .sl true k' rows=>if k'=k/\rows.all (·.all IM)=true then some (.sl true k' rows,τ)else none
  | .own false k' rows=>if k'=k then some (.own false k' rows,Dn (KY G s τ) s .dead)else none
  | .al r p=>match dN G r p τ with
   |some (.own false k' rows,τ')=>if k'=k then some (.own false k' rows,τ')else none
   |_=>none
  |_=>none
 | .c a=>match a with
  | .own false _ []=>some (.own false k [],τ)
  |_=>none
def G8(G:Gi)(o:bH)(d:Option D3)(V:Sg):Option Sg:=
 match o,d with
 | .mv x,some d=>match tk G x V with
  |some (v,τ)=>wr d v τ
  |none=>none
 | .fz x,some d=>match x with
  | .t s=>match V s with
   | .al r p=>match SA G r p V with
    |some (v,τ)=>wr d v τ
    |none=>none
   | .own _ _ _=>match SA G s [] V with
    |some (v,τ)=>wr d v τ
    |none=>none
   | .sc v=>wr d (.sc v) V
   | .sl e k rows=>wr d (.sl e k rows) V
   |_=>none
  | .c _=>none
 | .bx n x,some d=>match tk G x V with
  |some (v,τ)=>if(cellsOf v).length=n/\(cellsOf v).all GN=true then wr d (.own true n [cellsOf v]) τ else none
  |none=>none
 | .TK z ps,some d=>match XJ G ps z V with
  |some (cs,τ)=>wr d (.agg cs) τ
  |none=>none
 | .OR k z ps,some d=>match XK G k ps z V with
  |some (rows,τ)=>wr d (.own false k rows) τ
  |none=>none
 | .mk k bytes z l c,some d=>match rL (ar V l),rL (ar V c)with
  |some l,some c=>if 0<=l/\l<=c/\Am c.toNat bytes=true then wr d (.own false k (List.replicate l.toNat z)) V else none
  |_,_=>none
 | .slc k fr x lo hi mx,some d=>match hd V x with
  |some (.sl _ k' rows,_)=>match Og V lo 0,Og V hi rows.length with
   |some l,some h=>match UH rows l h,mxI V mx h with
    |some rs,some m=>if k'=k/\m=h then wr d (.sl mx.isSome k rs) V else none
    |_,_=>none
   |_,_=>none
  |some (.own false k' rows,some (r,p))=>match Og V lo 0,Og V hi rows.length with
   |some l,some h=>match UH rows l h,mxI V mx h with
    |some rs,some m=>if k'=k/\m=h then
     (if fr=true then
      match SA G r p V with
      |some (_,τ)=>wr d (.sl mx.isSome k (rs.map (·.map KI))) τ
      |none=>none
     else if l=0/\mx.isNone=true then
      match dN G r p V with
      |some (_,τ)=>wr d (.own false k rs) τ
      |none=>none
     else none)
     else none
    |_,_=>none
   |_,_=>none
  |_=>none
 | .app k bytes x y,some d=>match Yd G k y V with
  |some (ys,τ)=>match XH G k x τ with
   |some (.own _ _ rows,τ')=>if Am (rows.length+ys.length) bytes=true then wr d (.own false k (rows++ys)) τ' else none
   |some (.sl _ _ rows,τ')=>if ys.isEmpty=true then wr d (.sl false k rows) τ'
    else if Am (rows.length+ys.length) bytes=true then wr d (.own false k (rows++ys)) τ' else none
   |_=>none
  |none=>none
 | .st n a v,none=>match tk G v V with
  |some (x,τ)=>match ER τ a with
   |some (r,p,i,j,k)=>match sub (τ r) p with
    |some (.own _ _ rows)=>match rows[i]? with
     |some row=>
      if(cellsOf x).length=n/\(cellsOf x).all GN=true/\j+n<=row.length then
       match stC p i k j (cellsOf x) (τ r)with
       |some t=>if((row.drop j).take n).all DS=true then some (Dn τ r t)else some (Dn (KY G r τ) r t)
       |none=>none
      else none
     |none=>none
    |_=>none
   |none=>none
  |none=>none
 | .YM a v,none=>match ar V v with
  | .sc u=>match ER V a with
   |some (r,p,i,j,k)=>match sub (V r) p with
    |some (.own _ _ rows)=>match rows[i]? with
     |some row=>match row[j]? with
      |some (.sc _)=>match put (V r) (p++[(i,j,k)]) (.sc u)with
       |some t=>some (Dn V r t)
       |none=>none
      |_=>none
     |none=>none
    |_=>none
   |none=>none
  |_=>none
 | .std a,none=>match ER V a with
  |some (r,p,i,j,_)=>match sub (V r) (p++[(i,j,0)])with
   |some .dead=>some V
   |_=>none
  |none=>none
 |o,some d=>match valOf o V with
  |some v=>wr d v V
  |none=>none
 |_,none=>none
variable{y:Ar}{σ':Sg}
theorem lda_ld{v:AV}(h:valOf (.ZX y) σ'=some v):valOf (.ld false 1 y) σ'=some v:=by
 simp only[valOf]at h |-;split at h
 . rename_i r p i j k d;split at h
   . rename_i b x rows n;split at h
     . rename_i row m;split at h
       . rename_i f w e g;obtain rfl:=Option.some.inj h;have hd:(row.drop j).take 1=[.own f w e]:=(by obtain⟨l,u⟩:=List.getElem?_eq_some_iff.1 g;rw[List.drop_eq_getElem_cons l,u];rfl);cases y with
         |c=>simp[ER]at d
         |t s=>
          simp only;cases hσ:σ' s with
          |fp cs=>simp[ER,hσ]at d
          |vb q o us=>simp[ER,hσ]at d
          |cb=>simp[ER,hσ]at d
          |_=>simp only[d,n,m,hd];rfl
       . cases h
     . cases h
   . cases h
 . cases h
variable{G:Gi}{τ:Sg}
theorem sts_st{v:Ar}(h:G8 G (.YM y v) none σ'=some τ):G8 G (.st 1 y v) none σ'=some τ:=by
 simp only[G8]at h |-;split at h
 . rename_i u d;have e:tk G v σ'=some (.sc u,σ'):=by
    cases v with
    |c c=>simp only[ar]at d;subst d;rfl
    |t s=>simp only[ar]at d;simp[tk,d]
   rw[e];simp only;split at h
   . rename_i r p i j k f
     try simp only[f]
     split at h
     . rename_i b x rows n
       try simp only[n]
       split at h
       . rename_i row m
         try simp only[m]
         split at h
         . rename_i w g;obtain⟨l,q⟩:=List.getElem?_eq_some_iff.1 g;have hd:(row.drop j).take 1=[.sc w]:=(by rw[List.drop_eq_getElem_cons l,q];rfl);split at h
           . rename_i t o;obtain rfl:=Option.some.inj h;rw[if_pos ⟨by simp[cellsOf],by simp[cellsOf,GN],ah⟩];simp[cellsOf,stC,o,hd,DS]
           . cases h
         . cases h
       . cases h
     . cases h
   . cases h
 . cases h
def jQ(kb off:Nat):AV->Bool
 | .own true k [row]=>k==kb&&decide (off<row.length)
 |_=>false
structure Ext (w w':World) (F:Nat->Prop):Prop where
 os:w'.os=w.os
 tape:w'.tape=w.tape
 output:w'.output=w.output
 size:w.heap.size<=w'.heap.size
 block:∀b,b<w.heap.size->¬F b->w'.heap[b]? =w.heap[b]?
def Mw:List ABv:=[⟨#[118,97,114]⟩,⟨#[118,111,108,97,116,105,108,101]⟩,⟨#[109,117,116,101,120]⟩,⟨#[114,119,108,111,99,107]⟩,⟨#[99,111,110,100]⟩,⟨#[102,117,116,117,114,101]⟩,⟨#[116,104,114,101,97,100]⟩,⟨#[105,102]⟩,⟨#[101,108,115,101]⟩,⟨#[119,104,105,108,101]⟩,⟨#[108,111,99,107]⟩,⟨#[114,101,97,100]⟩,⟨#[119,114,105,116,101]⟩,⟨#[116,114,97,110,115,97,99,116,105,111,110]⟩,⟨#[97,116,111,109,105,99]⟩,⟨#[119,97,105,116]⟩,⟨#[110,111,116,105,102,121]⟩,⟨#[110,111,116,105,102,121,97,108,108]⟩,⟨#[115,112,97,119,110]⟩,⟨#[106,111,105,110]⟩,⟨#[115,101,116]⟩,⟨#[103,101,116]⟩]
def Gam:List (Nat×List Value):=[(0,Mw.map Value.string)]
def GI(w:ja)(S:iu):Prop:=∀x∈Gam,S x.1/\∃arr E fz,w.heap[x.1]? =some (.cells arr E fz)/\∀(j:Nat) v,x.2[j]? =some v->arr[j]? =some v
def BB(P:iz)(f:Nat)(args:i5)(res:AV)(outs:i5):Prop:=
 ∀(w:ja)(S:iu)(ds:jl)(F:iu),GI w S->ds.map DV.er=args->Ok w S (.BZ ds) F->(∀b,S b->b<w.heap.size)->
  Calls P f (ds.map DV.A0).toArray w λe w'=>∃(r:DV)(os:jl)(S' F':iu),e= .returned r.A0/\r.er=res/\os.map DV.er=outs/\os.map DV.A0=ds.map DV.A0/\
   Ok w' S' (.BZ (r::os)) F'/\Ext w w' F/\(∀b,S b->S' b)/\(∀b,S' b->S b\/F b\/w.heap.size<=b)/\(∀b,S' b->b<w'.heap.size)/\(∀x,F' x->F x\/w.heap.size<=x)
def Says(P:iz)(f:Nat)(args:i5)(res:AV):Prop:=BB P f args res (args.map λ_=>.dead)
def Uz(h:Sg):AV->ABu AV
 | .al r p=>match sub (h r) p with
  |some (.own false k rows)=>some (KI (.own false k rows))
  |some (.own true _ [row])=>some (.fp (row.map KI))
  |_=>none
 | .own false k rows=>some (KI (.own false k rows))
 | .own true _ [row]=>some (.fp (row.map KI))
 | .fp cs=>some (.fp cs)
 | .sc v=>some (.sc v)
 | .sl _ k rows=>some (.sl false k rows)
 |_=>none
def rdL(h:Sg):List AV->ABu (List AV)
 |[]=>some []
 |a::r=>match Uz h a,rdL h r with
  |some x,some l=>some (x::l)
  |_,_=>none
def lP(h:Sg):AV->ABu AV
 | .agg cs=>match rdL h cs with
  |some l=>some (.agg l)
  |none=>none
 | .al r p=>Uz h (.al r p)
 | .own b k rows=>Uz h (.own b k rows)
 | .sc v=>Uz h (.sc v)
 | .sl e k rows=>Uz h (.sl e k rows)
 | .fp cs=>Uz h (.fp cs)
 | .YA f Mk=>some (.YA f Mk)
 |_=>none
def Js(h:Sg):List Ar->ABu (List AV)
 |[]=>some []
 |x::r=>match lP h (ar h x),Js h r with
  |some a,some l=>some (a::l)
  |_,_=>none
def fzl:AV->AV
 | .sl _ k rows=>.sl false k rows
 |a=>KI a
def fzn:AV->AV
 | .agg cs=>.agg (cs.map fzl)
 |a=>fzl a
def OJ(G:Gi):List Ar->Sg->ABu (List AV×Sg)
 |[],h=>some ([],h)
 |x::r,h=>match tk G x h with
  |some (a,τ)=>match OJ G r τ with
   |some (l,τ')=>some (fzn a::l,τ')
   |none=>none
  |none=>none
def S7(G:Gi):List Ar->Sg->ABu (List AV×Sg)
 |[],h=>some ([],h)
 |x::r,h=>match tk G x h with
  |some (a,τ)=>match S7 G r τ with
   |some (l,τ')=>some (a::l,τ')
   |none=>none
  |none=>none
def Yo(h:Sg):List (Nat×List Step)->ABu (List (List AV))
 |[]=>some []
 | (r,p)::l=>match Uz h (.al r p),Yo h l with
  |some (.fp cs),some Mk=>some (cs::Mk)
  |_,_=>none
def Xz(G:Gi):List Ar->Sg->ABu (List AV×Sg)
 |[],_=>none
 |x::r,h=>match r with
  |[]=>(match ar h x with
   | .cl f rs=>(match Yo h rs with
    |some Mk=>some ([.YA f Mk],h)
    |none=>none)
   |_=>none)
  |y::r=>match tk G x h with
   |some (a,τ)=>match Xz G (y::r) τ with
    |some (l,τ')=>some (a::l,τ')
    |none=>none
   |none=>none
def eQ:AV->Bool
 | .sc _=>true
 | .agg cs=>cs.all λ| .sc _=>true|_=>false
 | .BZ cs=>cs.all λ| .sc _=>true|_=>false
 |_=>false
mutual
def fresh:AV->Bool
 | .sc _=>true
 | .own _ _ rows=>TR rows
 | .agg cs=>QZ cs
 | .BZ cs=>QZ cs
 |_=>false
def QZ:List AV->Bool
 |[]=>true
 |a::r=>fresh a&&QZ r
def TR:List (List AV)->Bool
 |[]=>true
 |a::r=>QZ a&&TR r
end
def LN:AV->Bool
 | .sc _| .sl .. | .own .. =>true
 |_=>false
def clean:AV->Bool
 | .agg cs=>cs.all LN
 | .BZ cs=>cs.all λ
  | .agg l=>l.all LN
  |a=>LN a
 |a=>LN a
def Q9(m:Nat)(res:AV):Option AV:=
 match m with
 |0=>if eQ res=true then some res else none
 |1=>some (KI res)
 |2=>if fresh res=true then some res else none
 |3=>if clean res=true then some res else none
 |4=>if fresh res=true then some res else none
 |_=>none
def G6(G:Gi)(m:Nat)(args:j7)(h:Sg):Option (List AV×Sg):=
 match m with
 |1=>OJ G args h
 |3=>S7 G args h
 |4=>Xz G args h
 |_=>match Js h args with
  |some l=>some (l,h)
  |none=>none
def C2(dst:Option D3)(v:AV)(K:iv)(τ:Sg):Prop:=
 match dst with
 |some d=>(match wr d v τ with
  |some τ'=>K τ'
  |none=>False)
 |none=>K τ
def plc(h:Sg):Ar->Option (Nat×List Step)
 | .t s=>match h s with
  | .al r p=>some (r,p)
  | .own _ _ _=>some (s,[])
  |_=>none
 | .c _=>none
def Ix:AV->Bool
 | .own .. | .dead=>true
 |_=>false
def Tl:AV->AV
 | .sc v=>.sc v
 | .sl _ k rows=>.sl false k rows
 |_=>.dead
def rdF(h:Sg):Ar->Option AV
 | .t s=>match h s with
  | .agg cs=>some (.agg (cs.map Tl))
  |a=>some (Tl a)
 | .c a=>match a with
  | .sc v=>some (.sc v)
  | .own false k []=>some (.sl false k [])
  |_=>none
def OD(h:Sg):List Ar->Option (List AV)
 |[]=>some []
 |x::r=>match rdF h x,OD h r with
  |some a,some l=>some (a::l)
  |_,_=>none
def Qt(h:Sg)(x:Ar)(c:Option Nat):Option (Nat×List Step):=match c with
 |none=>plc h x
 |some j=>match x with
  | .t s=>match h s with
   | .agg cs=>match cs[j]? with
    |some (.al r p)=>some (r,p)
    |some (.own _ _ _)=>some (s,[(0,j,0)])
    |_=>none
   |_=>none
  | .c _=>none
def Uf(h:Sg)(x:Ar)(c:Option Nat)(n:AV):AV:=match c with
 |none=>n
 |some j=>match ar h x with
  | .agg cs=>.agg ((cs.map Tl).set j n)
  |_=>.dead
def QW(c:Option Nat)(out:AV):Option AV:=match c with
 |none=>some out
 |some j=>match out with
  | .agg cs=>cs[j]?
  |_=>none
def Tf(u:AV)(b:Bool)(k:Nat)(p:i4):Nat:=match u with
 | .own b' k' _=>if b'=b/\k'=k then p.length+1 else 0
 |_=>0
def EE(P:iz)(G:Gi)(o:BD)(K:iv)(h:Sg):Prop:=
 match o.op with
 | .call f args m=>match G6 G m args h with
  |some (aZ9,τ)=>∃res,Says P f aZ9 res/\(match Q9 m res with
   |some v=>C2 o.dst v K τ
   |none=>False)
  |none=>False
 | .Vx f pre x c post=>match Qt h x c,OD h pre,OD h post with
  |some (r,p),some aZ9,some bs=>(match sub (h r) p with
   |some (.own b k rows)=>∃res out u,BB P f (aZ9++Uf h x c (.own b k rows)::bs) res ((aZ9.map λ_=>.dead)++out::bs.map λ_=>.dead)/\QW c out=some u/\Ix u=true/\clean res=true/\(match put (h r) p u with
    |some t=>C2 o.dst res K (Dn (GJ G (Tf u b k p) r h) r t)
    |none=>False)
   |_=>False)
  |_,_,_=>False
 |op=>match G8 G op o.dst h with
  |some τ=>K τ
  |none=>False
def Jo(P:iz)(G:Gi)(o:BD)(K:iv)(h:Sg):Prop:=
 match o.guard with
 |none=>EE P G o K h
 |some (g,want)=>match h g with
  | .sc (.bool b)=>if b=want then EE P G o K h else
   (match o.dst with
   |some d=>K (Dn (Jl d.kl d.d h) d.d .un)
   |none=>K h)
  | .un=>(match o.dst with
   |some d=>K (Dn (Jl d.kl d.d h) d.d .un)
   |none=>K h)
  |_=>False
def O0(P:iz)(G:Gi):List BD->(Sg->Prop)->Sg->Prop
 |[],K,h=>K h
 |o::os,K,h=>Jo P G o (O0 P G os K) h
def rowsOf:AV->Option (List (List AV))
 | .own false _ rows=>some rows
 | .sl _ _ rows=>some rows
 |_=>none
def zJ(h:Sg):List (Nat×List Step)->Option (List AV)
 |[]=>some []
 | (r,p)::l=>match Uz h (.al r p),zJ h l with
  |some a,some aZ9=>some (a::aZ9)
  |_,_=>none
def cloA(h:Sg)(f:Nat)(x:Ar)(args:j7):Option (List AV):=match ar h x with
 | .cl f' rs=>if f'=f then(match Js h args,zJ h rs with
  |some aZ9,some bs=>some (aZ9++bs)
  |_,_=>none)else none
 | .YA f' Mk=>if f'=f then(match Js h args with
  |some aZ9=>some (aZ9++Mk.map .fp)
  |none=>none)else none
 |_=>none
def nJ(g n:Nat):Option (List Value):=match Gam.find? (λx=>x.1==g)with
 |some x=>if x.2.length=n/\x.2.all G4=true then some x.2 else none
 |none=>none
def aU(d:Option D3)(K:iv)(h:Sg):Prop:=match d with
 |some d=>K (Dn (Jl d.kl d.d h) d.d .un)
 |none=>K h
def gdP(g:Option (Nat×Bool))(A B:iv)(h:Sg):Prop:=match g with
 |none=>A h
 |some (g,want)=>match h g with
  | .sc (.bool b)=>if b=want then A h else B h
  | .un=>B h
  |_=>False
def sN(P:iz)(d:Option D3)(f:Nat)(x:Ar)(args:j7)(K:iv)(h:Sg):Prop:=match cloA h f x args with
 |some aZ9=>∃res,Says P f aZ9 res/\(match Q9 0 res with
  |some v=>C2 d v K h
  |none=>False)
 |none=>False
def lbQ(P:iz)(G:Gi)(d:Option D3)(f r r2:Nat)(p p2:i4)(v n:AV)(b:Bool)(k:Nat)(ms:i5)(K:iv)(τ:Sg):Prop:=
 r≠r2/\∃res out,BB P f (n::(ms++[v])) res (out::((ms.map λ_=>.dead)++[v]))/\Ix out=true/\clean res=true/\(match put (τ r) p out with
  |some t=>(match put (Dn (GJ G (Tf out b k p) r τ) r t r2) p2 v with
   |some t2=>C2 d res K (Dn (GJ G p2.length r2 (Dn (GJ G (Tf out b k p) r τ) r t)) r2 t2)
   |none=>False)
  |none=>False)
def lbP(P:iz)(G:Gi)(d:Option D3)(f:Nat)(x:Ar)(Uj:j7)(y:Ar)(K:iv)(h:Sg):Prop:=match plc h y with
 |some (r2,p2)=>(match dN G r2 p2 h with
  |some (v,τ)=>(match plc τ x,OD τ Uj with
   |some (r,p),some ms=>(match sub (τ r) p with
    |some (.own b k rows)=>lbQ P G d f r r2 p p2 v (.own b k rows) b k ms K τ
    |_=>False)
   |_,_=>False)
  |none=>False)
 |none=>False
def fnOK(P:iz)(f:Nat):Bool:=match P.funcs[f]? with
 |some fn=>fn.body.isSome&&fn.name != "runtime.NumGoroutine"
 |none=>false
def clvP(P:iz)(d:Option D3)(x:Ar)(args:j7)(K:iv)(h:Sg):Prop:=match ar h x,Js h args with
 | .sc (.func (.func f) a b),some aZ9=>a= #[]/\b= #[]/\fnOK P f=true/\∃res,Says P f aZ9 res/\(match Q9 0 res with
  |some v=>C2 d v K h
  |none=>False)
 |_,_=>False
def ML(P:iz)(G:Gi):List mC->(Sg->Prop)->Sg->Prop
 |[],K,h=>K h
 | .o o::xs,K,h=>Jo P G o (ML P G xs K) h
 | .jU d neg x::xs,K,h=>match hd h x with
  |some (a,_)=>(match rowsOf a with
   |some rows=>∀b:Bool,(b=true->rows=[])->C2 (some d) (.sc (.bool (if neg=true then !b else b))) (ML P G xs K) h
   |none=>False)
  |none=>False
 | .gld d g n::xs,K,h=>match nJ g n with
  |some cs=>C2 (some d) (.agg (cs.map .sc)) (ML P G xs K) h
  |none=>False
 | .bxv d n s::xs,K,h=>match h s with
  | .agg cs=>cs.length=n/\∀us:List Value,us.length=n->C2 (some d) (.vb s 0 us) (ML P G xs K) h
  |_=>False
 | .lb d f x Uj y::xs,K,h=>lbP P G d f x Uj y (ML P G xs K) h
 | .clv d x args::xs,K,h=>clvP P d x args (ML P G xs K) h
 | .clo d f x args g::xs,K,h=>gdP g (sN P d f x args (ML P G xs K)) (aU d (ML P G xs K)) h
def czS(G:Gi)(r:Nat)(p:i4)(h:Sg):Option Sg:=match sub (h r) p with
 |some (.own b k rows)=>(match put (h r) p (.own b k (Mt rows))with
  |some t=>some (Dn (GJ G (p.length+1) r h) r t)
  |none=>none)
 |_=>none
def gzS(G:Gi)(c:Bool)(r:Nat)(p:i4)(h:Sg):Option Sg:=if c=true then czS G r p h else match sub (h r) p with
 |some (.sl _ _ _)=>some h
 |_=>match SA G r p h with
  |some (_,τ)=>some τ
  |none=>none
def pgQ(G:Gi)(c:Bool)(r:Nat)(p:i4)(Q:Exit->Sg->Prop):Exit->Sg->Prop
 | .normal,h=>(match gzS G c r p h with
  |some τ=>Q .normal τ
  |none=>False)
 |e,h=>Q e h
def Sl(P:iz)(G:Gi)(f:Flo):List BD->(Sg->Prop)->Sg->Prop
 |[],K,h=>K h
 |o::os,K,h=>jQ f.kb f.off (h f.r)=true/\Jo P G o (Sl P G f os K) h
def Qh:AV->Bool
 | .own false _ _=>true
 |_=>false
def Tb:AV->Bool
 | .Lm .. =>true
 |_=>false
def okD(f:Apd)(m:Nat)(h:Sg):Bool:=(decide (m<=f.i7)||Qh (h f.s))&&(decide (m<=f.i8)||Tb (h f.e))&&(decide (m<=f.i11)||Tb (h f.ap))
def Pn(P:iz)(G:Gi)(f:Apd):Nat->List BD->(Sg->Prop)->Sg->Prop
 |m,[],K,h=>okD f m h=true/\K h
 |m,o::os,K,h=>okD f m h=true/\Jo P G o (Pn P G f (m+1) os K) h
def runT(P:iz)(G:Gi)(Ce:jG):Tr->(Sg->Prop)->Sg->Prop
 | .leaf,K,h=>K h
 | .one i t,K,h=>match Ce[i]? with
  |some o=>Jo P G o (runT P G Ce t K) h
  |none=>False
 | .fork _ _ a b,K,h=>runT P G Ce a K h/\runT P G Ce b K h
def Exit.Sf(next:iv)(Q:Exit->Sg->Prop):Exit->Sg->Prop
 | .normal,h=>next h
 |e,h=>Q e h
def Exit.Ym(id:Nat)(Q:Exit->Sg->Prop):Exit->Sg->Prop
 | .exit i,h=>if i=id then Q .normal h else Q (.exit i) h
 |e,h=>Q e h
def IU(P:iz)(G:Gi):IC->(Exit->Sg->Prop)->Sg->Prop
 | .skip,Q,h=>Q .normal h
 | .bad,_,_=>False
 | .fR xs,Q,h=>ML P G xs (Q .normal) h
 | .apd f ops,Q,h=>Pn P G f 0 ops (Jo P G ⟨none,.st 1 (.t f.ap) (.t f.s),none⟩ (Q .normal)) h
 | .pg c r p a,Q,h=>IU P G a (pgQ G c r p Q) h
 | .gz c r p a,Q,h=>match gzS G c r p h with
  |some τ=>IU P G a Q τ
  |none=>False
 | .dH ops,Q,h=>O0 P G ops (Q .normal) h
 | .flo f a b,Q,h=>Sl P G f a (O0 P G b (Q .normal)) h
 | .jB _ ops,Q,h=>O0 P G ops (Q .normal) h
 | .drw t ops,Q,h=>runT P G ops t (Q .normal) h
 | .seq a b,Q,h=>IU P G a (Exit.Sf (IU P G b Q) Q) h
 | .cond c a b,Q,h=>match ar h c with
  | .sc (.bool x)=>if x=true then IU P G a Q h else IU P G b Q h
  |_=>False
 | .block id a,Q,h=>IU P G a (Exit.Ym id Q) h
 | .loop a,Q,h=>∃I:Nat->Sg->Prop,(∃n,I n h)/\∀n τ,I n τ->IU P G a (Exit.Sf (λτ'=>∃n',n'<n/\I n' τ') Q) τ
 | .exit id,Q,h=>Q (.exit id) h
 | .ret,Q,h=>Q .ret h
def awp_skip(P:iz)(G:Gi)(Q:Exit->Sg->Prop)(h:Sg):IU P G .skip Q h=Q .normal h:=(rfl)
def awp_reg(P:iz)(G:Gi)(ops:jG)(Q:Exit->Sg->Prop)(h:Sg):IU P G (.dH ops) Q h=O0 P G ops (Q .normal) h:=(rfl)
def awp_rex(P:iz)(G:Gi)(a:np)(Q:Exit->Sg->Prop)(h:Sg):IU P G (.fR a) Q h=ML P G a (Q .normal) h:=(rfl)
def wB(P:iz)(G:Gi)(a b:IC)(Q:Exit->Sg->Prop)(h:Sg):IU P G (.seq a b) Q h=IU P G a (Exit.Sf (IU P G b Q) Q) h:=(rfl)
def yZ(P:iz)(G:Gi)(b:Nat)(a:IC)(Q:Exit->Sg->Prop)(h:Sg):IU P G (.block b a) Q h=IU P G a (Exit.Ym b Q) h:=(rfl)
def awp_exit(P:iz)(G:Gi)(a:Nat)(Q:Exit->Sg->Prop)(h:Sg):IU P G (.exit a) Q h=Q (.exit a) h:=(rfl)
def awp_ret(P:iz)(G:Gi)(Q:Exit->Sg->Prop)(h:Sg):IU P G .ret Q h=Q .ret h:=(rfl)
theorem mP(P:iz)(G:Gi)(c:Ar)(a b:IC)(Q:Exit->Sg->Prop)(h:Sg):IU P G (.cond c a b) Q h=match ar h c with
 | .sc (.bool x)=>if x=true then IU P G a Q h else IU P G b Q h
 |_=>False:=rfl
variable{P:iz}{T:Exit->Sg->Prop}
def awp_loop{a:IC}(I:lw)(n:Nat)(h:I n σ')(b:∀n τ,I n τ->IU P G a (Exit.Sf (λc=>∃d,d<n/\I d c) T) τ):IU P G (.loop a) T σ':=⟨I,⟨n,h⟩,b⟩
def pU(next:iv)(Q:Exit->Sg->Prop)(h:Sg):Exit.Sf next Q .normal h=next h:=(rfl)
def seqA_exit(next:iv)(Q:Exit->Sg->Prop)(a:Nat)(h:Sg):Exit.Sf next Q (.exit a) h=Q (.exit a) h:=(rfl)
def seqA_ret(next:iv)(Q:Exit->Sg->Prop)(h:Sg):Exit.Sf next Q .ret h=Q .ret h:=(rfl)
def bW(a:Nat)(Q:Exit->Sg->Prop)(h:Sg):Exit.Ym a Q .normal h=Q .normal h:=(rfl)
def QX(a i:Nat)(Q:Exit->Sg->Prop)(h:Sg):Exit.Ym a Q (.exit i) h=if i=a then Q .normal h else Q (.exit i) h:=(rfl)
def rU(a:Nat)(Q:Exit->Sg->Prop)(h:Sg):Exit.Ym a Q .ret h=Q .ret h:=(rfl)
inductive RV where
 |tmp (t:Nat)
 |cell (a:Nat) (agg:Bool) (n:Nat)
 deriving Inhabited
abbrev ni:=List RV
def Gz(G:Gi):List RV->Sg->Option (List AV×Sg)
 |[],h=>some ([],h)
 | .tmp t::l,h=>match tk G (.t t) h with
  |some (v,τ)=>match Gz G l τ with
   |some (vs,τ')=>some (v::vs,τ')
   |none=>none
  |none=>none
 | .cell a agg n::l,h=>match h a with
  | .own true _ [row]=>match I0 agg n row with
   |some v=>match Gz G l (Dn (KY G a h) a .dead)with
    |some (vs,τ')=>some (v::vs,τ')
    |none=>none
   |none=>none
  |_=>none
def one:List AV->AV
 |[v]=>v
 |vs=>.BZ vs
def Ends(G:Gi)(rs:ni)(res:AV)(e:Exit)(h:Sg):Prop:=
 (match e with| .normal=>True| .ret=>True|_=>False)/\∃vs τ,Gz G rs h=some (vs,τ)/\one vs=res
def start(args:i5):Sg:=λs=>args.getD s .un
section
variable{w w':ja}{S S':iu}{F F':iu}{G:Gi}{δ δ':ji}{Fr:iy}
theorem ZL(n d r:Nat)(p:i4):FG n d (.al r p)=if r=d/\n<=p.length then .dead else .al r p:=cn
theorem Vt(n d r:Nat)(p:i4)(i j k:Nat):FG n d (.Lm r p i j k)=if r=d/\n<=p.length then .dead else .Lm r p i j k:=cn
@[simp]theorem killn_agg(n d:Nat)(a:i5):FG n d (.agg a)= .agg (a.map (FG n d)):=by simp[FG,fD]
@[simp]theorem killn_tup(n d:Nat)(a:i5):FG n d (.BZ a)= .BZ (a.map (FG n d)):=by simp[FG,fD]
theorem ZO(n d s o:Nat)(a:jj):FG n d (.vb s o a)=if s=d then .dead else .vb s o a:=cn
theorem ZN(n d f:Nat)(rs:j9):FG n d (.cl f rs)=if(rs.all λx=>x.1 != d)=true then .cl f rs else .dead:=cn
theorem ZM(n d f:Nat)(vs:jj)(b:Nat)(a:nh):FG n d (.cb f vs b a)=if(a.all λx=>x.1 != d||(x.2&&decide (0<n)))=true then .cb f vs b a else .dead:=by simp only[FG]
@[simp]theorem fC(n d:Nat)(a:AV)(v:jn):HW n d (.lf a v)= .lf (FG n d a) v:=by simp[HW]
@[simp]theorem PK(n d:Nat)(h:jn)(b:Bool)(k:Nat)(rows:jd):HW n d (.own h b k rows)= .own h b k rows:=by simp[HW]
@[simp]theorem PJ(n d:Nat)(a:jl):HW n d (.agg a)= .agg (a.map (HW n d)):=by simp[HW,ZK]
@[simp]theorem PL(n d:Nat)(a:jl):HW n d (.BZ a)= .BZ (a.map (HW n d)):=by simp[HW,ZK]
theorem Rk(L:jh)(n d:Nat):∀(a:AV),GL L a=true->GL L (FG n d a)=true
 | .al r p,h=>by
  rw[ZL];split
  all_goals simp_all
 | .Lm r p i j k,h=>by
  rw[Vt];split
  all_goals simp_all
 | .agg cs,h=>by rw[K6,AAY]at h;rw[killn_agg,K6,ABR,AAY];intro c e;exact Rk L n d c (h c e)
 | .BZ cs,h=>by rw[Pa,AAY]at h;rw[killn_tup,Pa,ABR,AAY];intro c e;exact Rk L n d c (h c e)
 | .sc _,_=>cn
 | .sl ..,_=>cn
 | .own ..,_=>cn
 | .fp _,_=>cn
 | .dead,_=>cn
 | .un,_=>cn
 | .YA ..,_=>by simp[FG,GL]
 | .vb s o us,h=>by
  rw[ZO];split
  all_goals simp_all
 | .cl f rs,h=>by
  rw[ZN];split
  . exact h
  . simp
 | .cb f vs b ss,h=>by
  rw[ZM];split
  all_goals simp_all
theorem uC{a:AV}(n d:Nat)(c:Hh w S a v):Hh w S (FG n d a) v:=by
 cases a with
 |al r p=>rw[ZL];split<;>simp[Hh]
 |Lm r p i j k=>rw[Vt];split<;>simp[Hh]
 |cl f rs=>rw[ZN];split<;>trivial
 |vb s o us=>rw[ZO];split<;>first|trivial|exact c
 |cb f vs b ss=>rw[ZM];split<;>first|trivial|exact c
 |agg cs=>exact c.elim
 |BZ cs=>exact c.elim
 |own=>exact c.elim
 |_=>simpa[FG]using c
theorem Mf(n x:Nat)(h:Ok w S d F):(HW n x d).er=FG n x d.er/\(HW n x d).A0=d.A0/\Ok w S (HW n x d) F:=by
 induction h with
 |lf a v F ha hF=>refine⟨ak,ak,?_⟩;rw[fC];exact .lf _ v F (uC n x ha) hF
 |nil k F hF=>exact⟨cn,ak,by rw[PK];exact .nil k F hF⟩
 |own bx k rows b c arr E Fs F hb hk Ee Md hv hr hd B0 LR hF ih=>exact⟨cn,ak,by rw[PK];exact .own bx k rows b c arr E Fs F hb hk Ee Md hv hr hd B0 LR hF⟩
 |agg cs Fs F hr hd B0 hF ih=>
  have key:∀e∈cs,(HW n x e).er=FG n x e.er/\(HW n x e).A0=e.A0:=by intro e f;obtain⟨i,hi⟩:=AAs f;exact⟨(ih i e hi).1,(ih i e hi).2.1⟩
  refine⟨?_,?_,?_⟩
  . simp_all
  . simp_all
  . rw[PJ];refine .agg _ Fs F ?_ hd ?_ hF
    all_goals grind
 |BZ cs Fs F hr hd B0 hF ih=>
  have key:∀e∈cs,(HW n x e).er=FG n x e.er/\(HW n x e).A0=e.A0:=by intro e f;obtain⟨i,hi⟩:=AAs f;exact⟨(ih i e hi).1,(ih i e hi).2.1⟩
  refine⟨?_,?_,?_⟩
  . simp_all
  . simp_all
  . rw[PL];refine .BZ _ Fs F ?_ hd ?_ hF
    all_goals grind
theorem Dr.FG(n x:Nat)(h:Dr δ d)(g:dU d)(q:∀r p v bx k rows,(r≠x\/p.length<n)->Ax (δ r) p=some (.own v bx k rows)->∃c,Ax (δ' r) p=some (.own v bx k c))(B:∀r,r≠x->(δ' r).A0=(δ r).A0):Dr δ' (HW n x d):=by
 induction h with
 |lf a v h=>
  rw[fC];refine .lf _ v ?_;cases g with
  |lf _ _ g=>
   cases a with
   |al r p=>
    rw[ZL];split
    . trivial
    . rename_i e;obtain⟨bx,k,rows,h⟩:=h;obtain⟨c,m⟩:=q r p v bx k rows ah h;exact⟨bx,k,c,m⟩
   |Lm r p i j k=>
    rw[Vt];split
    . trivial
    . obtain⟨y,bx,rows,b,h,F,rfl⟩:=h;obtain⟨c,m⟩:=q r p y bx k rows ah h;exact⟨y,bx,c,b,m,F,rfl⟩
   |vb s o us=>
    rw[ZO];split
    . trivial
    . exact(B s bn).trans h
   |cb f vs b ss=>
    rw[ZM];split
    . rename_i t;refine⟨h.1,λi s fl u hi z=> ?_⟩;rw[AAY]at t;have l:=t _ (AAg hi);simp only[AAt,ABl,ne_eq,AAT,AAl]at l;obtain⟨G,g2⟩:=h.2 i s fl u hi z;by_cases e:s=x
      . obtain⟨rfl,hn⟩:=l.resolve_left ah;obtain⟨bx,k,rows,D⟩:=g2 rfl;obtain⟨c,w⟩:=q s [] u bx k rows (.inr hn) D;refine⟨?_,λ_=>⟨bx,k,c,w⟩⟩;simp only[Ax,AAU]at w;simp_all
      grind
    . trivial
   |cl f rs=>
    rw[ZN];split
    . rename_i t;obtain⟨vs,l,E,H⟩:=h;refine⟨vs,l,E,λi r p u hi z=> ?_⟩;grind
    . trivial
   |agg cs=>simp[DS]at g
   |BZ cs=>simp[DS]at g
   |own=>simp[DS]at g
   |_=>simp only[Abs.FG];trivial
 |own=>rw[PK];exact .own _ _ _ _
 |agg cs _ ih=>
  rw[PJ];cases g with
  |agg _ g=>refine .agg _ λi C hd=> ?_;grind
 |BZ cs _ ih=>
  rw[PL];cases g with
  |BZ _ g=>refine .BZ _ λi C hd=> ?_;grind
theorem St.Rl(h:St G w S δ Fr)(n d s:Nat):(Eo G n d δ s).er=GJ G n d (λs=>(δ s).er) s:=by
 unfold Eo GJ;split
 . exact(Mf n d (h.ok s)).1
 . rfl
theorem St.Mz(h:St G w S δ Fr)(n d s:Nat):(Eo G n d δ s).A0=(δ s).A0:=by
 unfold Eo;split
 . exact(Mf n d (h.ok s)).2.1
 . rfl
theorem St.killnδ_ok(h:St G w S δ Fr)(n d s:Nat):Ok w S (Eo G n d δ s) (Fr s):=by
 unfold Eo;split
 . exact(Mf n d (h.ok s)).2.2
 . exact h.ok s
theorem St.killnδ_rt(h:St G w S δ Fr)(n d s:Nat):GL (G.HA s) (Eo G n d δ s).er=true:=by
 unfold Eo;split
 . rw[(Mf n d (h.ok s)).1];exact Rk _ n d _ (h.rt s)
 . exact h.rt s
theorem Xy(n t:Nat)(q:i4):Abs.Ax (HW n t d) q=some (.own v bx k rows)↔Abs.Ax d q=some (.own v bx k rows):=by
 induction q generalizing d with
 |nil=>simp only[Abs.Ax,AAU];cases d<;>simp
 |cons s q ih=>
  obtain⟨i,j,c⟩:=s;cases d with
  |lf a v=>simp[Abs.Ax]
  |own h b k1 Kb=>simp_all
  |agg cs=>simp only[PJ,Abs.Ax,AAf];grind
  |BZ cs=>simp only[PL,Abs.Ax,AAf];grind
theorem ZP(n d r:Nat)(p:i4):Abs.Ax (Eo G n d δ r) p=some (.own v bx k rows)↔Abs.Ax (δ r) p=some (.own v bx k rows):=by
 unfold Eo;split
 . exact Xy n d p
 simp_all
theorem Oh(q:i4):∀(p:i4),q.length<=p.length->D4 d p new=some z->(q.length=p.length->∀v bx k rows,Abs.Ax d p=some (.own v bx k rows)->∃f,new= .own v bx k f)->∀{v:jn}{bx:Bool}{k:Nat}{rows:jd},Abs.Ax d q=some (.own v bx k rows)->∃f,Abs.Ax z q=some (.own v bx k f):=by
 induction q generalizing d z with
 |nil=>
  intro p u t w v bx k rows g;simp only[Abs.Ax,AAU]at g;subst g
  match p,u with
  |[],_=>simp only[D4,AAU]at t;subst t;obtain⟨f,h⟩:=w rfl v bx k rows rfl;exact⟨f,by rw[h];rfl⟩
  | (i,j,D)::p,_=>
   simp only[D4]at t;split at t
   . split at t
     . split at t
       . simp only[AAU]at t;subst t;exact⟨_,by simp[Abs.Ax];rfl⟩
       . cases t
     . cases t
   . cases t
 |cons s q ih=>
  intro p u t w v bx k rows g;obtain⟨i,j,D⟩:=s
  match p,u with
  | (i',j',k')::p,u=>
   have n:q.length<=p.length:=(by simpa using u);cases d with
   |lf a v=>simp[Abs.Ax]at g
   |own h b k1 Kb=>
    simp only[D4]at t;split at t
    . rename_i row B;split at t
      . rename_i c m;split at t
        . rename_i c' o;simp only[AAU]at t;subst t;simp only[Abs.Ax]at g |-;cases hi:Kb[i]? with
          |none=>simp_all
          |some row2=>
           simp only[hi]at g;cases hj:row2[j]? with
           |none=>simp_all
           |some c2=>
            simp only[hj]at g;have x:i<Kb.length:=(AAV.1 hi).1;have l:j<row2.length:=(AAV.1 hj).1;by_cases C:i'=i
            . subst C;rw[hi]at B;cases B;rw[AAX x];by_cases r:j'=j
              . subst r;rw[hj]at m;cases m;simp only[AAX l];exact ih p n o (λe v bx k rows h=>w (by simp[e]) v bx k rows (by simp only[Abs.Ax,hi,hj];exact h)) g
              simp_all
            simp_all
        . cases t
      . cases t
    . cases t
   |agg cs=>
    simp only[D4]at t;split at t
    . rename_i c m;split at t
      . rename_i c' o;simp only[AAU]at t;subst t;simp only[Abs.Ax]at g |-;cases hj:cs[j]? with
        |none=>simp_all
        |some c2=>
         simp only[hj]at g;have l:j<cs.length:=(AAV.1 hj).1;by_cases r:j'=j
         . subst r;rw[hj]at m;cases m;simp only[AAX l];exact ih p n o (λe v bx k rows h=>w (by simp[e]) v bx k rows (by simp only[Abs.Ax,hj];exact h)) g
         simp_all
      . cases t
    . cases t
   |BZ cs=>
    simp only[D4]at t;split at t
    . rename_i c m;split at t
      . rename_i c' o;simp only[AAU]at t;subst t;simp only[Abs.Ax]at g |-;cases hj:cs[j]? with
        |none=>simp_all
        |some c2=>
         simp only[hj]at g;have l:j<cs.length:=(AAV.1 hj).1;by_cases r:j'=j
         . subst r;rw[hj]at m;cases m;simp only[AAX l];exact ih p n o (λe v bx k rows h=>w (by simp[e]) v bx k rows (by simp only[Abs.Ax,hj];exact h)) g
         simp_all
      . cases t
    . cases t
theorem St.setn(h:St G w S δ Fr)(n d:Nat)(g:DV)(Fn:iu)(F:∀b,S b->w'.heap[b]? =w.heap[b]?)(D:∀s,s≠d->∀x,Fr s x->w'.heap[x]? =w.heap[x]?)(z:∀b,S b->S' b)(B:∀s,s≠d->∀x,Fr s x->¬S' x)(hn:Ok w' S' g Fn)(H:∀s,s≠d->∀x,Fn x->¬Fr s x)(u:GL (G.HA d) g.er=true)(y:Dr δ g)(C:∀p v bx k rows,p.length<n->Abs.Ax (δ d) p=some (.own v bx k rows)->∃c,Abs.Ax g p=some (.own v bx k c)):
 St G w' S' (Dn (Eo G n d δ) d g) (Dn Fr d Fn):=by
 have m:∀r p v bx k rows,(r≠d\/p.length<n)->Abs.Ax (δ r) p=some (.own v bx k rows)->∃c,Abs.Ax (Dn (Eo G n d δ) d g r) p=some (.own v bx k c):=by
  intro r p v bx k rows f i;by_cases e:r=d
  . subst e;rw[BW];grind
  . rw[Br _ _ e];exact⟨rows,(ZP n d r p).2 i⟩
 have o:∀r,r≠d->(Dn (Eo G n d δ) d g r).A0=(δ r).A0:=by intro r f;rw[Br _ _ f];exact h.Mz n d r
 refine⟨?_,?_,?_,?_,h.self⟩
 . intro s;by_cases a:s=d
   . subst a;rw[BW,BW];exact hn
   . rw[Br _ _ a,Br _ _ a];exact(h.killnδ_ok n d s).mono F (D s a) z (B s a)
 . intro s t x j l;by_cases a:s=d<;>by_cases q:t=d
   . omega
   . subst a;rw[BW]at j;rw[Br _ _ q]at l;simp_all
   . subst q;rw[BW]at l;rw[Br _ _ a]at j;simp_all
   . rw[Br _ _ a]at j;rw[Br _ _ q]at l;exact h.NK s t x j l
 . intro s;by_cases a:s=d
   . subst a;rw[BW];refine y.mono u (λr f p v bx k rows i=>m r p v bx k rows (.inl ?_) i) (λr f=>o r ?_)
     . rintro rfl;exact h.self _ f
     . rintro rfl;exact h.self _ f
   . rw[Br _ _ a];unfold Eo;split
     . exact(h.al s).FG n d (h.ok s).Lh m o
     . rename_i hn;have hd:d∉G.HA s:=λE=>hn (Gi.xI E);refine(h.al s).mono (h.rt s) (λr f p v bx k rows i=>m r p v bx k rows (.inl ?_) i) (λr f=>o r ?_)
       all_goals grind
 . intro s;by_cases a:s=d
   . subst a;rw[BW];exact u
   . rw[Br _ _ a];exact h.killnδ_rt n d s
end
variable{U F S1 Ff:iu}{g:ja}{u:jn}
section
variable{w w':ja}{S S':iu}{G:Gi}{δ:ji}{Fr:iy}
structure Nx (w:World) (S U:Nat->Prop) (w':World) (S' U':Nat->Prop):Prop where
 os:w'.os=w.os
 tape:w'.tape=w.tape
 output:w'.output=w.output
 size:w.heap.size<=w'.heap.size
 block:∀b,b<w.heap.size->¬U b->w'.heap[b]? =w.heap[b]?
 sub:∀b,S b->S' b
 sup:∀b,S' b->S b\/U b\/w.heap.size<=b
 lt:(∀b,S b->b<w.heap.size)->∀b,S' b->b<w'.heap.size
 own:∀x,U' x->U x\/w.heap.size<=x
def Nx.refl(w:ja)(S U:iu):Nx w S U w S U:=
 ⟨rfl,rfl,rfl,AAv _,λ_ _ _=>rfl,λ_ h=>h,λ_ h=>.inl h,λh=>h,λ_ h=>.inl h⟩
def Nx.less{w:ja}{S:iu}(h:∀x,F x->U x):Nx w S U w S F:=
 ⟨rfl,rfl,rfl,AAv _,λ_ _ _=>rfl,λ_ h=>h,λ_ h=>.inl h,λh=>h,λx b=>.inl (h x b)⟩
theorem Nx.trans{w f:ja}{S S2:iu}(h:Nx w S U f S1 F)(k:Nx f S1 F g S2 Ff):Nx w S U g S2 Ff:=by
 refine⟨k.os.trans h.os,k.tape.trans h.tape,k.output.trans h.output,ABO h.size k.size,?_,λb c=>k.sub b (h.sub b c),?_,λl b c=>k.lt (h.lt l) b c,?_⟩
 . intro b c j;rw[k.block b (ABP c h.size) ?_,h.block b c j];intro d;rcases h.own b d with a|a
   all_goals grind
 . intro b c;have m:=h.size;rcases k.sup b c with a|a|a
   . exact h.sup b a
   . rcases h.own b a with i|i
     all_goals simp_all
   omega
 . intro x n;have m:=h.size;rcases k.own x n with a|a
   . exact h.own x a
   omega
abbrev BN(Fr:iy):Nat->Prop:=λx=>∃s,Fr s x
theorem kills_eq(d:Nat)(h:Sg):Jl (G.Pm d) d h=KY G d h:=by
 unfold Jl KY;split
 all_goals simp_all
def Dr.dead(v:jn):Dr δ (.lf .dead v):=.lf _ _ trivial
theorem St.empty(h:St G w S δ Fr)(s:Nat):
 St G w S (Dn (ID G s δ) s (.lf .dead (δ s).A0)) (Dn Fr s λ_=>False):=by
 refine h.set s _ _ (λ_ _=>rfl) (λ_ _ _ _=>rfl) (λ_ h=>h) (λt _ x a=>(h.ok t).FQ x a) (.lf _ _ _ trivial (λ_ h=>h)) (λ_ _ _ h=>h.elim) ak (Dr.dead _)
theorem JC(h:St G w S δ Fr)(d:Nat)(x:DV):(λs=>(Dn (ID G d δ) d x s).er)=Dn (KY G d (λs=>(δ s).er)) d x.er:=by
 funext s;by_cases a:s=d
 . subst a;simp[Dn]
 . simp only[Dn,a,AAk];exact h.oB d s
theorem Ih(h:St G w S δ Fr)(d:Nat)(x:DV)(s:Nat):(Dn (ID G d δ) d x s).A0=if s=d then x.A0 else(δ s).A0:=by
 by_cases a:s=d
 . subst a;simp[Dn]
 . simp only[Dn,a,AAk];exact h.Vv d s
theorem Wn{h:DV}{a:AV}(p:i4)(t:D4 d p (.lf a u)=some h)(q:i4)(e:Ax h q=some (.own v bx k rows)):∃f,Ax d q=some (.own v bx k f):=by
 induction p generalizing d h q with
 |nil=>
  simp only[D4,AAU]at t;subst t;cases q with
  |nil=>simp[Ax]at e
  |cons s q=>simp[Ax]at e
 |cons s p ih=>
  obtain⟨i,j,r⟩:=s;cases d with
  |lf a v=>simp[D4]at t
  |own hh b k1 Kb=>
   simp only[D4]at t;cases hi:Kb[i]? with
   |none=>simp_all
   |some row=>
    simp only[hi]at t;cases hj:row[j]? with
    |none=>simp_all
    |some c=>
     simp only[hj]at t;cases hc:D4 c p (.lf a u)with
     |none=>simp_all
     |some c'=>
      simp only[hc,AAU]at t;subst t;have o:=(AAV.1 hi).1;have l:=(AAV.1 hj).1;cases q with
      |nil=>simp only[Ax,AAU,DV.own.injEq]at e;obtain⟨rfl,rfl,rfl,_⟩:=e;exact⟨_,rfl⟩
      |cons s2 q=>obtain⟨i2,m,n⟩:=s2;simp only[Ax]at e |-;grind
  |agg cs=>
   simp only[D4]at t;cases hj:cs[j]? with
   |none=>simp_all
   |some c=>
    simp only[hj]at t;cases hc:D4 c p (.lf a u)with
    |none=>simp_all
    |some c'=>
     simp only[hc,AAU]at t;subst t;have l:=(AAV.1 hj).1;cases q with
     |nil=>simp[Ax]at e
     |cons s2 q=>obtain⟨i2,m,n⟩:=s2;simp only[Ax]at e |-;grind
  |BZ cs=>
   simp only[D4]at t;cases hj:cs[j]? with
   |none=>simp_all
   |some c=>
    simp only[hj]at t;cases hc:D4 c p (.lf a u)with
    |none=>simp_all
    |some c'=>
     simp only[hc,AAU]at t;subst t;have l:=(AAV.1 hj).1;cases q with
     |nil=>simp[Ax]at e
     |cons s2 q=>obtain⟨i2,m,n⟩:=s2;simp only[Ax]at e |-;grind
theorem Nj(p:i4)(e:D4 d p new=some D)(m:Dr δ d)(hn:Dr δ new):Dr δ D:=by
 induction p generalizing d D with
 |nil=>simp only[D4,AAU]at e;simp_all
 |cons s p ih=>
  obtain⟨i,j,k⟩:=s;cases m with
  |lf a v h=>simp[D4]at e
  |own hh b k1 rows=>
   simp only[D4]at e;split at e
   . split at e
     . split at e
       . simp only[AAU]at e;subst e;exact .own _ _ _ _
       . cases e
     . cases e
   . cases e
  |agg cs hr=>
   simp only[D4]at e;split at e
   . rename_i c l;split at e
     . rename_i c' g;simp only[AAU]at e;subst e;refine .agg _ λi t hd=> ?_;grind
     . cases e
   . cases e
  |BZ cs hr=>
   simp only[D4]at e;split at e
   . rename_i c l;split at e
     . rename_i c' g;simp only[AAU]at e;subst e;refine .BZ _ λi t hd=> ?_;grind
     . cases e
   . cases e
theorem NA(p:i4)(t:D4 d p new=some D)(f:GL L d.er=true)(hn:GL L new.er=true):GL L D.er=true:=by
 induction p generalizing d D with
 |nil=>simp only[D4,AAU]at t;simp_all
 |cons s p ih=>
  obtain⟨i,j,k⟩:=s;cases d with
  |lf a v=>simp[D4]at t
  |own hh b k1 rows=>
   simp only[D4]at t;split at t
   . split at t
     . split at t
       . simp only[AAU]at t;subst t;simp
       . cases t
     . cases t
   . cases t
  |agg cs=>
   simp only[D4]at t;split at t
   . rename_i c h;split at t
     . rename_i c' g;simp only[AAU]at t;subst t;simp only[Iy,K6,ABR,AAY]at f |-;grind
     . cases t
   . cases t
  |BZ cs=>
   simp only[D4]at t;split at t
   . rename_i c h;split at t
     . rename_i c' g;simp only[AAU]at t;subst t;simp only[LP,Pa,ABR,AAY]at f |-;grind
     . cases t
   . cases t
theorem St.replace(h:St G w S δ Fr)(r:Nat)(p:i4)(C:Ax (δ r) p=some d):
 ∃a,Ok w S d a/\(∀x,a x->Fr r x)/\∀(S':iu)(new:DV),new.A0=d.A0->Ok w S' new (λ_=>False)->(∀b,S b->S' b)->(∀t b,Fr t b->¬a b->¬S' b)->
  (∀L,GL L new.er=true)->Dr δ new->
  ∃t F',D4 (δ r) p new=some t/\St G w S' (Dn (ID G r δ) r t) (Dn Fr r F')/\(∀x,F' x↔Fr r x/\¬a x)/\t.A0=(δ r).A0:=by
 obtain⟨a,B,f,q⟩:=(h.ok r).replace p C;refine⟨a,B,f,?_⟩;intro S' new y hn g i u m;obtain⟨t,F',e,k,E,l⟩:=q w S' new (λ_=>False) y hn (λ_ h=>h.elim) (λ_ _=>rfl) (λ_ _ _=>rfl) g (λb z D=>i r b z D);have j:∀x,F' x↔Fr r x/\¬a x:=λx=>am
 refine⟨t,F',e,?_,j,l⟩;refine h.set r t F' (λ_ _=>rfl) (λ_ _ _ _=>rfl) g ?_ k ?_ (NA p e (h.rt r) (u _)) (Nj p e (h.al r) m)
 . intro s n x c;exact i s x c λv=>n (h.NK s r x c (f x v))
 . intro s n x c o;exact n (h.NK s r x o ((j x).1 c).1)
theorem O9(h:St G w S δ Fr)(n d:Nat)(x:DV):(λs=>(Dn (Eo G n d δ) d x s).er)=Dn (GJ G n d (λs=>(δ s).er)) d x.er:=by
 funext s;by_cases a:s=d
 . subst a;simp[Dn]
 . simp only[Dn,a,AAk];exact h.Rl n d s
theorem N4(h:St G w S δ Fr)(n d:Nat)(x:DV)(s:Nat):(Dn (Eo G n d δ) d x s).A0=if s=d then x.A0 else(δ s).A0:=by
 by_cases a:s=d
 . subst a;simp[Dn]
 . simp only[Dn,a,AAk];exact h.Mz n d s
theorem St.oZ(h:St G w S δ Fr)(r:Nat)(p:i4)(I:Ax (δ r) p=some d):
 ∃a,Ok w S d a/\(∀x,a x->Fr r x)/\∀(S':iu)(new:DV),new.A0=d.A0->Ok w S' new (λ_=>False)->(∀b,S b->S' b)->(∀t b,Fr t b->¬a b->¬S' b)->
  (∀L,GL L new.er=true)->Dr δ new->
  ∃t F',D4 (δ r) p new=some t/\St G w S' (Dn (Eo G p.length r δ) r t) (Dn Fr r F')/\(∀x,F' x↔Fr r x/\¬a x)/\t.A0=(δ r).A0:=by
 obtain⟨a,H,i,B⟩:=(h.ok r).replace p I;refine⟨a,H,i,?_⟩;intro S' new E hn j l C y;obtain⟨t,F',c,o,K,u⟩:=B w S' new (λ_=>False) E hn (λ_ h=>h.elim) (λ_ _=>rfl) (λ_ _ _=>rfl) j (λb F J=>l r b F J);have m:∀x,F' x↔Fr r x/\¬a x:=λx=>am
 refine⟨t,F',c,?_,m,u⟩;refine h.setn p.length r t F' (λ_ _=>rfl) (λ_ _ _ _=>rfl) j ?_ o ?_ (NA p c (h.rt r) (C _)) (Nj p c (h.al r) y) ?_
 . intro s f x n;exact l s x n λD=>f (h.NK s r x n (i x D))
 . intro s f x n z;exact f (h.NK s r x z ((m x).1 n).1)
 . intro q v bx k rows M g;exact Oh q p ah c (λe=>absurd e ah) g
theorem St.dN(h:St G w S δ Fr){a:AV}(g:Abs.dN G k p (λs=>(δ s).er)=some (a,τ)):
 ∃e F' D Ff,St G w S e F'/\(λs=>(e s).er)=τ/\(∀s,(e s).A0=(δ s).A0)/\Ok w S D Ff/\D.er=a/\(∃v bx r rows,D= .own v bx r rows)/\Ax (δ k) p=some D/\(∀s x,F' s x->¬Ff x)/\
  (∀x,BN F' x\/Ff x->BN Fr x)/\(∀q v bx r rows,Ax (e k) q=some (.own v bx r rows)->∃c,Ax (δ k) q=some (.own v bx r c))/\(∀s,s≠k->e s=Eo G p.length k δ s):=by
 unfold Abs.dN at g;split at g
 . rename_i b r rows K;split at g
   . rename_i t O;simp only[AAU,AAj]at g;obtain⟨rfl,rfl⟩:=g;obtain⟨D,o,j⟩:=ED (h.ok k).Lh K;obtain⟨E,u,z,F⟩:=h.oZ k p o;obtain⟨L,F',l,B,N,M⟩:=F S (.lf .dead D.A0) ak (.lf _ _ _ trivial (λ_ h=>h)) (λ_ h=>h) (λt b J _=>(h.ok t).FQ b J) ak (Dr.dead _);have m:L.er=t:=(by obtain⟨Q,n,H⟩:=Ht (d:=δ k) (p:=p) (a:=t) (.lf .dead D.A0) (h.ok k).Lh am;rw[l]at n;obtain rfl:=AAW n;exact H);have C:∃v bx r rows,D= .own v bx r rows:=by
      have:=u.Lh;cases D with
      |own v bx r rows=>simp_all
      |lf a v=>cases this with|lf _ _ hl=>simp at j;subst j;simp[DS]at hl
      |agg cs=>simp at j
      |BZ cs=>simp at j
     refine⟨_,_,D,E,B,by rw[O9 h,m],?_,u,j,C,o,?_,?_,?_,λs f=>Br _ _ f⟩
     . intro s;rw[N4 h];simp_all
     . intro s x i I;by_cases f:s=k
       . subst f;rw[BW]at i;simp_all
       . rw[Br _ _ f]at i;exact f (h.NK s k x i (z x I))
     . rintro x (⟨s,i⟩|i)
       . by_cases f:s=k
         . subst f;rw[BW]at i;grind
         . rw[Br _ _ f]at i;grind
       grind
     . intro q v bx P c y;rw[BW]at y;exact Wn p l q y
   . cases g
 . cases g
end
variable{H I:ji}
section
variable{w w':ja}{S S':iu}{G:Gi}{δ:ji}{Fr:iy}
theorem kC(t:Nat)(q:i4)(c:Ax (IY t d) q=some (.own v bx k rows)):Ax d q=some (.own v bx k rows):=by
 induction q generalizing d with
 |nil=>
  simp only[Ax,AAU]at c |-;cases d with
  |lf a v=>simp at c
  |own=>simp_all
  |agg=>simp at c
  |BZ=>simp at c
 |cons s q ih=>
  obtain⟨i,j,e⟩:=s;cases d with
  |lf a v=>simp[Ax]at c
  |own h b k1 Kb=>simp_all
  |agg cs=>simp only[Ob,Ax,AAf]at c |-;grind
  |BZ cs=>simp only[Oc,Ax,AAf]at c |-;grind
theorem Ux(d r:Nat)(q:i4)(a:Ax (ID G d δ r) q=some (.own v bx k rows)):Ax (δ r) q=some (.own v bx k rows):=by
 unfold ID at a;split at a
 . exact kC d q a
 . exact a
def Hd(δ δ':ji):Prop:=∀r q v bx k rows,Ax (δ' r) q=some (.own v bx k rows)->∃rows',Ax (δ r) q=some (.own v bx k rows')
def Hd.refl(δ:ji):Hd δ δ:=λ_ _ _ _ _ rows h=>⟨rows,h⟩
theorem Hd.trans{δ:ji}(h:Hd δ H)(k:Hd H I):Hd δ I:=by intro r q v bx d rows f;obtain⟨b,e⟩:=k r q v bx d rows f;exact h r q v bx d b e
def KT(w:ja)(S:iu):List DV->(Nat->Prop)->Prop
 |[],F=>∀x,¬F x
 |d::ds,F=>∃F1 F2,Ok w S d F1/\KT w S ds F2/\(∀x,F1 x->¬F2 x)/\∀x,F x↔F1 x\/F2 x
def l6(w:ja)(S:iu)(cs:jl)(F:iu):Prop:=
 ∃Fs:Nat->Nat->Prop,(∀(i:Nat) d,cs[i]? =some d->Ok w S d (Fs i))/\(∀i i' x,Fs i x->Fs i' x->i=i')/\(∀i x,Fs i x->∃d,cs[i]? =some d)/\(∀x,F x↔∃i,Fs i x)
theorem Ki:KT w S row F↔l6 w S row F:=by
 induction row generalizing F with
 |nil=>
  constructor
  . intro h;exact⟨λ_ _=>False,ak,λ_ _ _ h=>h.elim,λ_ _ h=>h.elim,λx=>⟨λb=>absurd b (h x),λ⟨_,h⟩=>h.elim⟩⟩
  . rintro⟨a,m,g,n,j⟩ x b;simp_all
 |cons d ds ih=>
  constructor
  . rintro⟨k,p,m,g,n,j⟩;obtain⟨a,f,g2,l,e⟩:=ih.1 g;refine⟨λi=>match i with|0=>k|i+1=>a i,?_,?_,?_,?_⟩
    . grind
    . intro i o x b q;cases i<;>cases o
      all_goals grind
    . intro i x b;cases i with
      |zero=>simp_all
      |succ i=>grind
    . intro x;rw[j x];constructor
      . rintro(h|h)
        . exact⟨0,h⟩
        . obtain⟨i,hi⟩:=(e x).1 h;exact⟨i+1,hi⟩
      . rintro⟨i,hi⟩;cases i with
        |zero=>grind
        |succ i=>grind
  . rintro⟨a,f,g2,l,e⟩;refine⟨a 0,λx=>∃i,a (i+1) x,f 0 d rfl,ih.2 ⟨λi=>a (i+1),?_,?_,?_,λx=>Iff.rfl⟩,?_,?_⟩
    . simp_all
    . grind
    . grind
    . grind
    . intro x;rw[e x];constructor
      . rintro⟨i,hi⟩;cases i with
        |zero=>grind
        |succ i=>grind
      grind
theorem CN:Ok w S (.agg row) F↔KT w S row F:=by
 rw[Ki];constructor
 . intro h;cases h with
   |agg _ a _ c d e f=>exact⟨a,c,d,e,f⟩
 . rintro⟨a,c,d,e,f⟩;exact .agg row a F c d e f
theorem BK:Ok w S (.BZ row) F↔KT w S row F:=by
 rw[Ki];constructor
 . intro h;cases h with
   |BZ _ a _ c d e f=>exact⟨a,c,d,e,f⟩
 . rintro⟨a,c,d,e,f⟩;exact .BZ row a F c d e f
def KT.mono{a:jl}(h:KT w S a F)(e:∀b,S b->w'.heap[b]? =w.heap[b]?)(d:∀b,F b->w'.heap[b]? =w.heap[b]?)(c:∀b,S b->S' b)(hn:∀x,F x->¬S' x):KT w' S' a F:=
 CN.1 ((CN.2 h).mono e d c hn)
theorem St.qQ(ds:jl):∀{δ:ji}{Fr:iy}{F:iu}{l:i5}{τ:Sg},St G w S δ Fr->KT w S ds F->(∀d∈ds,Dr H d)->Hd H δ->(∀s x,Fr s x->¬F x)->
 Abs.qQ G (ds.map DV.er) (λs=>(δ s).er)=some (l,τ)->
 ∃m F' B Ff,St G w S m F'/\(λs=>(m s).er)=τ/\(∀s,(m s).A0=(δ s).A0)/\KT w S B Ff/\B.map DV.er=l/\B.map DV.A0=ds.map DV.A0/\(∀s x,F' s x->¬Ff x)/\
  (∀x,BN F' x\/Ff x->BN Fr x\/F x)/\Hd H m/\(∀a∈l,GN a=true):=by
 induction ds with
 |nil=>intro δ Fr F l τ h Cq T N I c;simp only[AA2,Abs.qQ,AAU,AAj]at c;grind
 |cons d ds ih=>
  intro δ Fr F l τ h Cq T N I c;obtain⟨Q,R,hd,KX,h12,i⟩:=Cq;have L:=T d ak;have y:∀e∈ds,Dr H e:=λe he=>T e (by simp[he]);simp only[AAm,Abs.qQ]at c;cases PD:d.er with
  |al r p=>
   simp only[PD]at c;split at c
   . rename_i n τ1 ht1;split at c
     . rename_i l' τ' E;simp only[AAU,AAj]at c;obtain⟨rfl,rfl⟩:=c;obtain⟨δ1,F1',D,Ff,CX,KJ,EJ,hD,GP,⟨v,bx,k,rows,rfl⟩,CU,nK,K,hhd1,XQ⟩:=h.dN ht1;have hH:Hd δ δ1:=by
        intro r' q v bx k rows hq;by_cases hr:r'=r
        . grind
        . rw[XQ r' hr]at hq;exact⟨rows,(ZP _ r r' q).1 hq⟩
       subst KJ;have f:∀s x,F1' s x->¬R x:=(by intro s x b J;obtain⟨t,c⟩:=K x (.inl ⟨s,b⟩);exact I t x c ((i x).2 (.inr J)));obtain⟨o,F2',B,Fd,U,Z,W,cD,X,nP,OZ,z,g,P⟩:=ih CX KX y (N.trans hH) f E;have hv:v=d.A0:=by
        cases d with
        |lf a u=>
         simp only[Eb]at PD;subst PD;cases L with
         |lf _ _ hl=>obtain⟨lI,k',rows',hl⟩:=hl;obtain⟨O,hq⟩:=N r p v bx k rows CU;simp_all
        |own=>simp at PD
        |agg=>simp at PD
        |BZ=>simp at PD
       have hFf:∀x,Ff x->¬R x:=(by intro x b J;obtain⟨t,c⟩:=K x (.inr b);exact I t x c ((i x).2 (.inr J)));have M:∀x,BN F2' x\/Fd x->¬Ff x:=by
        intro x b C;rcases z x b with⟨s,hs⟩|h2
        . grind
        . simp_all
       refine⟨o,F2',.own v bx k rows::B,λx=>Ff x\/Fd x,U,Z,λs=>(W s).trans (EJ s),⟨Ff,Fd,hD,cD,λx b V=>M x (.inr V) b,λx=>Iff.rfl⟩,?_,?_,?_,?_,g,?_⟩
       . simp only[AAm,GP,X]
       . simp only[AAm,nP,Ma,hv]
       . grind
       . rintro x (b|b|b)
         . rcases z x (.inl b)with h1|h1
           . exact .inl (K x (.inl h1))
           . exact .inr ((i x).2 (.inr h1))
         . exact .inl (K x (.inr b))
         . rcases z x (.inr b)with h1|h1
           . exact .inl (K x (.inl h1))
           . exact .inr ((i x).2 (.inr h1))
       . intro a j;simp only[AAr]at j;rcases j with rfl|j
         . rw[<- GP];simp[GN]
         . exact P a j
     . cases c
   . cases c
  |_=>
   simp only[PD]at c;split at c
   . rename_i hc;split at c
     . rename_i l' τ' E;simp only[AAU,AAj]at c;obtain⟨rfl,rfl⟩:=c;have f:∀s x,Fr s x->¬R x:=λs x b J=>I s x b ((i x).2 (.inr J));obtain⟨o,F2',B,Fd,U,Z,W,cD,X,nP,OZ,z,g,P⟩:=ih h KX y N f E;have M:∀x,BN F2' x\/Fd x->¬Q x:=by
        intro x b C;rcases z x b with⟨s,hs⟩|h2
        . exact I s x hs ((i x).2 (.inl C))
        . exact h12 x C h2
       refine⟨o,F2',d::B,λx=>Q x\/Fd x,U,Z,W,⟨Q,Fd,hd,cD,λx b V=>M x (.inr V) b,λx=>Iff.rfl⟩,?_,?_,?_,?_,g,?_⟩
       . simp only[AAm,PD,X]
       . simp only[AAm,nP]
       . rintro s x b (C|C)
         . exact M x (.inl ⟨s,b⟩) C
         . exact OZ s x b C
       . rintro x (b|b|b)
         . rcases z x (.inl b)with h1|h1
           . exact .inl h1
           . exact .inr ((i x).2 (.inr h1))
         . exact .inr ((i x).2 (.inl b))
         . rcases z x (.inr b)with h1|h1
           . exact .inl h1
           . exact .inr ((i x).2 (.inr h1))
       . intro a j;simp only[AAr]at j;rcases j with rfl|j
         . exact hc
         . exact P a j
     . cases c
   . cases c
end
variable{dst:D3}
section
variable{w w':ja}{S S':iu}{G:Gi}{δ:ji}{Fr:iy}
mutual
def I5:AV->ABu DV
 | .sc v=>if G4 v=true then some (.lf (.sc v) v)else none
 | .own false k []=>some (.own (.slice none 0 0) false k [])
 | .sl x k []=>some (.lf (.sl x k []) (.slice none 0 0))
 | .agg cs=>match Yv cs with
  |some ds=>some (.agg ds)
  |none=>none
 |_=>none
def Yv:List AV->ABu (List DV)
 |[]=>some []
 |a::r=>match I5 a with
  |some d=>match Yv r with
   |some ds=>some (d::ds)
   |none=>none
  |none=>none
end
theorem JT(a:AV):∀D,I5 a=some D->D.er=a/\Ok w S D (λ_=>False)/\Dr δ D/\(∀L,GL L a=true):=by
 refine AV.rec (motive_1:=λa=>∀D,I5 a=some D->D.er=a/\Ok w S D (λ_=>False)/\Dr δ D/\(∀L,GL L a=true)) (motive_2:=λ_=>True)
  (motive_3:=λl=>∀ds,Yv l=some ds->ds.map DV.er=l/\KT w S ds (λ_=>False)/\(∀d∈ds,Dr δ d)/\(∀L,RA L l=true)) ?_ ?_ ?_ ?_ ?_ ?_ ?_ ?_ ?_ ?_ ?_ ?_ ?_ ?_ ?_ ?_ ?_ ?_ a
 . intro v D h;simp only[I5]at h;split at h
   . rename_i B;obtain rfl:=Option.some.inj h;exact⟨ak,.lf _ _ _ ⟨rfl,B⟩ (λ_ h=>h),.lf _ _ trivial,ak⟩
   . cases h
 . intro x k rows _ D h;cases rows with
   |nil=>simp only[I5]at h;obtain rfl:=Option.some.inj h;exact⟨ak,.lf _ _ _ (Fz.nil x k none 0 (λ_=>rfl)) (λ_ h=>h),.lf _ _ trivial,ak⟩
   |cons r rs=>simp[I5]at h
 . intro b k rows _ D h;cases b with
   |true=>simp[I5]at h
   |false=>
    cases rows with
    |nil=>simp only[I5]at h;obtain rfl:=Option.some.inj h;exact⟨ak,.nil k _ (λ_ h=>h),.own _ _ _ _,ak⟩
    |cons r rs=>simp[I5]at h
 . intro n C D h;simp only[I5]at h;split at h
   . rename_i ds c;obtain rfl:=Option.some.inj h;obtain⟨q,e,t,g⟩:=C ds c;refine⟨by simp[q],CN.2 e,.agg _ λi d hd=>t d (List.mem_of_getElem? hd),λL=>by simp only[GL];exact g L⟩
   . cases h
 . intro n _ D h;simp[I5]at h
 . intro r p D h;simp[I5]at h
 . intro r p i j k D h;simp[I5]at h
 . intro n _ D h;simp[I5]at h
 . intro D h;simp[I5]at h
 . intro D h;simp[I5]at h
 . intro f rs D h;simp[I5]at h
 . intro s o I D h;simp[I5]at h
 . intro f E _ D h;simp[I5]at h
 . intro f vs b H D h;simp[I5]at h
 . trivial
 . simp_all
 . intro ds h;simp only[Yv,Option.some.injEq]at h;subst h;exact⟨rfl,λ_ h=>h,ak,λL=>by simp[RA]⟩
 . intro a l u m ds h;simp only[Yv]at h;split at h
   . rename_i d hd;split at h
     . rename_i y c;obtain rfl:=Option.some.inj h;obtain⟨q,e,t,g⟩:=u d hd;obtain⟨F,g2,G,z⟩:=m y c;refine⟨aS,⟨_,_,e,g2,λ_ h=>h.elim,λx=>ak⟩,?_,λL=>by simp[RA,g L,z L]⟩;simp_all
     . cases h
   . cases h
def YO:Ar->Prop
 | .t _=>True
 | .c a=>∃D,I5 a=some D
def DL(δ:ji):Ar->Value
 | .t s=>(δ s).A0
 | .c a=>match I5 a with
  |some D=>D.A0
  |none=>undef
theorem S8{ds:jl}(c:∀a∈ds.map DV.er,GN a=true):∀d∈ds,Dr δ d:=by
 intro d hd;have b:=c d.er (List.mem_map_of_mem hd);cases d with
 |lf a v=>refine .lf a v ?_;simp only[Eb]at b;cases a<;>simp_all [GN,Nz]
 |own=>exact .own _ _ _ _
 |agg cs=>simp[GN]at b
 |BZ cs=>simp[GN]at b
structure Fly (G:Gi) (w:World) (S:Nat->Prop) (δ:Nat->DV) (Fr:Nat->Nat->Prop) (δ':Nat->DV) (F':Nat->Nat->Prop) (D:DV) (Ff:Nat->Prop):Prop where
 st:St G w S δ' F'
 A0:∀s,(δ' s).A0=(δ s).A0
 ok:Ok w S D Ff
 al:Dr δ' D
 NK:∀s x,F' s x->¬Ff x
 own:∀x,BN F' x\/Ff x->BN Fr x
theorem St.tk(h:St G w S δ Fr){x:Ar}{a:AV}(m:YO x)(g:Abs.tk G x (λs=>(δ s).er)=some (a,τ)):
 ∃y F' D Ff,Fly G w S δ Fr y F' D Ff/\(λs=>(y s).er)=τ/\D.er=a/\D.A0=DL δ x:=by
 cases x with
 |c c=>obtain⟨D,L⟩:=m;simp only[Abs.tk,Option.some.injEq,Prod.mk.injEq]at g;obtain⟨rfl,rfl⟩:=g;obtain⟨U,V,h3,_⟩:=JT (w:=w) (S:=S) (δ:=δ) c D L;exact⟨δ,Fr,D,_,⟨h,λ_=>rfl,V,h3,λ_ _ _ h=>h,λx m=>m.elim id False.elim⟩,rfl,U,by simp[DL,L]⟩
 |t s=>
  simp only[Abs.tk]at g;have nO:∀b,(δ s).er=b->DS b=true->∃v,δ s= .lf b v:=by
   intro b C n
   have:=(h.ok s).Lh;cases hd:δ s with
   |lf c v=>simp_all
   |own=>rw[hd]at C;simp at C;subst C;simp[DS]at n
   |agg=>rw[hd]at C;simp at C;subst C;simp[DS]at n
   |BZ=>simp_all
  have N:∀b,(δ s).er=b->DS b=true->∃y F' D Ff,Fly G w S δ Fr y F' D Ff/\(λs=>(y s).er)=(λs=>(δ s).er)/\D.er=b/\D.A0=DL δ (.t s):=by
   intro b C n;obtain⟨v,X⟩:=nO b C n;have z:=h.ok s;rw[X]at z;cases z with
   |lf _ _ _ ha hF=>exact⟨δ,Fr,.lf b v,λ_=>False,⟨h,λ_=>rfl,.lf _ _ _ ha (λ_ h=>h),X▸h.al s,λ_ _ _ h=>h,λx m=>m.elim id False.elim⟩,rfl,ak,by simp[DL,X]⟩
  cases hs:(δ s).er with
  |al r p=>
   simp only[hs]at g;obtain⟨δ1,F1,D,Ff,J,KJ,EJ,L,GP,⟨v,bx,k,rows,rfl⟩,O,P,Eu,bM,XQ⟩:=h.dN g;refine⟨δ1,F1,_,Ff,⟨J,EJ,L,.own _ _ _ _,P,Eu⟩,KJ,GP,?_⟩;obtain⟨u,hu⟩:=nO _ hs rfl;have G9:=h.al s;rw[hu]at G9;cases G9 with
   |lf _ _ n=>obtain⟨lI,k',Z,n⟩:=n;rw[n]at O;simp only[Option.some.injEq,DV.own.injEq]at O;simp[DL,hu,O.1]
  |own b k rows=>
   simp only[hs,Option.some.injEq,Prod.mk.injEq]at g;obtain⟨rfl,rfl⟩:=g;have J:=h.empty s;refine⟨_,_,δ s,Fr s,⟨J,?_,h.ok s,?_,?_,?_⟩,by rw[JC h];simp,hs,rfl⟩
   . intro t;rw[Ih h];simp_all
   . have:=(h.ok s).Lh;cases hd:δ s with
     |own=>exact .own _ _ _ _
     |lf c v=>rw[hd]at hs this;cases this with|lf _ _ n=>simp at hs;subst hs;simp[DS]at n
     |agg=>simp_all
     |BZ=>simp_all
   . intro t x m W;by_cases e:t=s
     . subst e;rw[BW]at m;exact m
     . rw[Br _ _ e]at m;exact e (h.NK t s x m W)
   . rintro x (⟨t,m⟩|m)
     . by_cases e:t=s
       . subst e;rw[BW]at m;grind
       . rw[Br _ _ e]at m;grind
     grind
  |agg cs=>
   simp only[hs]at g;obtain⟨ds,H,T⟩:∃ds,δ s= .agg ds/\ds.map DV.er=cs:=by
    have:=(h.ok s).Lh;cases hd:δ s with
    |agg ds=>simp_all
    |lf c v=>rw[hd]at hs this;cases this with|lf _ _ n=>simp at hs;subst hs;simp[DS]at n
    |own=>simp_all
    |BZ=>simp_all
   split at g
   . rename_i I;simp only[Option.some.injEq,Prod.mk.injEq]at g;obtain⟨rfl,rfl⟩:=g;have z:=h.ok s;rw[H]at z
     -- nothing is owned
     have B:KT w S ds (λ_=>False):=by
      have E:=CN.1 z;clear z H;rw[<- T]at I;clear T hs;generalize Fr s=F at E;induction ds generalizing F with
      |nil=>exactλ_ h=>h
      |cons d ds ih=>
       obtain⟨F1,Q,U,V,_,_⟩:=E;simp only[List.map_cons,List.all_cons,Bool.and_eq_true]at I;refine⟨λ_=>False,λ_=>False,?_,ih I.2 Q V,λ_ h=>h.elim,λx=>ak⟩;cases U with
       |lf a v _ ha hF=>exact .lf a v _ ha (λ_ h=>h)
       |nil=>simp[IM]at I
       |own=>simp[IM]at I
       |agg=>simp[IM]at I
       |BZ=>simp[IM]at I
     exact⟨δ,Fr,.agg ds,λ_=>False,⟨h,λ_=>rfl,CN.2 B,H▸h.al s,λ_ _ _ h=>h,λx m=>m.elim id False.elim⟩,rfl,by simp[T],by simp[DL,H]⟩
   . split at g
     . rename_i l τ' htl;simp only[Option.some.injEq,Prod.mk.injEq]at g;obtain⟨rfl,rfl⟩:=g;have J:=h.empty s;have z:=h.ok s;rw[H]at z;have K:∀d∈ds,Dr δ d:=by
        have:=h.al s;rw[H]at this;cases this with
        |agg _ hr=>intro d hd;obtain⟨i,hi⟩:=List.getElem?_of_mem hd;grind
       have hH:Hd δ (Dn (ID G s δ) s (.lf .dead (δ s).A0)):=by
        intro r q v bx k rows M;by_cases e:r=s
        . subst e;rw[BW]at M;cases q<;>simp[Ax]at M
        . rw[Br _ _ e]at M;exact⟨rows,Ux s r q M⟩
       have P:∀t x,(Dn Fr s λ_=>False) t x->¬Fr s x:=by
        intro t x m W;by_cases e:t=s
        . subst e;rw[BW]at m;exact m
        . rw[Br _ _ e]at m;exact e (h.NK t s x m W)
       have herr:(λt=>(Dn (ID G s δ) s (.lf .dead (δ s).A0) t).er)=Dn (KY G s λs=>(δ s).er) s .dead:=(by rw[JC h];simp);obtain⟨δ2,Q,Sp,Ff,LA,TY,Nb,cD,SH,nP,OZ,LG,_,B2⟩:=J.qQ ds (CN.1 z) K hH P (l:=l) (τ:=τ') am;refine⟨δ2,Q,.agg Sp,Ff,⟨LA,?_,CN.2 cD,.agg _ λi d hd=> ?_,OZ,?_⟩,TY,by simp[SH],by simp[DL,H,nP]⟩
       . intro t;rw[Nb,Ih h];simp_all
       . exact S8 am d (List.mem_of_getElem? hd)
       . intro x m;rcases LG x m with⟨t,R⟩|R
         . by_cases e:t=s
           . subst e;rw[BW]at R;simp_all
           . rw[Br _ _ e]at R;grind
         grind
     . cases g
  |sc v=>simp only[hs,Option.some.injEq,Prod.mk.injEq]at g;obtain⟨rfl,rfl⟩:=g;exact N _ hs rfl
  |sl e k rows=>simp only[hs,Option.some.injEq,Prod.mk.injEq]at g;obtain⟨rfl,rfl⟩:=g;exact N _ hs rfl
  |Lm r p i j k=>simp only[hs,Option.some.injEq,Prod.mk.injEq]at g;obtain⟨rfl,rfl⟩:=g;exact N _ hs rfl
  |fp cs=>simp only[hs,Option.some.injEq,Prod.mk.injEq]at g;obtain⟨rfl,rfl⟩:=g;exact N _ hs rfl
  |BZ cs=>simp_all
  |dead=>simp_all
  |un=>simp_all
  |cl f rs=>simp_all
  |vb s o us=>simp_all
  |YA f Mk=>simp_all
  |cb=>simp_all
theorem St.SA(h:St G w S δ Fr){a:AV}(g:Abs.SA G k p (λs=>(δ s).er)=some (a,τ)):
 ∃(f:ji)(F':iy)(c:iu)(v:jn)(bx:Bool)(r:Nat)(rows:jd),St G w (λx=>S x\/c x) f F'/\(λs=>(f s).er)=τ/\(∀s,(f s).A0=(δ s).A0)/\Ax (δ k) p=some (.own v bx r rows)/\Fz w (λx=>S x\/c x) a v/\
  a=KI (DV.own v bx r rows).er/\(∀s x,F' s x->¬c x)/\(∀x,BN F' x\/c x->BN Fr x)/\Hd δ f:=by
 unfold Abs.SA at g;split at g
 . rename_i b r rows U;split at g
   . rename_i t hp;simp only[Option.some.injEq,Prod.mk.injEq]at g;obtain⟨rfl,rfl⟩:=g;obtain⟨D,C,l⟩:=ED (h.ok k).Lh U;obtain⟨c,E,H,N⟩:=h.replace k p C;have J:∃v bx r rows,D= .own v bx r rows:=by
      have:=E.Lh;cases D with
      |own v bx r rows=>simp_all
      |lf a v=>cases this with|lf _ _ hl=>simp at l;subst l;simp[DS]at hl
      |agg cs=>simp at l
      |BZ cs=>simp at l
     obtain⟨v,bx,V,K,rfl⟩:=J;have y:Fz w (λx=>S x\/c x) (KI (.own b r rows)) v:=(by have:=E.freeze;rw[l]at this;simpa using this);have n:Ok w (λx=>S x\/c x) (.lf (KI (.own b r rows)) v) (λ_=>False):=by
      refine .lf _ _ _ ?_ (λ_ h=>h);cases b with
      |true=>simp only[wR];trivial
      |false=>simp only[PB]at y |-;exact y
     obtain⟨W,F',o,I,Z,X⟩:=N (λx=>S x\/c x) (.lf (KI (.own b r rows)) v) ak n (λ_ h=>.inl h)
      (λt O T M R=>R.elim ((h.ok t).FQ O T) M) (by intro L;cases b<;>simp) (.lf _ _ (by cases b<;>simp[Nz]))
     have z:W.er=t:=(by obtain⟨t',B,P⟩:=Ht (d:=δ k) (p:=p) (a:=t) (.lf (KI (.own b r rows)) v) (h.ok k).Lh am;rw[o]at B;obtain rfl:=Option.some.inj B;exact P);refine⟨_,_,c,v,bx,V,K,I,by rw[JC h,z],?_,C,y,by rw[l],?_,?_,?_⟩
     . intro s;rw[Ih h];simp_all
     . intro s x i Q;by_cases m:s=k
       . subst m;rw[BW]at i;simp_all
       . rw[Br _ _ m]at i;exact m (h.NK s k x i (H x Q))
     . rintro x (⟨s,i⟩|i)
       . by_cases m:s=k
         . subst m;rw[BW]at i;grind
         . rw[Br _ _ m]at i;grind
       grind
     . intro F q v' lI k' j u;by_cases e:F=k
       . subst e;rw[BW]at u;exact Wn p o q u
       . rw[Br _ _ e]at u;exact⟨j,Ux k F q u⟩
   . cases g
 . cases g
theorem St.wr(h:St G w S δ Fr)(g:dst.kl=G.Pm dst.d)(i:dst.rs=G.HA dst.d)(r:∀b,S b->w'.heap[b]? =w.heap[b]?)(p:∀s x,Fr s x->w'.heap[x]? =w.heap[x]?)(m:∀b,S b->S' b)(n:∀s x,Fr s x->¬S' x)(o:Ok w' S' D Ff)(j:∀s x,Fr s x->¬Ff x)(k:Dr δ D)(c:Abs.wr dst D.er (λs=>(δ s).er)=some σ'):
 ∃a F',St G w' S' a F'/\(λs=>(a s).er)=σ'/\(∀s,(a s).A0=if s=dst.d then D.A0 else(δ s).A0)/\(∀x,BN F' x->BN Fr x\/Ff x):=by
 unfold Abs.wr at c;split at c
 . rename_i q;simp only[Option.some.injEq]at c;subst c;refine⟨_,_,h.set dst.d D Ff r (λs _=>p s) m (λs _=>n s) o (λs _ x f l=>j s x l f) (i▸q) k,?_,λs=>Ih h dst.d D s,?_⟩
   . rw[JC h,g,kills_eq]
   . rintro x ⟨s,f⟩;by_cases e:s=dst.d
     . subst e;rw[BW]at f;grind
     . rw[Br _ _ e]at f;grind
 grind
end
variable{x:ki}{a:Act}{t:jo}{B C:Type}
section
variable{w w':ja}{S S':iu}{G:Gi}{δ:ji}{Fr:iy}{P:iz}
def xR:Value->Value->Bool
 | .bool a,.bool b=>a==b
 | .int k a,.int k' b=>decide (k=k')&&decide (a=b)
 | .string a,.string b=>decide (a.data=b.data)
 | .pointer none,.pointer none=>true
 | .slice none 0 0,.slice none 0 0=>true
 | .nilFunc,.nilFunc=>true
 | .nilIface,.nilIface=>true
 |_,_=>false
def VR:List Value->List Value->Bool
 |[],[]=>true
 |a::l,b::r=>xR a b&&VR l r
 |_,_=>false
def xS:Value->Value->Bool
 | .agg a,.agg b=>VR a.toList b.toList
 |a,b=>xR a b
theorem pL(h:xR v u=true):v=u:=by unfold xR at h;split at h<;>simp_all;rename_i x y;cases x;simp_all
theorem RE:∀{a b:jj},VR a b=true->a=b
 |[],[],_=>rfl
 |[],_::_,h=>by simp[VR]at h
 |_::_,[],h=>by simp[VR]at h
 |a::l,b::r,h=>by simp only[VR,AAT]at h;rw[pL h.1,RE h.2]
theorem pO(h:xS v u=true):v=u:=by
 unfold xS at h;split at h
 . rename_i x y;have:=RE h;simp_all
 . exact pL h
def Cc(x:ki)(y:Ar):Bool:=
 match x,y with
 | .tmp s,.t s'=>s==s'
 | .const v,.c a=>match I5 a with
  |some D=>xS v D.A0
  |none=>false
 | .func f,.c a=>match a with
  | .sc (.func (.func g) vs us)=>f==g&&vs.isEmpty&&us.isEmpty
  |_=>false
 |_,_=>false
def Rd(δ:ji)(a:Act):Prop:=∀s,a.tmps.getD s undef=(δ s).A0
theorem Aq(h:Cc x y=true)(d:Rd δ a):YO y/\a.eval x=DL δ y:=by
 unfold Cc at h;split at h
 . simp only[AAh]at h;subst h;exact⟨trivial,d _⟩
 . rename_i v c;split at h
   . rename_i D b;exact⟨⟨D,b⟩,by simp[Act.eval,DL,b,pO h]⟩
   . cases h
 . rename_i f c;split at h
   . rename_i g vs e;simp only[AAT,AAh,Array.isEmpty_iff]at h;obtain⟨⟨rfl,rfl⟩,rfl⟩:=h;exact⟨⟨_,rfl⟩,rfl⟩
   . cases h
 . cases h
def Gk:List Operand->List Ar->Bool
 |[],[]=>true
 |x::l,y::r=>Cc x y&&Gk l r
 |_,_=>false
def UC:ABu Operand->ABu Ar->Bool
 |none,none=>true
 |some x,some y=>Cc x y
 |_,_=>false
def HI(P:iz)(t:jo):ABu Nat:=(P.info? t).map (·.size)
def KL(P:iz)(t:jo):ABu Bool:=(P.underlying t).map λ| .struct _=>true| .array _ _=>true|_=>false
theorem run_sizeOf(h:HI P t=some n)(w:ja):(sizeOf t).run P w= .ok n w:=by
 unfold HI at h;cases hi:P.info? t with
 |none=>simp_all
 |some i=>simp only[hi,AA1,AAU]at h;simp[sizeOf,typeInfo,hi,h]
theorem Rr(h:KL P t=some bx)(w:ja):(isAgg t).run P w= .ok bx w:=by
 unfold KL at h;cases hi:P.underlying t with
 |none=>simp_all
 |some d=>simp only[hi,AA1,AAU]at h;cases d<;>simp_all [isAgg,underlying]
theorem JP(t:DV)(p q:i4):Ax t (p++q)=(Ax t p).bind (Ax · q):=by
 induction p generalizing t with
 |nil=>simp[Ax]
 |cons s p ih=>
  obtain⟨i,j,k⟩:=s;cases t with
  |lf a v=>simp[Ax]
  |own h b k1 rows=>
   simp only[ABE,Ax];cases rows[i]? with
   |none=>rfl
   |some row=>simp only[];cases row[j]? with
    |none=>rfl
    |some c=>exact ih c
  |agg cs=>simp only[ABE,Ax];cases cs[j]? with
   |none=>rfl
   |some c=>exact ih c
  |BZ cs=>simp only[ABE,Ax];cases cs[j]? with
   |none=>rfl
   |some c=>exact ih c
theorem gG(r:Nat)(p:i4)(l:i5)(i n:Nat):(RL r p i l)[n]? =(l[n]?).map (view r (p++[(0,i+n,0)])):=by
 induction l generalizing i n with
 |nil=>simp[RL]
 |cons c cs ih=>
  cases n with
  |zero=>simp[RL]
  |succ n=>simp only[RL,ABN,ih,Nat.add_assoc,Nat.add_comm 1 n]
theorem CZ(h:∀d∈row,Ok w S d (λ_=>False)):KT w S row (λ_=>False):=by
 induction row with
 |nil=>exactλ_ h=>h
 |cons d row ih=>exact⟨_,_,h d ak,ih (λe a=>h e (by simp[a])),λ_ h=>h.elim,λx=>ak⟩
theorem MU(a:List α)(d:Nat->α->B->Prop)(h:∀i c,a[i]? =some c->∃D,d i c D):∃b:List B,b.length=a.length/\∀i c,a[i]? =some c->∃D,b[i]? =some D/\d i c D:=by
 induction a generalizing d with
 |nil=>simp_all
 |cons c a ih=>obtain⟨D,k⟩:=h 0 c rfl;obtain⟨b,g,j⟩:=ih (λi=>d (i+1)) (λi c' l=>h (i+1) c' am);refine⟨D::b,by simp[g],?_⟩;grind
theorem mem_mk{a:List α}{b:List B}{e:Nat->α->B->Prop}(j:b.length=a.length)(h:∀i c,a[i]? =some c->∃D,b[i]? =some D/\e i c D)(i:Nat)(D:B)(g:b[i]? =some D):∃c,a[i]? =some c/\e i c D:=by
 have hi:i<a.length:=by rw[<- j];exact(AAV.1 g).1
 obtain⟨k,l,m⟩:=h i a[i] (AAZ hi);simp_all
theorem map_mk{a:List α}{b:List B}{e:Nat->α->B->Prop}(p:b.length=a.length)(h:∀i c,a[i]? =some c->∃D,b[i]? =some D/\e i c D)(f:B->C)(l:List C)(k:l.length=a.length)(o:∀i c D,e i c D->a[i]? =some c->l[i]? =some (f D)):b.map f=l:=by
 apply ABj;intro i;by_cases hi:i<a.length
 . obtain⟨D,m,n⟩:=h i a[i] (AAZ hi);grind
 simp_all
theorem Vd(r:Nat)(p:i4)(l:i5)(i:Nat):(RL r p i l).length=l.length:=by
 induction l generalizing i with
 |nil=>simp[RL]
 |cons c cs ih=>simp[RL,ih]
theorem viewD(r:Nat)(h:Ok w S d F):∀(p:i4),Ax (δ r) p=some d->Dr δ d->
 ∃D,D.er=view r p d.er/\D.A0=d.A0/\Ok w S D (λ_=>False)/\Dr δ D:=by
 induction h with
 |lf a v F ha hF=>intro p l f;have g:=ha.DS;refine⟨.lf a v,?_,rfl,.lf a v _ ha (λ_ h=>h),f⟩;cases a<;>simp_all [view,DS]
 |nil k F hF=>intro p l f;exact⟨.lf (.al r p) (.slice none 0 0),by simp[view],ak,.lf _ _ _ trivial (λ_ h=>h),.lf _ _ ⟨_,_,_,l⟩⟩
 |own bx k rows b c arr E Fs F hb hk Ee Md hv hr hd B0 LR hF ih=>intro p l f;exact⟨.lf (.al r p) (KW bx b rows.length c),by simp[view],ak,.lf _ _ _ trivial (λ_ h=>h),.lf _ _ ⟨_,_,_,l⟩⟩
 |agg cs Fs F hr hd B0 hF ih=>
  intro p l f;cases f with
  |agg _ f=>
   obtain⟨o,g,j⟩:=MU cs (λi t D=>D.er=view r (p++[(0,i,0)]) t.er/\D.A0=t.A0/\Ok w S D (λ_=>False)/\Dr δ D)
    (λi t hd=>ih i t hd _ (by rw[JP,l];simp[Ax,hd]) (f i t hd))
   refine⟨.agg o,?_,?_,CN.2 (CZ λD m=> ?_),.agg _ λi D m=> ?_⟩
   . simp only[Iy,view,AV.agg.injEq];refine map_mk g j _ _ (by simp[Vd]) λi c D e n=> ?_;rw[gG,AAf,n];grind
   . simp only[MZ];congr 2;exact map_mk g j _ _ ak λi c D e n=>am
   . obtain⟨i,hi⟩:=AAs m;obtain⟨c,_,e⟩:=mem_mk g j i D hi;simp_all
   . obtain⟨c,_,e⟩:=mem_mk g j i D m;simp_all
 |BZ cs Fs F hr hd B0 hF ih=>
  intro p l f;cases f with
  |BZ _ f=>
   obtain⟨o,g,j⟩:=MU cs (λi t D=>D.er=view r (p++[(0,i,0)]) t.er/\D.A0=t.A0/\Ok w S D (λ_=>False)/\Dr δ D)
    (λi t hd=>ih i t hd _ (by rw[JP,l];simp[Ax,hd]) (f i t hd))
   refine⟨.BZ o,?_,?_,BK.2 (CZ λD m=> ?_),.BZ _ λi D m=> ?_⟩
   . simp only[LP,view,AV.BZ.injEq];refine map_mk g j _ _ (by simp[Vd]) λi c D e n=> ?_;rw[gG,AAf,n];grind
   . simp only[Oz];congr 2;exact map_mk g j _ _ ak λi c D e n=>am
   . obtain⟨i,hi⟩:=AAs m;obtain⟨c,_,e⟩:=mem_mk g j i D hi;simp_all
   . obtain⟨c,_,e⟩:=mem_mk g j i D m;simp_all
theorem lD(r:Nat)(p:i4)(i k j:Nat)(l:i5):(RK r p i k j l).length=l.length:=by
 induction l generalizing j with
 |nil=>simp[RK]
 |cons c cs ih=>simp[RK,ih]
theorem viewC_get(r:Nat)(p:i4)(i k j n:Nat)(l:i5):(RK r p i k j l)[n]? =(l[n]?).map (vC r p i (j+n) k):=by
 induction l generalizing j n with
 |nil=>simp[RK]
 |cons c cs ih=>
  cases n with
  |zero=>simp[RK]
  |succ n=>simp only[RK,ABN,ih,Nat.add_assoc,Nat.add_comm 1 n]
theorem lE(s j:Nat)(l:i5):(Nv s j l).length=l.length:=by
 induction l generalizing j with
 |nil=>simp[Nv]
 |cons c cs ih=>simp[Nv,ih]
theorem viewF_get(s j n:Nat)(l:i5):(Nv s j l)[n]? =(l[n]?).map (vF s (j+n)):=by
 induction l generalizing j n with
 |nil=>simp[Nv]
 |cons c cs ih=>
  cases n with
  |zero=>simp[Nv]
  |succ n=>simp only[Nv,ABN,ih,Nat.add_assoc,Nat.add_comm 1 n]
end
variable{vs:jj}
section
variable{w w':ja}{S S':iu}{G:Gi}{δ:ji}{Fr:iy}{P:iz}
def Lf(w:ja)(S:iu)(δ:ji)(a:AV)(v:jn):Prop:=∃D:DV,D.er=a/\D.A0=v/\Ok w S D (λ_=>False)/\Dr δ D
theorem Lf.sc(v:jn)(h:G4 v=true):Lf w S δ (.sc v) v:=⟨.lf (.sc v) v,ak,ak,.lf _ _ _ ⟨rfl,h⟩ (λ_ h=>h),.lf _ _ trivial⟩
theorem Lf.al{r:Nat}(h:Ax (δ r) p=some (.own v bx k rows)):Lf w S δ (.al r p) v:=
 ⟨.lf (.al r p) v,ak,ak,.lf _ _ _ trivial (λ_ h=>h),.lf _ _ ⟨_,_,_,h⟩⟩
theorem Lf.Lm(h:Ax (δ n) p=some (.own v bx k rows))(a:US v=some b):Lf w S δ (.Lm n p i off k) (.pointer (some ⟨b,i*k+off,none⟩)):=
 ⟨.lf (.Lm n p i off k) _,ak,ak,.lf _ _ _ trivial (λ_ h=>h),.lf _ _ ⟨_,_,_,_,h,a,rfl⟩⟩
theorem Lf.fp(d:S b)(h:∀(j:Nat) a,f[j]? =some a->∃u,w.cell? ⟨b,off+j,none⟩=some u/\Fz w S a u):Lf w S δ (.fp f) (.pointer (some ⟨b,off,none⟩)):=
 ⟨.lf (.fp f) _,ak,ak,.lf _ _ _ ⟨b,off,rfl,d,h⟩ (λ_ h=>h),.lf _ _ trivial⟩
theorem St.leaf(h:St G w S δ Fr){s:Nat}{a:AV}(c:(δ s).er=a)(d:DS a=true):δ s= .lf a (δ s).A0/\Hh w S a (δ s).A0/\Nz δ a (δ s).A0:=by
 have e:=h.ok s;have f:=h.al s;cases hd:δ s with
 |lf b v=>
  rw[hd]at c e f;simp only[Eb]at c;subst c;cases e with
  |lf _ _ _ ha _=>cases f with|lf _ _ d=>simp_all
 |own=>rw[hd]at c;simp at c;subst c;simp[DS]at d
 |agg=>rw[hd]at c;simp at c;subst c;simp[DS]at d
 |BZ=>rw[hd]at c;simp at c;subst c;simp[DS]at d
theorem St.FV(h:St G w S δ Fr)(g:YO y)(d:ar (λs=>(δ s).er) y= .sc v):DL δ y=v/\G4 v=true:=by
 cases y with
 |t s=>obtain⟨_,e,_⟩:=h.leaf (s:=s) d rfl;exact⟨e.1,e.2⟩
 |c a=>
  obtain⟨D,b⟩:=g;simp only[ar]at d;subst d;simp only[I5]at b;split at b
  . rename_i f;obtain rfl:=AAW b;exact⟨by simp[DL,I5,f],f⟩
  . cases b
theorem O1{a:AV}{n:Int}(h:rL a=some n):∃k,a= .sc (.int k n):=by unfold rL at h;grind
theorem St.node(h:St G w S δ Fr)(g:(δ n).er= .al b p){rows:i6}(hn:sub (δ b).er p=some (.own bx k rows)):
 ∃a F,Ax (δ b) p=some (.own (δ n).A0 bx k a)/\a.map (·.map DV.er)=rows/\Ok w S (.own (δ n).A0 bx k a) F:=by
 obtain⟨_,_,f⟩:=h.leaf g rfl;obtain⟨m,l,r,e⟩:=f;obtain⟨D,d,c⟩:=ED (h.ok b).Lh hn;rw[e]at d;obtain rfl:=AAW d;simp only[FO,AV.own.injEq]at c;obtain⟨rfl,rfl,i⟩:=c;obtain⟨F,j,_⟩:=(h.ok b).Ax e;grind
theorem St.Za(h:St G w S δ Fr){rows:i6}(a:(δ n).er= .own bx k rows):
 ∃c,δ n= .own (δ n).A0 bx k c/\c.map (·.map DV.er)=rows:=by
 have:=(h.ok n).Lh;cases hd:δ n with
 |own v b k' rows'=>simp_all
 |lf b v=>rw[hd]at a this;cases this with|lf _ _ hl=>simp at a;subst a;simp[DS]at hl
 |agg=>simp_all
 |BZ=>simp_all
theorem St.ER(h:St G w S δ Fr)(a:Abs.ER (λn=>(δ n).er) (.t n)=some (b,p,i,off,k)):
 ∃v bx d r F,Ax (δ b) p=some (.own v bx k d)/\US v=some r/\(δ n).A0= .pointer (some ⟨r,i*k+off,none⟩)/\Ok w S (.own v bx k d) F/\(∀x,F x->Fr b x):=by
 simp only[Abs.ER]at a;cases hs:(δ n).er with
 |Lm r' p' i' j' o=>simp only[hs,AAU,AAj]at a;obtain⟨rfl,rfl,rfl,rfl,rfl⟩:=a;obtain⟨_,_,u⟩:=h.leaf hs rfl;obtain⟨v,bx,rows,r,e,f,C⟩:=u;obtain⟨F,s,l⟩:=(h.ok _).Ax e;grind
 |own bx o rows=>
  cases bx with
  |false=>simp_all
  |true=>
   simp only[hs,AAU,AAj]at a;obtain⟨rfl,rfl,rfl,rfl,rfl⟩:=a;obtain⟨d,hd,_⟩:=h.Za hs;have m:=h.ok n;rw[hd]at m;generalize z:(δ n).A0=v at*;cases m with
   |own _ _ _ r c arr E Fs _ f hk Ee Md tW hr ON B0 LR s=>exact⟨KW true r d.length c,true,d,r,Fr n,by simp[Ax,hd],ak,by simp[KW],by rw[<- hd];exact h.ok n,λx B=>B⟩
 |al r' p'=>
  simp only[hs]at a;split at a
  . rename_i o g hn;simp only[AAU,AAj]at a;obtain⟨rfl,rfl,rfl,rfl,rfl⟩:=a;obtain⟨d,F,e,_,s⟩:=h.node hs hn;obtain⟨q,y,l⟩:=(h.ok _).Ax e;generalize z:(δ n).A0=v at*;cases y with
    |own _ _ _ r c arr E Fs _ f hk Ee Md tW hr ON B0 LR Y6=>exact⟨KW true r d.length c,true,d,r,q,e,ak,by simp[KW],.own true _ _ r c arr E Fs _ f hk Ee Md tW hr ON B0 LR Y6,l⟩
  . cases a
 |_=>simp_all
theorem MC(hn:HI P t=some n)(c:KL P t=some bx)(e:bx=true\/n=1)(d:vs.length=n)(f:∀(j:Nat) v,vs[j]? =some v->w.cell? ⟨b,off+j,none⟩=some v):
 (loadVar t ⟨b,off,none⟩).run P w= .ok (if bx=true then .agg vs.toArray else vs.headD undef) w:=by
 cases bx with
 |true=>have:=run_loadCells_list (P:=P) w ⟨b,off,none⟩ vs (λj v h=>by rw[Addr.add_lit];simp_all);rw[d]at this;simp[loadVar,Rr c,run_sizeOf hn,this]
 |false=>
  obtain rfl:=e.resolve_left ak
  match vs,d with
  |[v],_=>have a:=f 0 v rfl;simp only[Nat.add_zero]at a;simp[loadVar,Rr c,a]
theorem gather{v:AV}(a:I0 bx n f=some v)(b:jl)(e:b.map DV.er=f)(g:∀D∈b,Ok w S D (λ_=>False))(h:∀D∈b,Dr δ D):
 f.length=n/\Lf w S δ v (if bx=true then .agg (b.map DV.A0).toArray else(b.map DV.A0).headD undef):=by
 unfold I0 at a;split at a
 . rename_i hn;refine⟨hn,?_⟩;cases bx with
   |true=>simp only[AAy,AAU]at a;subst a;exact⟨.agg b,by simp[e],ak,CN.2 (CZ g),.agg _ λi d hd=>h d (AAg hd)⟩
   |false=>
    simp only[AAd,AAk]at a;split at a
    . rename_i c;simp only[AAU]at a;subst a
      match b,e with
      |[D],e=>simp only[AAm,AA2,ABt,and_true]at e;exact⟨D,e,ak,g D ak,h D ak⟩
    . cases a
 . cases a
theorem Y1{a:AV}(h:Fz w S a v):∃D:DV,D.er=KN a/\D.A0=v/\Ok w S D (λ_=>False)/\Dr δ D:=by
 cases h with
 |sc v hp=>exact⟨.lf (.sc v) v,by simp[KN],ak,.lf _ _ _ ⟨rfl,hp⟩ (λ_ h=>h),.lf _ _ trivial⟩
 |nil x k a c hx=>exact⟨.lf (.sl x k []) _,by simp[KN],ak,.lf _ _ _ (Fz.nil x k a c hx) (λ_ h=>h),.lf _ _ trivial⟩
 |sl x k rows b off c vs hx SE hS hk hc hr=>exact⟨.lf (.sl x k rows) _,by simp[KN],ak,.lf _ _ _ (Fz.sl x k rows b off c vs hx SE hS hk hc hr) (λ_ h=>h),.lf _ _ trivial⟩
 |dead=>exact⟨.lf .dead v,by simp[KN],ak,.lf _ _ _ trivial (λ_ h=>h),.lf _ _ trivial⟩
 |agg cs vs=>exact⟨.lf .dead _,by simp[KN],rfl,.lf _ _ _ trivial (λ_ h=>h),.lf _ _ trivial⟩
 |BZ cs vs=>exact⟨.lf .dead _,by simp[KN],rfl,.lf _ _ _ trivial (λ_ h=>h),.lf _ _ trivial⟩
end
variable{o:Oper}{m s:ki}{j r:Ar}
section
variable{w w':ja}{S S':iu}{G:Gi}{δ:ji}{Fr:iy}{P:iz}
def Gives(P:iz)(w:ja)(S:iu)(δ:ji)(a:Act)(o:Oper)(v:AV):Prop:=
 ∃u,(execOp a.eval o).run P w= .ok (.value u) w/\Lf w S δ v u
theorem UP(h:St G w S δ Fr)(k:Rd δ a)(b:o.op= .move x\/o.op= .assign x)(l:Cc x y=true){v:AV}(d:valOf (.cp y) (λs=>(δ s).er)=some v):Gives P w S δ a o v:=by
 obtain⟨n,m⟩:=Aq l k;refine⟨DL δ y,by rcases b with b|b<;>simp[execOp,b,m],?_⟩;cases y with
 |t s=>simp only[valOf,AAU]at d;subst d;obtain⟨D,e,f,g,j⟩:=viewD (δ:=δ) s (h.ok s) [] (by simp[Ax]) (h.al s);exact⟨D,e,f,g,j⟩
 |c c=>simp only[valOf,AAU]at d;subst d;obtain⟨D,i⟩:=n;obtain⟨e,f,g,_⟩:=JT (w:=w) (S:=S) (δ:=δ) c D i;exact⟨D,e,by simp[DL,i],f,g⟩
theorem sZ(h:St G w S δ Fr)(e:Rd δ a)(i:o.op= .pick m x s)(n:Cc m y=true)(t:Cc x j=true)(z:Cc s r=true){v:AV}(d:valOf (.pick y j r) (λc'=>(δ c').er)=some v):Gives P w S δ a o v:=by
 obtain⟨C,g⟩:=Aq n e;obtain⟨k,p⟩:=Aq t e;obtain⟨l,q⟩:=Aq z e;simp only[valOf]at d;split at d
 . rename_i b B;obtain⟨f,_⟩:=h.FV C B;split at d
   . rename_i u c;simp only[AAU]at d;subst d;refine⟨u,?_,?_⟩
     . cases b with
       |true=>have:=(h.FV k (by simpa using c)).1;simp[execOp,i,g,f,asBool,p,this]
       |false=>have:=(h.FV l (by simpa using c)).1;simp[execOp,i,g,f,asBool,q,this]
     . cases b with
       |true=>exact Lf.sc u (h.FV k am).2
       |false=>exact Lf.sc u (h.FV l am).2
   . cases d
 . cases d
theorem uI(h:Ok w S (.own v bx k rows) F)(C:Ax (δ n) p=some (.own v bx k rows))(B:US v=some b)(hi:rows[i]? =some row)(j r:Nat):
 ∃l:List DV,l.map DV.er=RK n p i k j (((row.map DV.er).drop j).take r)/\(∀D∈l,Ok w S D (λ_=>False))/\(∀D∈l,Dr δ D)/\(∀(m:Nat) u,(l.map DV.A0)[m]? =some u->w.cell? ⟨b,i*k+j+m,none⟩=some u):=by
 generalize z:v=v' at h;cases h with
 |nil=>simp at hi
 |own _ _ _ b' c arr E Fs _ hbb hk Ee Md hv hr hd B0 LR hF=>
  subst z;simp only[Y8,AAU]at B;subst B;obtain⟨l,f,s⟩:=MU ((row.drop j).take r) (λm d D=>D.er=vC n p i (j+m) k d.er/\D.A0=d.A0/\Ok w S D (λ_=>False)/\Dr δ D/\w.cell? ⟨b',i*k+j+m,none⟩=some D.A0) (by
   intro m d o;have t:row[j+m]? =some d:=by
    rw[ABe]at o;split at o
    . simpa using o
    . cases o
   have H:=hr i (j+m) row d hi t;have g:w.cell? ⟨b',i*k+j+m,none⟩=some d.A0:=by
    simp only[World.cell?,hbb]
    have:=hv i (j+m) row d hi t;rw[show i*k+j+m=i*k+(j+m)from by omega];simpa using this
   cases H with
   |lf a v _ ha tF=>
    have f:=ha.DS;cases a with
    |sc u=>exact⟨.lf (.sc u) v,by simp[vC],ak,.lf _ _ _ ha (λ_ h=>h),.lf _ _ trivial,g⟩
    |sl x k' rows'=>exact⟨.lf (.sl x k' rows') v,by simp[vC],ak,.lf _ _ _ ha (λ_ h=>h),.lf _ _ trivial,g⟩
    |own=>simp[DS]at f
    |agg=>simp[DS]at f
    |BZ=>simp[DS]at f
    |_=>exact⟨.lf .dead v,by simp[vC],ak,.lf _ _ _ trivial (λ_ h=>h),.lf _ _ trivial,by simpa using g⟩
   |nil k' _ tF=>exact⟨.lf (.al n (p++[(i,j+m,k)])) (.slice none 0 0),by simp[vC],ak,.lf _ _ _ trivial (λ_ h=>h),.lf _ _ ⟨false,k',[],by rw[JP,C];simp[Ax,hi,t]⟩,by simpa using g⟩
   |own lI k' rows' b'' c' arr' E' Fs' _ g1 g2 g3 g4 g5 g6 g7 g8 g9 g10=>exact⟨.lf (.al n (p++[(i,j+m,k)])) (KW lI b'' rows'.length c'),by simp[vC],ak,.lf _ _ _ trivial (λ_ h=>h),.lf _ _ ⟨lI,k',rows',by rw[JP,C];simp[Ax,hi,t]⟩,by simpa using g⟩
   |agg cs=>exact⟨.lf .dead (.agg (cs.map DV.A0).toArray),by simp[vC],ak,.lf _ _ _ trivial (λ_ h=>h),.lf _ _ trivial,by simpa using g⟩
   |BZ cs=>exact⟨.lf .dead (.tuple (cs.map DV.A0).toArray),by simp[vC],ak,.lf _ _ _ trivial (λ_ h=>h),.lf _ _ trivial,by simpa using g⟩)
  refine⟨l,?_,?_,?_,?_⟩
  . refine map_mk f s _ _ (by simp[lD]) λm d D e o=> ?_;rw[viewC_get,<- List.map_drop,<- List.map_take,AAf,o];simp[e.1]
  . intro D q;obtain⟨m,y⟩:=AAs q;obtain⟨c,_,e⟩:=mem_mk f s m D y;exact e.2.2.1
  . intro D q;obtain⟨m,y⟩:=AAs q;obtain⟨c,_,e⟩:=mem_mk f s m D y;exact e.2.2.2.1
  . intro m u G;rw[AAf,AA4]at G;obtain⟨D,q,rfl⟩:=G;obtain⟨c,_,e⟩:=mem_mk f s m D q;exact e.2.2.2.2
theorem Tj(h:St G w S δ Fr)(x:(δ k).er= .agg f){agg:Bool}{v:AV}(H:I0 agg n (Nv k off ((f.drop off).take n))=some v):
 ∃vals:List Value,(δ k).A0= .agg vals.toArray/\((vals.drop off).take n).length=n/\Lf w S δ v (if agg=true then .agg ((vals.drop off).take n).toArray else((vals.drop off).take n).headD undef):=by
 obtain⟨ds,z,C⟩:∃ds,δ k= .agg ds/\ds.map DV.er=f:=by
  have:=(h.ok k).Lh;cases hd:δ k with
  |agg ds=>simp_all
  |lf c v=>rw[hd]at x this;cases this with|lf _ _ g=>simp at x;subst x;simp[DS]at g
  |own=>simp_all
  |BZ=>simp_all
 have y:=h.ok k;have o:=h.al k;rw[z]at y o;cases y with
 |agg _ Fs _ hr ON B0 hF=>
  cases o with
  |agg _ o=>
   obtain⟨r,g,p⟩:=MU ((ds.drop off).take n) (λm d D=>D.er=vF k (off+m) d.er/\D.A0=d.A0/\Ok w S D (λ_=>False)/\Dr δ D) (by
    intro m d q;have hd:ds[off+m]? =some d:=by
     rw[ABe]at q;split at q
     . simp_all
     . cases q
    have e:=hr _ d hd;have j:=o _ d hd;cases d with
    |lf a u=>
     have E:=e.Lh;cases E with
     |lf _ _ nO=>
      cases e with
      |lf _ _ _ ha Y6=>refine⟨.lf a u,?_,rfl,.lf _ _ _ ha (λ_ h=>h),j⟩;simp only[Eb];cases a<;>simp_all [vF,DS]
    |own u bx s rows=>refine⟨.lf (.al k [(0,off+m,0)]) u,by simp[vF],ak,.lf _ _ _ trivial (λ_ h=>h),.lf _ _ ⟨bx,s,rows,by simp[Ax,z,hd]⟩⟩
    |agg l=>exact⟨.lf .dead (DV.agg l).A0,by simp[vF],ak,.lf _ _ _ trivial (λ_ h=>h),.lf _ _ trivial⟩
    |BZ l=>exact⟨.lf .dead (DV.BZ l).A0,by simp[vF],ak,.lf _ _ _ trivial (λ_ h=>h),.lf _ _ trivial⟩)
   have F:r.map DV.er=Nv k off ((f.drop off).take n):=map_mk g p _ _ (by rw[lE,<- C];simp) λi d D b hd=>(by rw[viewF_get,<- C,<- List.map_drop,<- List.map_take,AAf,hd,b.1];rfl);have I:r.map DV.A0=((ds.map DV.A0).drop off).take n:=map_mk g p _ _ ak λi d D b hd=>aS;obtain⟨B,E⟩:=gather (w:=w) (S:=S) (δ:=δ) H r F (λD t=>by obtain⟨m,q⟩:=AAs t;obtain⟨c,_,b⟩:=mem_mk g p m D q;simp_all)
    (λD t=>by obtain⟨m,q⟩:=AAs t;obtain⟨c,_,b⟩:=mem_mk g p m D q;simp_all)
   refine⟨ds.map DV.A0,am,?_,?_⟩
   all_goals grind
theorem UQ(h:St G w S δ Fr)(ha:Rd δ a)(ho:o.op= .load t x)(hn:HI P t=some n)(hg:KL P t=some bx)(M:bx=true\/n=1)(V:Cc x y=true){v:AV}(d:valOf (.ld bx n y) (λs=>(δ s).er)=some v):Gives P w S δ a o v:=by
 obtain⟨hy,he⟩:=Aq V ha;cases y with
 |c c=>simp[valOf]at d
 |t s=>
  have key:∀(b off:Nat)(B:jl),(δ s).A0= .pointer (some ⟨b,off,none⟩)->I0 bx n (B.map DV.er)=some v->(∀D∈B,Ok w S D (λ_=>False))->(∀D∈B,Dr δ D)->
   (∀(m:Nat) u,(B.map DV.A0)[m]? =some u->w.cell? ⟨b,off+m,none⟩=some u)->Gives P w S δ a o v:=by
   intro b off B E TW R G9 H;obtain⟨C,qM⟩:=gather TW B rfl R G9;refine⟨_,?_,qM⟩
   have:=MC (P:=P) (w:=w) (b:=b) (off:=off) (vs:=B.map DV.A0) hn hg M (by simpa using C) H;simp only[execOp,ho,he,DL,E,Instr.loadAt,Instr.sureAddr,Sem.run_bind,Sem.run_pure,Result.andThen_ok,this]
  simp only[valOf]at d;cases hs:(δ s).er with
  |fp cs=>
   simp only[hs]at d;obtain⟨_,L,_⟩:=h.leaf hs rfl;obtain⟨b,off,E,hS,H⟩:=L;obtain⟨B,Q,O⟩:=MU (cs.take n) (λm c D=>D.er=KN c/\w.cell? ⟨b,off+m,none⟩=some D.A0/\Ok w S D (λ_=>False)/\Dr δ D) (by
    intro m c I;rw[ABe]at I;split at I
    . obtain⟨u,J,hf⟩:=H m c I;obtain⟨D,K,L,T,U⟩:=Y1 (δ:=δ) hf;exact⟨D,K,by rw[L];exact J,T,U⟩
    . cases I)
   refine key b off B E ?_ ?_ ?_ ?_
   . rw[<- d];congr 1;exact map_mk Q O _ _ ak λi c D l V=>by simp only[AAf,V,AA1,l.1]
   . intro D z;obtain⟨m,I⟩:=AAs z;obtain⟨c,_,l⟩:=mem_mk Q O m D I;exact l.2.2.1
   . intro D z;obtain⟨m,I⟩:=AAs z;obtain⟨c,_,l⟩:=mem_mk Q O m D I;exact l.2.2.2
   . intro m u J;rw[AAf,AA4]at J;obtain⟨D,z,rfl⟩:=J;obtain⟨c,_,l⟩:=mem_mk Q O m D z;exact l.2.1
  |cb f vs b ss=>
   simp only[hs]at d;split at d
   . rename_i e;obtain⟨rfl,rfl⟩:=e;obtain rfl:=AAW d;obtain⟨_,⟨E,hS,H⟩,_⟩:=h.leaf hs rfl;refine key b 0 [.lf (.sc (.func (.func f) #[] (vs++[Value.pointer (some ⟨b,0,none⟩)]).toArray)) (.func (.func f) #[] (vs++[Value.pointer (some ⟨b,0,none⟩)]).toArray)] E (by simp[I0]) ?_ ?_ ?_
     . intro D z;rw[AAw]at z;subst z;exact .lf _ _ _ ⟨rfl,rfl⟩ (λ_ h=>h)
     . intro D z;rw[AAw]at z;subst z;exact .lf _ _ trivial
     . intro m u J;cases m with
       |zero=>simp only[AAm,Kn,ABA,AAU]at J;subst J;rw[E]at H;exact H
       |succ m=>simp at J
   . cases d
  |vb q off us=>
   simp only[hs]at d;obtain⟨_,⟨b,E,hS,H⟩,EJ⟩:=h.leaf hs rfl;split at d
   . rename_i cs hq;obtain⟨vals,hva,C,qM⟩:=Tj h hq d;have Z:vals=us:=by
      have K:(δ q).A0= .agg us.toArray:=EJ;rw[hva,Value.agg.injEq]at K
      have:=congrArg Array.toList K;simpa using this
     subst Z;refine⟨_,?_,qM⟩
     have:=MC (P:=P) (w:=w) (b:=b) (off:=off) (vs:=(vals.drop off).take n) hn hg M C (λj v N=>by
      rw[ABe]at N;split at N
      . rw[List.getElem?_drop]at N;exact H _ v N
      . cases N)
     simp only[execOp,ho,he,DL,E,Instr.loadAt,Instr.sureAddr,Sem.run_bind,Sem.run_pure,Result.andThen_ok,this]
   . cases d
  |_=>
   simp only[hs]at d;split at d
   . rename_i r p i j k XN;obtain⟨vh,g,Au,b,F,CU,hb,E,R,_⟩:=h.ER XN;split at d
     . rename_i lI k' rows W;obtain⟨D,z,GP⟩:=ED (h.ok r).Lh W;rw[CU]at z;obtain rfl:=AAW z;simp only[FO,AV.own.injEq]at GP;obtain⟨rfl,rfl,rfl⟩:=GP;split at d
       . rename_i row FP;rw[AAf,AA4]at FP;obtain⟨Jf,X,rfl⟩:=FP;obtain⟨B,K,L,T,U⟩:=uI R CU hb X j n;exact key b (i*k+j) B E (by rw[K];exact d) L T U
       . cases d
     . cases d
   . cases d
end
variable{E:Array Field}{e:jo}{op:BinOp}{K M:IntKind}
section
variable{w w':ja}{S S':iu}{G:Gi}{δ:ji}{Fr:iy}{P:iz}
theorem Np{a:Field}(g:P.underlying t=some (.struct E))(e:E[k]? =some a)(hn:HI P a.type=some n)(d:n≠0)(b off:Nat)(w:ja):
 (Instr.fieldAt t (.pointer (some ⟨b,off,none⟩)) k).run P w= .ok (.pointer (some ⟨b,off+a.offset,none⟩)) w:=by
 simp[Instr.fieldAt,underlying,g,e,Instr.sureAddr,fieldPlace,run_sizeOf hn,d,Addr.add_lit]
theorem eT(h:St G w S δ Fr)(M:Rd δ a)(B:o.op= .fieldAddr t x k){e:Field}(C:P.underlying t=some (.struct E))(z:E[k]? =some e)(J:e.offset=off)(hn:HI P e.type=some n)(l:n≠0)(O:Cc x y=true){v:AV}(d:valOf (.Wc off y) (λs=>(δ s).er)=some v):Gives P w S δ a o v:=by
 obtain⟨U,u⟩:=Aq O M;subst J;cases y with
 |c c=>simp[valOf]at d
 |t s=>
  simp only[valOf]at d;cases hs:(δ s).er with
  |fp cs=>
   simp only[hs,AAU]at d;subst d;obtain⟨_,L,_⟩:=h.leaf hs rfl;obtain⟨b,off,g,m,D⟩:=L;refine⟨.pointer (some ⟨b,off+e.offset,none⟩),?_,Lf.fp m λj a T=> ?_⟩
   . simp only[execOp,B,u,DL,g,Sem.run_bind,Np C z hn l,Result.andThen_ok,Sem.run_pure]
   grind
  |vb q o us=>simp only[hs,AAU]at d;subst d;obtain⟨_,⟨b,g,m,D⟩,I⟩:=h.leaf hs rfl;refine⟨.pointer (some ⟨b,o+e.offset,none⟩),?_,⟨.lf (.vb q (o+e.offset) us) _,ak,ak,.lf _ _ _ ⟨b,rfl,m,D⟩ (λ_ h=>h),.lf _ _ I⟩⟩;simp only[execOp,B,u,DL,g,Sem.run_bind,Np C z hn l,Result.andThen_ok,Sem.run_pure]
  |_=>
   simp only[hs]at d;split at d
   . rename_i r p i j f K;simp only[AAU]at d;subst d;obtain⟨V,bx,Q,b,F,H,N,g,R,_⟩:=h.ER K;refine⟨.pointer (some ⟨b,i*f+(j+e.offset),none⟩),?_,Lf.Lm H N⟩;simp only[execOp,B,u,DL,g,Sem.run_bind,Np C z hn l,Result.andThen_ok,Sem.run_pure,Nat.add_assoc]
   . cases d
theorem run_indexAt_slice(g:P.underlying t=some (.slice e))(f:HI P e=some k){h:IntKind}{len:Int}(a:0<=len)(d:len<n)(w:ja):
 (Instr.indexAt t (.slice (some ⟨b,off,none⟩) n i) (.int h len)).run P w= .ok (.pointer (some ⟨b,off+len.toNat*k,none⟩)) w:=by
 simp[Instr.indexAt,asIntOf,underlying,g,a,d,run_sizeOf f,Addr.add_lit]
theorem St.wZ(h:St G w S δ Fr)(B:YO y){n:AV}{q:kw}(d:hd (λs=>(δ s).er) y=some (n,q)):
 (∀b k rows,n= .own b k rows->∃g F,g.map (·.map DV.er)=rows/\Ok w S (.own (DL δ y) b k g) F/\∀r p,q=some (r,p)->Ax (δ r) p=some (.own (DL δ y) b k g))/\
 (∀e k rows,n= .sl e k rows->(∃s,y= .t s/\(δ s).er= .sl e k rows)->Fz w S (.sl e k rows) (DL δ y)):=by
 cases y with
 |c c=>
  obtain⟨D,o⟩:=B;obtain⟨f,i,m,_⟩:=JT (w:=w) (S:=S) (δ:=δ) c D o;constructor
  . rintro b k rows rfl;simp only[hd]at d;split at d
    . simp only[AAU,AAj,AV.own.injEq]at d;obtain⟨⟨rfl,rfl,rfl⟩,rfl⟩:=d;cases D with
      |own v b' k'' g=>simp only[FO,AV.own.injEq]at f;obtain⟨rfl,rfl,j⟩:=f;exact⟨g,_,j,by simpa[DL,o]using i,ak⟩
      |lf a v=>simp only[Eb]at f;subst f;cases i with|lf _ _ _ ha _=>exact ha.elim
      |agg=>simp at f
      |BZ=>simp at f
    . cases d
  simp_all
 |t s=>
  simp only[hd]at d;constructor
  . rintro b k rows rfl;cases hs:(δ s).er with
    |al r p=>
     simp only[hs]at d;split at d
     . rename_i C hn;simp only[AAU,AAj]at d;obtain⟨rfl,rfl⟩:=d;obtain⟨g,F,f,i,m⟩:=h.node hs hn;exact⟨g,F,i,m,by rintro E p' ⟨⟩;exact f⟩
     . cases d
    |own b' k' rows'=>
     simp only[hs,AAU,AAj]at d;obtain⟨f,rfl⟩:=d;obtain⟨g,l,z⟩:=h.Za (hs.trans f);refine⟨g,Fr s,z,?_,?_⟩
     . have:=h.ok s;rw[l]at this;simpa[DL]using this
     . rintro r p ⟨⟩;simpa[Ax,DL]using l
    |sl e' k' rows'=>simp_all
    |_=>simp_all
  . rintro e k rows rfl ⟨H,u,x⟩;cases u;exact(h.leaf x rfl).2.1
theorem eU(h:St G w S δ Fr)(L:Rd δ a)(T:o.op= .indexAddr t x m)(U:P.underlying t=some (.slice e))(O:HI P e=some k)(hc:Cc x y=true)(Ny:Cc m j=true){v:AV}(d:valOf (.ZG k y j) (λs=>(δ s).er)=some v):Gives P w S δ a o v:=by
 obtain⟨I,M⟩:=Aq hc L;obtain⟨N,g⟩:=Aq Ny L;simp only[valOf]at d;split at d
 . rename_i l rows r p n f hn;split at d
   . rename_i q;obtain⟨rfl,z,h1⟩:=q;simp only[AAU]at d;subst d;obtain⟨kk,hn⟩:=O1 hn;obtain⟨u,_⟩:=h.FV N hn;obtain⟨K,F,R,W,Vr⟩:=(h.wZ I f).1 _ _ _ rfl;have V:=Vr r p rfl;generalize DL δ y=vh at*;have Q:K.length=rows.length:=(by rw[<- R];simp);cases W with
     |nil=>grind
     |own _ _ _ b c arr E Fs _ hb eX Ee Md tW hr ON B0 LR hF=>refine⟨.pointer (some ⟨b,n.toNat*l+0,none⟩),?_,Lf.Lm V ak⟩;simp only[execOp,T,M,g,u,KW,Sem.run_bind,AAd,AAk,run_indexAt_slice U O z (show n<(K.length:Nat)by omega),Result.andThen_ok,Sem.run_pure];simp
   . cases d
 . rename_i ee l rows pl n f hn;split at d
   . rename_i q;obtain⟨rfl,z⟩:=q;obtain⟨kk,hn⟩:=O1 hn;obtain⟨u,_⟩:=h.FV N hn;rw[AA4]at d;obtain⟨row,X,rfl⟩:=d;have H:∃s,y= .t s/\(δ s).er= .sl ee l rows:=by
      cases y with
      |c c=>obtain⟨D,B⟩:=I;simp only[hd]at f;grind
      |t s=>
       refine⟨s,rfl,?_⟩;simp only[hd]at f;cases hs:(δ s).er with
       |sl e2 k2 Jm=>simp_all
       |al r p=>
        simp only[hs]at f;split at f
        . rename_i n' C;simp only[AAU,AAj]at f;obtain⟨rfl,_⟩:=f
          -- an alias names a node
          obtain⟨_,_,Z⟩:=h.leaf hs rfl;obtain⟨lI,k2,J,hl⟩:=Z;obtain⟨D,B,GP⟩:=ED (h.ok r).Lh C;rw[hl]at B;obtain rfl:=AAW B;simp at GP
        . cases f
       |own=>simp_all
       |_=>simp_all
     have Ou:=(h.wZ I f).2 _ _ _ rfl H;have EP:n.toNat<rows.length:=(AAV.1 X).1;generalize DL δ y=vh at*;cases Ou with
     |nil=>grind
     |sl _ _ _ b off c vs hx SE hS eX B2 hr=>
      refine⟨.pointer (some ⟨b,off+n.toNat*l,none⟩),?_,Lf.fp hS λi a R=> ?_⟩
      . simp only[execOp,T,M,g,u,Sem.run_bind,run_indexAt_slice U O z (show n<(rows.length:Nat)by omega),Result.andThen_ok,Sem.run_pure]
      grind
   . cases d
 . cases d
theorem AAH(h:St G w S δ Fr)(z:Rd δ a)(p:o.op= .binOp op t x m e)(H:Cc x y=true)(F:Cc m j=true){v:AV}(b:valOf (.bin op y j) (λs=>(δ s).er)=some v):Gives P w S δ a o v:=by
 obtain⟨B,g⟩:=Aq H z;obtain⟨C,i⟩:=Aq F z;simp only[valOf]at b;unfold binF at b;split at b
 . rename_i k n K D E l;obtain⟨d,_⟩:=h.FV B E;obtain⟨u,_⟩:=h.FV C l;split at b
   . rename_i I;subst I;rw[AA4]at b;obtain⟨q,c,rfl⟩:=b;have f:(eqGuard op t x m (.int k n) (.int k D)).run P w= .ok () w:=(by cases op<;>simp[eqGuard]);have J:(binOp op t (.int k n) (.int k D)).run P w= .ok q w:=by
      cases op<;>simp[binI]at c<;>first
       | (subst c;simp[binOp,Op.intArith,Op.intCmp];done)
       | (obtain⟨r,rfl⟩:=c;simp[binOp,Op.intDiv,r];done)
     refine⟨q,?_,Lf.sc q ?_⟩
     . simp only[execOp,p,g,i,d,u,Sem.run_bind,f,J,Result.andThen_ok,Sem.run_pure]
     . cases op<;>simp[binI]at c<;>first
        | (subst c;rfl)
        | (obtain⟨r,rfl⟩:=c;rfl)
   . cases b
 . rename_i n D E l;obtain⟨d,_⟩:=h.FV B E;obtain⟨u,_⟩:=h.FV C l;have f:∀op,(eqGuard op t x m (.string n) (.string D)).run P w= .ok () w:=(by intro op;cases op<;>simp[eqGuard]);split at b
   . simp only[AAU]at b;subst b;refine⟨_,?_,Lf.sc _ rfl⟩;simp only[execOp,p,g,i,d,u,Sem.run_bind,f,Result.andThen_ok];simp[binOp,Op.stringOp]
   . simp only[AAU]at b;subst b;refine⟨_,?_,Lf.sc _ rfl⟩;simp only[execOp,p,g,i,d,u,Sem.run_bind,f,Result.andThen_ok];simp[binOp,Op.stringOp]
   . cases b
 . cases b
theorem AAG(h:St G w S δ Fr)(j:Rd δ a)(l:o.op= .binOp op t x m e)(d:op=if bx=true then .neq else .eql)(p:P.underlying t=some .bool)(D:Cc x y=true)(z:Cc m r=true){v:AV}(c:valOf (.beq bx y r) (λs=>(δ s).er)=some v):Gives P w S δ a o v:=by
 obtain⟨E,g⟩:=Aq D j;obtain⟨F,i⟩:=Aq z j;simp only[valOf]at c;split at c
 . rename_i n q B C;obtain⟨u,_⟩:=h.FV E B;obtain⟨f,_⟩:=h.FV F C;simp only[AAU]at c;subst c;refine⟨_,?_,Lf.sc _ rfl⟩;have k:∀op,(eqGuard op t x m (.bool n) (.bool q)).run P w= .ok () w:=(by intro op;cases op<;>simp[eqGuard]);cases bx with
   |true=>simp only[AAy]at d;subst d;simp only[execOp,l,g,i,u,f,Sem.run_bind,k,Result.andThen_ok,run_neq_bool w t n q p,Sem.run_pure,AAy]
   |false=>simp only[AAd,AAk]at d;subst d;simp only[execOp,l,g,i,u,f,Sem.run_bind,k,Result.andThen_ok,run_eql_bool w t n q p,Sem.run_pure,AAd,AAk]
 . cases c
theorem gives_un(h:St G w S δ Fr)(j:Rd δ a){op:UnOp}(f:o.op= .unOp op t x)(l:Cc x y=true){v:AV}(b:valOf (.un op y) (λs=>(δ s).er)=some v):Gives P w S δ a o v:=by
 obtain⟨g,e⟩:=Aq l j;simp only[valOf]at b;unfold unF at b;split at b
 . rename_i n d;obtain⟨c,_⟩:=h.FV g d;split at b
   . simp only[AAU]at b;subst b;exact⟨_,by simp[execOp,f,e,c,Op.unary],Lf.sc _ rfl⟩
   . cases b
 . rename_i k n d;obtain⟨c,_⟩:=h.FV g d;split at b
   . simp only[AAU]at b;subst b;exact⟨.int k (k.wrap (0-n)),by simp[execOp,f,e,c,Op.unary,Op.intArith],Lf.sc _ rfl⟩
   . cases b
 . cases b
theorem AAI(h:St G w S δ Fr)(i:Rd δ a)(l:o.op= .convert t e x)(m:P.underlying t=some (.int M))(hd:P.underlying e=some (.int K))(j:Cc x y=true){v:AV}(b:valOf (.cvt K y) (λt=>(δ t).er)=some v):Gives P w S δ a o v:=by
 obtain⟨p,f⟩:=Aq j i;simp only[valOf]at b;split at b
 . rename_i r n g;obtain⟨d,_⟩:=h.FV p g;simp only[AAU]at b;subst b;exact⟨.int K (K.wrap n),by simp[execOp,l,f,d,convert,underlying,m,hd,Conv.intToInt],Lf.sc _ rfl⟩
 . cases b
end
variable{c:Call}{R:j9}{O Q:Array Operand}
section
variable{w w':ja}{S S':iu}{G:Gi}{δ:ji}{Fr:iy}{P:iz}
theorem fN(h:Ok w S (.own v false k rows) F):∃a c,v= .slice a rows.length c:=by
 cases h with
 |nil=>simp_all
 |own _ _ _ b c=>exact⟨some ⟨b,0,none⟩,c,by simp[KW]⟩
theorem Qa{rows:i6}(h:Fz w S (.sl bx k rows) v):∃a c,v= .slice a rows.length c:=by
 cases h with
 |nil _ _ a c=>simp_all
 |sl _ _ _ b off c=>simp_all
theorem St.hdSl(h:St G w S δ Fr)(l:YO y){rows:i6}{n:kw}(a:hd (λs=>(δ s).er) y=some (.sl bx k rows,n)):
 ∃s,y= .t s/\(δ s).er= .sl bx k rows:=by
 cases y with
 |c c=>obtain⟨D,b⟩:=l;simp only[hd]at a;grind
 |t s=>
  refine⟨s,rfl,?_⟩;simp only[hd]at a;cases hs:(δ s).er with
  |sl e2 m Jm=>simp_all
  |al r p=>
   simp only[hs]at a;split at a
   . rename_i q d;simp only[AAU,AAj]at a;obtain⟨rfl,_⟩:=a;obtain⟨_,_,g⟩:=h.leaf hs rfl;obtain⟨o,m,f,j⟩:=g;obtain⟨D,b,i⟩:=ED (h.ok r).Lh d;rw[j]at b;obtain rfl:=AAW b;simp at i
   . cases a
  |own=>simp_all
  |_=>simp_all
theorem run_len_slice(a:ABu Addr)(n c:Nat)(d:∃e,P.underlying t=some (.slice e))(ty:jo)(w:ja):
 (Builtin.len_ #[t] ty #[.slice a n c]).run P w= .ok (.int .i64 n) w:=by
 obtain⟨e,b⟩:=d;simp[Builtin.len_,underlying,b,goInt]
theorem AAM(h:St G w S δ Fr)(B:Rd δ a)(D:o.op= .call c)(q:c.callee= .builtin .len)(p:c.args.toList=[x])(i:c.argTypes.toList=[t])(H:(∃e,P.underlying t=some (.slice e)))(C:Cc x y=true){v:AV}(d:valOf (.len y) (λs=>(δ s).er)=some v):Gives P w S δ a o v:=by
 obtain⟨j,z⟩:=Aq C B;have u:c.args= #[x]:=by apply ABr;simpa using p
 have l:c.argTypes= #[t]:=by apply ABr;simpa using i
 have key:∀(b:ABu Addr)(n cc:Nat),DL δ y= .slice b n cc->v= .sc (.int .i64 n)->Gives P w S δ a o v:=by
  rintro b n cc g rfl;refine⟨.int .i64 n,?_,Lf.sc _ rfl⟩
  have:=run_len_slice (P:=P) b n cc H o.type w;simp only[execOp,D,resolve,q,u,l,invoke,builtin,Sem.run_bind,Sem.run_pure,Result.andThen_ok,List.map_toArray,AAm,AA2,z,g,this]
 simp only[valOf]at d;split at d
 . rename_i k rows I f;simp only[AAU]at d;obtain⟨J,F,K,m,_⟩:=(h.wZ j f).1 _ _ _ rfl;obtain⟨b,cc,E⟩:=fN m;grind
 . rename_i e k rows I f;simp only[AAU]at d;have r:=(h.wZ j f).2 _ _ _ rfl (h.hdSl j f);obtain⟨b,cc,E⟩:=Qa r;simp_all
 . cases d
theorem s8(h:St G w S δ Fr)(m:Rd δ a)(p:o.op= .call c)(g:c.callee= .builtin .len)(f:c.args.toList=[x])(d:c.argTypes.toList=[t])(r:P.underlying t=some .string)(n:Cc x y=true){v:AV}(b:valOf (.dM y) (λs=>(δ s).er)=some v):Gives P w S δ a o v:=by
 obtain⟨u,l⟩:=Aq n m;have i:c.args= #[x]:=by apply ABr;simpa using f
 have j:c.argTypes= #[t]:=by apply ABr;simpa using d
 simp only[valOf]at b;split at b
 . rename_i s q;simp only[AAU]at b;subst b;obtain⟨k,_⟩:=h.FV u q;refine⟨.int .i64 s.size,?_,Lf.sc _ rfl⟩;simp only[execOp,p,resolve,g,i,j,invoke,builtin,Sem.run_bind,Sem.run_pure,Result.andThen_ok,List.map_toArray,AAm,AA2,l,k];simp[Builtin.len_,underlying,r,goInt]
 . cases b
theorem AAJ(h:St G w S δ Fr)(y:Rd δ a)(C:o.op= .extract x i)(z:Cc x j=true){v:AV}(b:valOf (.ext j i) (λs=>(δ s).er)=some v):Gives P w S δ a o v:=by
 obtain⟨E,n⟩:=Aq z y;cases j with
 |c c=>simp[valOf]at b
 |t s=>
  simp only[valOf]at b;split at b
  . rename_i m g;split at b
    . rename_i c l;simp only[AAU]at b;subst b;obtain⟨ds,f,B⟩:∃ds,δ s= .BZ ds/\ds.map DV.er=m:=by
       have:=(h.ok s).Lh;cases hd:δ s with
       |BZ ds=>simp_all
       |lf c v=>rw[hd]at g this;cases this with|lf _ _ hl=>simp at g;subst g;simp[DS]at hl
       |own=>simp_all
       |agg=>simp_all
      rw[<- B,AAf,AA4]at l;obtain⟨d,hd,rfl⟩:=l;have k:=h.ok s;have e:=h.al s;rw[f]at k e;cases k with
      |BZ _ Fs _ hr ON B0 hF=>
       cases e with
       |BZ _ e=>obtain⟨D,p,q,r,u⟩:=viewD (δ:=δ) s (hr i d hd) [(0,i,0)] (by simp[Ax,f,hd]) (e i d hd);refine⟨d.A0,?_,D,p,q,r,u⟩;have:(ds.map DV.A0).toArray[i]? =some d.A0:=(by simp[hd]);simp only[execOp,C,n,DL,f,Oz,Instr.extract,Sem.run_bind,this,Sem.run_pure,Result.andThen_ok]
    . cases b
  . cases b
theorem run_indexAt_array(f:P.underlying t=some (.array n e))(d:HI P e=some k){len:Int}(a:0<=len)(c:len<n)(w:ja):
 (Instr.indexAt t (.pointer (some ⟨b,off,none⟩)) (.int K len)).run P w= .ok (.pointer (some ⟨b,off+len.toNat*k,none⟩)) w:=by
 simp[Instr.indexAt,asIntOf,underlying,f,a,c,run_sizeOf d,Addr.add_lit,Instr.sureAddr]
theorem AAF(h:St G w S δ Fr)(z:Rd δ a)(D:o.op= .indexAddr t x m)(E:P.underlying t=some (.array n e))(C:HI P e=some k)(Q:Cc x y=true)(J:Cc m j=true){v:AV}(d:valOf (.aad n k y j) (λs=>(δ s).er)=some v):Gives P w S δ a o v:=by
 obtain⟨Z,B⟩:=Aq Q z;obtain⟨R,f⟩:=Aq J z;cases y with
 |c c=>simp[valOf]at d
 |t s=>
  simp only[valOf]at d;split at d
  . rename_i s' len g hn;simp only[Ar.t.injEq]at g;subst g;split at d
    . rename_i I;obtain⟨q,u⟩:=I;obtain⟨kk,hn⟩:=O1 hn;obtain⟨L,_⟩:=h.FV R hn;rw[L]at f;cases hs:(δ s).er with
      |fp cs=>
       simp only[hs,AAU]at d;subst d;obtain⟨_,M,_⟩:=h.leaf hs rfl;obtain⟨b,off,l,N,V⟩:=M;refine⟨.pointer (some ⟨b,off+len.toNat*k,none⟩),?_,Lf.fp N λi a X=> ?_⟩
       . simp only[execOp,D,B,f,DL,l,Sem.run_bind,run_indexAt_array E C q u,Result.andThen_ok,Sem.run_pure]
       grind
      |_=>
       simp only[hs]at d;split at d
       . rename_i r p m j T K;simp only[AAU]at d;subst d;obtain⟨vh,bx,U,b,F,H,O,l,W,_⟩:=h.ER K;refine⟨.pointer (some ⟨b,m*T+(j+len.toNat*k),none⟩),?_,Lf.Lm H O⟩;simp only[execOp,D,B,f,DL,l,Sem.run_bind,run_indexAt_array E C q u,Result.andThen_ok,Sem.run_pure,Nat.add_assoc]
       . cases d
    . cases d
  . cases d
theorem aE{vals:jj}(hn:HI P t=some n)(b:KL P t=some bx)(c:bx=true\/n=1)(a:((vals.drop off).take n).length=n):
 (part t vals.toArray off).run P w= .ok (if bx=true then .agg ((vals.drop off).take n).toArray else((vals.drop off).take n).headD undef) w:=by
 cases bx with
 |true=>
  have e:vals.toArray.extract off (off+n)=((vals.drop off).take n).toArray:=by apply ABr;simp[List.extract_eq_take_drop]
  simp[part,Rr b,run_sizeOf hn,e]
 |false=>
  obtain rfl:=c.resolve_left ak
  match hd:(vals.drop off).take 1,a with
  |[v],_=>have d:vals[off]? =some v:=(by have:((vals.drop off).take 1)[0]? =some v:=(by rw[hd];rfl);simpa using this);simp[part,Rr b,d]
theorem AAK(h:St G w S δ Fr)(l:Rd δ a){e:Field}(u:o.op= .field t x k)(B:P.underlying t=some (.struct E))(q:E[k]? =some e)(j:e.offset=off)(hn:HI P e.type=some n)(r:KL P e.type=some bx)(f:bx=true\/n=1)(m:Cc x y=true){v:AV}(d:valOf (.fld bx off n y) (λs=>(δ s).er)=some v):Gives P w S δ a o v:=by
 obtain⟨i,p⟩:=Aq m l;cases y with
 |c c=>simp[valOf]at d
 |t s=>
  simp only[valOf]at d;split at d
  . rename_i D z;obtain⟨vals,g,b,C⟩:=Tj h z d;refine⟨_,?_,C⟩
    have:=aE (w:=w) hn r f b;simp only[execOp,u,p,DL,g,Instr.field,run_underlying B,q,asAgg,j,Sem.run_bind,Sem.run_pure,Result.andThen_ok,this]
  . cases d
theorem AAL(h:St G w S δ Fr)(i:Rd δ a)(F:o.op= .index t x m)(I:P.underlying t=some (.array n e))(p:HI P e=some k)(D:KL P e=some bx)(z:bx=true\/k=1)(B:Cc x y=true)(r:Cc m j=true){v:AV}(b:valOf (.idx bx n k y j) (λs=>(δ s).er)=some v):Gives P w S δ a o v:=by
 obtain⟨L,C⟩:=Aq B i;obtain⟨E,d⟩:=Aq r i;cases y with
 |c c=>simp[valOf]at b
 |t s=>
  simp only[valOf]at b;split at b
  . rename_i N len f hn;simp only[Ar.t.injEq]at f;subst f;split at b
    . rename_i q;obtain⟨M,hn⟩:=O1 hn;obtain⟨u,_⟩:=h.FV E hn;rw[u]at d;split at b
      . rename_i K H;obtain⟨vals,l,g,J⟩:=Tj h H b;refine⟨_,?_,J⟩
        have:=aE (w:=w) p D z g;simp only[execOp,F,C,d,DL,l,Instr.index,asIntOf,run_underlying I,q,and_self,AAy,run_sizeOf p,Sem.run_bind,Sem.run_pure,Result.andThen_ok,this]
      . cases b
    . cases b
  . cases b
theorem s7(h:St G w S δ Fr)(e:Rd δ a)(u:o.op= .index t x m)(B:P.underlying t=some .string)(p:Cc x y=true)(f:Cc m j=true){v:AV}(c:valOf (.pX y j) (λs=>(δ s).er)=some v):Gives P w S δ a o v:=by
 obtain⟨C,q⟩:=Aq p e;obtain⟨r,d⟩:=Aq f e;simp only[valOf]at c;split at c
 . rename_i s n z hn;obtain⟨D,hn⟩:=O1 hn;obtain⟨g,_⟩:=h.FV r hn;obtain⟨k,_⟩:=h.FV C z;split at c
   . rename_i l;rw[AA4]at c;obtain⟨b,i,rfl⟩:=c;refine⟨.int .u8 b.toNat,?_,Lf.sc _ rfl⟩;simp only[execOp,u,q,d,g,k,Instr.index,asIntOf,run_underlying B,l,AAy,i,Sem.run_bind,Sem.run_pure,Result.andThen_ok]
   . cases c
 . cases c
theorem St.argAgg(h:St G w S δ Fr)(n:YO y)(g:ar (λs=>(δ s).er) y= .agg f):∃vals:List Value,DL δ y= .agg vals.toArray/\∀(j:Nat) u,f[j]? =some (.sc u)->vals[j]? =some u:=by
 obtain⟨D,F,e,o,i⟩:∃(D:DV)(F:iu),D.er= .agg f/\D.A0=DL δ y/\Ok w S D F:=by
  cases y with
  |t s=>exact⟨δ s,Fr s,g,rfl,h.ok s⟩
  |c c=>obtain⟨k,l⟩:=n;obtain⟨m,g2,p,_⟩:=JT (w:=w) (S:=S) (δ:=δ) c k l;simp only[ar]at g;exact⟨k,_,m.trans g,by simp[DL,l],g2⟩
 obtain⟨ds,rfl⟩:∃ds,D= .agg ds:=by
  have:=i.Lh;cases D with
  |agg ds=>simp_all
  |lf c v=>cases this with|lf _ _ hl=>simp at e;subst e;simp[DS]at hl
  |own=>simp at e
  |BZ=>simp at e
 refine⟨ds.map DV.A0,am,λj u b=> ?_⟩;simp only[Iy,AV.agg.injEq]at e;subst e;simp only[AAf]at b |-;cases hd:ds[j]? with
 |none=>simp_all
 |some d=>
  simp only[hd,AA1,AAU]at b |-;cases i with
  |agg _ Fs _ hr _ _ _=>
   have:=hr j d hd;cases this with
   |lf a v _ hl _=>simp only[Eb]at b;subst b;simpa using hl.1
   |nil=>simp at b
   |own=>simp at b
   |agg=>simp at b
   |BZ=>simp at b
def kdOf:TypeDesc->ABu Nat
 | .bool=>some 0
 | .int _=>some 1
 | .string=>some 2
 |_=>none
def Re(P:iz):Nat->List Field->List Nat->Bool
 |_,[],[]=>true
 |i,f::fs,k::ks=>f.name != "_" &&f.offset==i&&HI P f.type==some 1&&KL P f.type==some false&&((P.underlying f.type).bind kdOf==some k)&&Re P (i+1) fs ks
 |_,_,_=>false
def sL(P:iz)(t:jo)(kd:jh):Bool:=match P.underlying t with
 |some (.struct fs)=> !P.stoodInHeld t&& !P.eqGuardType P.depth t&&Re P 0 fs.toList kd
 |_=>false
theorem eqSc_run(d:Nat)(a:(P.underlying t).bind kdOf=some k)(h:zZ k u v=some bx):(Op.equalIn (d+1) t u v).run P w= .ok bx w:=by
 cases hu:P.underlying t with
 |none=>simp_all
 |some T=>
  simp only[hu,AAS]at a;cases T<;>simp only[kdOf,AAU,reduceCtorEq]at a<;>subst a
  . cases u<;>cases v<;>simp only[zZ,AAU,reduceCtorEq]at h;subst h;exact run_equalIn_bool' w d t _ _ hu
  . cases u<;>cases v<;>simp only[zZ,reduceCtorEq]at h;split at h
    . rename_i e;subst e;simp only[AAU]at h;subst h;exact run_equalIn_int w d t _ _ _ _ hu
    . cases h
  . cases u<;>cases v<;>simp only[zZ,AAU,reduceCtorEq]at h;subst h;exact run_equalIn_string w d t _ _ hu
theorem iV(d:Nat)(q r:jj)(p:List Field):∀(h:jh)(i:Nat)(c g:i5)(b:Bool),Re P i p h=true->Rf h c g=some b->
 (∀(j:Nat) u,c[j]? =some (.sc u)->q[i+j]? =some u)->(∀(j:Nat) u,g[j]? =some (.sc u)->r[i+j]? =some u)->(Op.eqFields (d+1) q.toArray r.toArray p).run P w= .ok b w:=by
 induction p with
 |nil=>
  intro h i c g b m e _ _;cases h with
  |cons=>simp[Re]at m
  |nil=>cases c<;>cases g<;>simp only[Rf,AAU,reduceCtorEq]at e;subst e;simp[Op.eqFields]
 |cons f p ih=>
  intro h i c g b m e n o;cases h with
  |nil=>simp[Re]at m
  |cons k ks=>
   simp only[Re,AAT,AAh,ABl]at m;obtain⟨⟨⟨⟨⟨D,E⟩,F⟩,G⟩,H⟩,I⟩:=m
   match c,g,e with
   | .sc u::c,.sc v::g,e=>
    simp only[Rf]at e;split at e
    . rename_i a B C g2;simp only[AAU]at e;have t:q[i]? =some u:=(by have:=n 0 u rfl;simpa using this);have x:r[i]? =some v:=(by have:=o 0 v rfl;simpa using this);have one:∀(l:jj)(u:jn),l[i]? =some u->(part f.type l.toArray i).run P w= .ok u w:=by
       intro l u J;have K:(l.drop i).take 1=[u]:=by obtain⟨z,rfl⟩:=AAV.1 J;rw[ABQ z];rfl
       have:=aE (w:=w) (off:=i) (vals:=l) F G (.inr rfl) aS;rw[this,K];rfl
      have y:=ih ks (i+1) c g B I g2 (λj u s=>by have:=n (j+1) u s;grind) (λj u s=>by have:=o (j+1) u s;grind);simp only[Op.eqFields,D,ne_eq,not_false_eq_true,AAy,E,Sem.run_bind,one q u t,one r v x,Result.andThen_ok,eqSc_run d H C];cases a with
      |true=>simp_all
      |false=>simp_all
    . cases e
theorem s6(h:St G w S δ Fr)(C:Rd δ a)(E:o.op= .binOp op t x m e)(f:op=if bx=true then .neq else .eql)(d:sL P t L=true)(Q:Cc x y=true)(I:Cc m j=true){v:AV}(u:valOf (.pW bx L y j) (λs=>(δ s).er)=some v):Gives P w S δ a o v:=by
 obtain⟨U,r⟩:=Aq Q C;obtain⟨V,z⟩:=Aq I C;simp only[valOf]at u;split at u
 . rename_i g J M N;obtain⟨l,p,f1⟩:=h.argAgg U M;obtain⟨F,q,f2⟩:=h.argAgg V N;rw[AA4]at u;obtain⟨b,O,rfl⟩:=u;refine⟨_,?_,Lf.sc _ rfl⟩;unfold sL at d;split at d
   . rename_i B T;simp only[AAT,ABG]at d;obtain⟨⟨K,g2⟩,k⟩:=d;have i:P.fieldsOf t=B:=(by simp[Program.fieldsOf,T]);have n:(Op.equalIn 10000 t (.agg l.toArray) (.agg F.toArray)).run P w= .ok b w:=(by rw[run_equalIn_struct w 9999 t _ _ (by simp_all) K,i];exact iV 9998 l F B.toList L 0 g J b k O (λH e R=>by simp_all) (λH e R=>by simp_all));have D:∀op,(eqGuard op t x m (.agg l.toArray) (.agg F.toArray)).run P w= .ok () w:=λop=>run_eqGuard_agg w op t x m _ _ g2;cases bx with
     |true=>simp only[AAy]at f;subst f;simp only[execOp,E,r,z,p,q,Sem.run_bind,D,Result.andThen_ok,run_neq_struct,n,Sem.run_pure,AAy]
     |false=>simp only[AAd,AAk]at f;subst f;simp only[execOp,E,r,z,p,q,Sem.run_bind,D,Result.andThen_ok,run_eql_struct,n,Sem.run_pure,AAd,AAk]
   . cases d
 . cases u
theorem gives_mm(h:St G w S δ Fr)(i:Rd δ a)(p:o.op= .call c)(d:c.callee= .builtin (if bx=true then .max else .min))(q:c.args.toList=[x,m])(u:Cc x y=true)(r:Cc m j=true){v:AV}(b:valOf (.mm bx y j) (λs=>(δ s).er)=some v):Gives P w S δ a o v:=by
 obtain⟨B,f⟩:=Aq u i;obtain⟨C,g⟩:=Aq r i;have e:c.args= #[x,m]:=by apply ABr;simpa using q
 simp only[valOf]at b;split at b
 . rename_i k n D l t g2;obtain⟨f1,_⟩:=h.FV B t;obtain⟨f2,_⟩:=h.FV C g2;split at b
   . rename_i z;subst z;simp only[AAU]at b;subst b;refine⟨_,?_,Lf.sc _ rfl⟩;cases bx with
     |true=>simp only[AAy]at d;simp only[execOp,p,resolve,d,e,invoke,builtin,Sem.run_bind,Sem.run_pure,Result.andThen_ok,List.map_toArray,AAm,AA2,f,g,f1,f2,run_max_int2,AAy]
     |false=>simp only[AAd,AAk]at d;simp only[execOp,p,resolve,d,e,invoke,builtin,Sem.run_bind,Sem.run_pure,Result.andThen_ok,List.map_toArray,AAm,AA2,f,g,f1,f2,run_min_int2,AAd,AAk]
   . cases b
 . cases b
theorem xK(h:Ok w S (.own v true k rows) F):∃b,v= .pointer (some ⟨b,0,none⟩):=by
 cases h with
 |own _ _ _ b c arr E Fs _=>exact⟨b,by simp[KW]⟩
theorem sY(h:St G w S δ Fr)(F:Rd δ a)(l:o.op= .nilCheck x)(H:Cc x y=true){v:AV}(d:valOf (.I6 y) (λs=>(δ s).er)=some v):Gives P w S δ a o v:=by
 obtain⟨I,f⟩:=Aq H F;cases y with
 |c c=>
  obtain⟨K,J⟩:=I;simp only[valOf,ar]at d;cases c<;>first
   | (simp[I5]at J;done)
   |grind
   |grind
 |t s=>
  simp only[valOf,ar]at d;cases hs:(δ s).er with
  |Lm r p i j k=>rw[hs]at d;simp only[AAU]at d;subst d;obtain⟨B,_,g,bx,rows,b,m,g2,n⟩:=h.leaf hs rfl;exact⟨_,by simp only[execOp,l,f,DL,n,Sem.run_pure],Lf.Lm m g2⟩
  |fp cs=>rw[hs]at d;simp only[AAU]at d;subst d;obtain⟨B,⟨b,off,m,g2,n⟩,_⟩:=h.leaf hs rfl;exact⟨_,by simp only[execOp,l,f,DL,m,Sem.run_pure],Lf.fp g2 n⟩
  |own b k rows=>
   rw[hs]at d;cases b with
   |false=>simp at d
   |true=>simp only[AAU]at d;subst d;obtain⟨E,hd,L⟩:=h.Za hs;have e:=h.ok s;rw[hd]at e;obtain⟨b,g⟩:=xK e;refine⟨(δ s).A0,?_,Lf.al (r:=s) (p:=[]) (bx:=true) (k:=k) (rows:=E) (by simp[Ax];exact hd)⟩;simp only[execOp,l,f,DL];rw[g];simp only[Sem.run_pure]
  |al r p=>
   rw[hs]at d;simp only at d;split at d
   . rename_i k rows hn;simp only[AAU]at d;subst d;obtain⟨B,_,bx,M,u,q⟩:=h.leaf hs rfl;obtain⟨D,C,z⟩:=ED (h.ok r).Lh hn;rw[q]at C;obtain rfl:=AAW C;simp only[FO,AV.own.injEq]at z;obtain⟨rfl,rfl,_⟩:=z;obtain⟨F',e,_⟩:=(h.ok r).Ax q;obtain⟨b,g⟩:=xK e;refine⟨(δ s).A0,?_,Lf.al q⟩;simp only[execOp,l,f,DL];rw[g];simp only[Sem.run_pure]
   . cases d
  |_=>simp_all
theorem rZ(h:St G w S δ Fr)(F:Rd δ a)(j:j7):∀{d:lz}{rs:j9},Gk d j=true->XL (λs=>(δ s).er) j=some rs->
 d.length=rs.length/\∀(i:Nat) r p u,rs[i]? =some (r,p)->(d.map a.eval)[i]? =some u->∃bx k rows,Ax (δ r) p=some (.own u bx k rows):=by
 induction j with
 |nil=>
  intro d rs f b;cases d with
  |cons=>simp[Gk]at f
  |nil=>simp only[XL,AAU]at b;subst b;exact⟨rfl,ak⟩
 |cons y j ih=>
  intro d rs f b;cases d with
  |nil=>simp[Gk]at f
  |cons x d=>
   simp only[Gk,AAT]at f;obtain⟨I,z⟩:=Aq f.1 F;cases y with
   |c=>simp[XL]at b
   |t s=>
    simp only[XL]at b;have step:∀v o l,XL (λs=>(δ s).er) j=some l->rs=(v,o)::l->(∃bx k rows,Ax (δ v) o=some (.own (a.eval x) bx k rows))->(x::d).length=rs.length/\∀(i:Nat) r p u,rs[i]? =some (r,p)->((x::d).map a.eval)[i]? =some u->∃bx k rows,Ax (δ r) p=some (.own u bx k rows):=by
     rintro v o l g rfl E;obtain⟨D,g2⟩:=ih f.2 g;refine⟨by simp[D],λi r p u hi n=> ?_⟩;cases i with
     |zero=>simp only[ABA,AAU,AAj,AAm]at hi n;obtain⟨rfl,rfl⟩:=hi;subst n;exact E
     |succ i=>exact g2 i r p u (by simpa using hi) (by simpa using n)
    split at b
    . rename_i k rows l m g;simp only[AAU]at b;obtain⟨B,hd,_⟩:=h.Za m;exact step s [] l g b.symm ⟨true,k,B,by rw[z];simp[Ax,DL];exact hd⟩
    . rename_i q p l m g;split at b
      . rename_i k rows hn;simp only[AAU]at b;obtain⟨_,_,bx,H,e,C⟩:=h.leaf m rfl;exact step q p l g b.symm ⟨bx,H,e,by rw[z];exact C⟩
      . cases b
    . cases b
theorem r5(h:St G w S δ Fr)(q:Rd δ a)(g:j7):∀{b:lz}{f:i6},Gk b g=true->iD (λs=>(δ s).er) g=some f->
 b.length=f.length/\∀(i:Nat) k u,f[i]? =some k->(b.map a.eval)[i]? =some u->qX w S k u:=by
 induction g with
 |nil=>
  intro b f e d;cases b with
  |cons=>simp[Gk]at e
  |nil=>simp only[iD,AAU]at d;subst d;exact⟨rfl,ak⟩
 |cons y g ih=>
  intro b f e d;cases b with
  |nil=>simp[Gk]at e
  |cons x b=>
   simp only[Gk,AAT]at e;obtain⟨v,o⟩:=Aq e.1 q;simp only[iD]at d;split at d
   . rename_i k l j r;obtain rfl:=AAW d;obtain⟨p,g2⟩:=ih e.2 r;refine⟨by simp[p],λi m u hi n=> ?_⟩;cases i with
     |zero=>
      simp only[ABA,AAU,AAm]at hi n;subst hi;subst n;cases y with
      |t s=>rw[o];exact(h.leaf j rfl).2.1
      |c c0=>obtain⟨B,z⟩:=v;simp only[ar]at j;subst j;simp[I5]at z
     |succ i=>exact g2 i m u (by simpa using hi) (by simpa using n)
   . cases d
theorem Lf.cl(a:vs.length=R.length)(b:∀(i:Nat) r p u,R[i]? =some (r,p)->vs[i]? =some u->∃bx f rows,Ax (δ r) p=some (.own u bx f rows)):Lf w S δ (.cl k R) (.func (.func k) #[] vs.toArray):=
 ⟨.lf (.cl k R) _,ak,ak,.lf _ _ _ trivial (λ_ h=>h),.lf _ _ ⟨vs,rfl,a,b⟩⟩
theorem eV(h:St G w S δ Fr)(j:Rd δ a){g:j7}(q:o.op= .makeFunc (.func k) O Q)(p:O= #[])(f:Gk Q.toList g=true){v:AV}(c:valOf (.mkf k g) (λs=>(δ s).er)=some v):Gives P w S δ a o v:=by
 have e:Q.map a.eval=(Q.toList.map a.eval).toArray:=by apply ABr;simp
 subst p;have d:(execOp a.eval o).run P w= .ok (.value (.func (.func k) #[] (Q.toList.map a.eval).toArray)) w:=by simp[execOp,q,Instr.makeFunc,e]
 simp only[valOf]at c;split at c
 . rename_i rs i;obtain rfl:=AAW c;obtain⟨n,g2⟩:=rZ h j g f i;exact⟨_,d,Lf.cl am g2⟩
 . simp only[AA4]at c;obtain⟨l,m,rfl⟩:=c;obtain⟨n,g2⟩:=r5 h j g f m;exact⟨_,d,⟨.lf (.YA k l) _,ak,ak,.lf _ _ _ ⟨Q.toList.map a.eval,rfl,am,g2⟩ (λ_ h=>h),.lf _ _ trivial⟩⟩
end
variable{l:jl}{N:jt}
section
variable{w w':ja}{S S':iu}{G:Gi}{δ:ji}{Fr:iy}{P:iz}
theorem Lq{rows:List (List α)}{row:List α}{x:α}(c:∀row∈rows,row.length=k)(b:rows[i]? =some row)(d:row[n]? =some x):rows.flatten[i*k+n]? =some x:=by
 induction rows generalizing i with
 |nil=>simp at b
 |cons r rs ih=>
  have f:=c r ak;have e:=Tv c b d;cases i with
  |zero=>grind
  |succ i=>grind
theorem D6{rows:List (List α)}(b:∀row∈rows,row.length=k):rows.flatten.length=rows.length*k:=by
 induction rows with
 |nil=>simp
 |cons r rs ih=>grind
theorem Mn(e:KT w S row F)(p:KT w S l U)(hd:∀x,F x->¬U x):KT w S (row++l) (λx=>F x\/U x):=by
 induction row generalizing F with
 |nil=>have:(λx=>F x\/U x)=U:=funext λx=>propext ⟨λh=>h.elim (λh=>absurd h (e x)) id,.inr⟩;simp_all
 |cons d f ih=>
  obtain⟨g,i,k,n,m,j⟩:=e;refine⟨g,λx=>i x\/U x,k,ih n (λx o=>hd x ((j x).2 (.inr o))),?_,λx=> ?_⟩
  all_goals grind
theorem KT.congr(h:KT w S l F)(a:∀x,U x↔F x):KT w S l U:=by have:U=F:=funext λx=>propext (a x);simp_all
theorem uM(y:w.heap[b]? =some (.cells N t (0,0)))(e:∀row∈rows,row.length=k)(l:if bx then rows.length=1/\N.size=k else n*k=N.size/\rows.length<=n)(u:¬S b)(g:KT w S rows.flatten F)(D:¬F b)(v:∀(c:Nat) d,rows.flatten[c]? =some d->N[c]? =some d.A0):
 Ok w S (.own (KW bx b rows.length n) bx k rows) (λx=>x=b\/F x):=by
 obtain⟨m,q,r,s,E⟩:=Ki.1 g;refine .own bx k rows b n N t (λi j x=>(∃row d,rows[i]? =some row/\row[j]? =some d)/\m (i*k+j) x) _ y e l u ?_ ?_ ?_ ?_ ?_ ?_
 . intro i j row d hi a;exact v _ d (Lq e hi a)
 . intro i j row d hi a;refine(q _ d (Lq e hi a)).congr λx=>⟨λh=>h.2,λh=>⟨⟨row,d,hi,a⟩,h⟩⟩
 . rintro i j H I x ⟨⟨row,d,hi,a⟩,z⟩ ⟨⟨f,G,hi',p⟩,o⟩;exact xE (Tv e hi a) (Tv e hi' p) (r _ _ x z o)
 . simp_all
 . simp_all
 . intro x;constructor
   . rintro(h|h)
     . omega
     . obtain⟨c,hn⟩:=(E x).1 h;obtain⟨d,hd⟩:=s c x hn;have C:c<rows.length*k:=(by rw[<- D6 e];exact(AAV.1 hd).1);have B:0<k:=(Nat.eq_zero_or_pos k).elim (λh=>am) id;have hi:c/k<rows.length:=Nat.div_lt_of_lt_mul aS;have a:c%k<(rows[c/k]).length:=(by rw[e _ (AAi hi)];exact Nat.mod_lt _ B);refine .inr ⟨c/k,c%k,⟨_,_,AAZ hi,AAZ a⟩,?_⟩;rw[ABV,Nat.div_add_mod];exact hn
   grind
theorem fL(h:Ok w S (.own v bx k rows) F):
 (v= .slice none 0 0/\bx=false/\rows=[]/\∀x,¬F x)\/
 ∃b c arr E o,v=KW bx b rows.length c/\w.heap[b]? =some (.cells arr E (0,0))/\(∀row∈rows,row.length=k)/\(if bx then rows.length=1/\arr.size=k else c*k=arr.size/\rows.length<=c)/\¬S b/\KT w S rows.flatten o/\¬o b/\
  (∀x,F x↔x=b\/o x)/\(∀(n:Nat) d,rows.flatten[n]? =some d->arr[n]? =some d.A0):=by
 cases h with
 |nil k _ hF=>exact .inl ⟨rfl,rfl,rfl,hF⟩
 |own _ _ _ b c arr E Fs _ hb hk Ee Md hv hr hd B0 LR hF=>
  refine .inr ⟨b,c,arr,E,λx=>∃i j,Fs i j x,rfl,hb,hk,Ee,Md,?_,λ⟨i,j,h⟩=>LR i j h,hF,?_⟩
  . refine Ki.2 ⟨λn x=>n<rows.length*k/\Fs (n/k) (n%k) x,?_,?_,?_,?_⟩
    . intro n d f;have e:n<rows.length*k:=(by rw[<- D6 hk];exact(AAV.1 f).1);have m:0<k:=(Nat.eq_zero_or_pos k).elim (λh=>by subst h;simp at e) id;have hi:n/k<rows.length:=Nat.div_lt_of_lt_mul (by rw[ABV];exact e);have g:n%k<(rows[n/k]).length:=(by rw[hk _ (AAi hi)];exact Nat.mod_lt _ m);have a:=Lq hk (AAZ hi) (AAZ g);rw[ABV,Nat.div_add_mod,f]at a;obtain rfl:=AAW a;exact(hr _ _ _ _ (AAZ hi) (AAZ g)).congr λx=>⟨λh=>h.2,λh=>⟨e,h⟩⟩
    . rintro n t x ⟨a,p⟩ ⟨u,s⟩
      have:=hd _ _ _ _ x p s;rw[<- Nat.div_add_mod n k,<- Nat.div_add_mod t k,this.1,this.2]
    . rintro n x ⟨a,_⟩;exact⟨_,AAZ (by rw[D6 hk];exact a)⟩
    . intro x;constructor
      . rintro⟨i,j,h⟩;obtain⟨row,d,a,p⟩:=B0 i j x h;have l:=Tv hk a p;have hi:=(AAV.1 a).1;have m:0<k:=ah;refine⟨i*k+j,?_,?_⟩
        . calc i*k+j<i*k+k:=ah
           _=(i+1)*k:=by rw[ABm]
           _<=rows.length*k:=ABC _ hi
        . have q:(i*k+j)/k=i:=(by rw[ABV,Nat.mul_add_div m,Nat.div_eq_of_lt l];rfl);have r:(i*k+j)%k=j:=(by rw[ABV,Nat.mul_add_mod];exact Nat.mod_eq_of_lt l);rw[q,r];exact h
      . rintro⟨n,_,h⟩;exact⟨_,_,h⟩
  . intro n d f;have e:n<rows.length*k:=(by rw[<- D6 hk];exact(AAV.1 f).1);have m:0<k:=(Nat.eq_zero_or_pos k).elim (λh=>by subst h;simp at e) id;have hi:n/k<rows.length:=Nat.div_lt_of_lt_mul (by rw[ABV];exact e);have g:n%k<(rows[n/k]).length:=(by rw[hk _ (AAi hi)];exact Nat.mod_lt _ m);have a:=Lq hk (AAZ hi) (AAZ g);rw[ABV,Nat.div_add_mod,f]at a;obtain rfl:=AAW a
    have:=hv _ _ _ _ (AAZ hi) (AAZ g);rw[ABV,Nat.div_add_mod]at this;exact this
theorem Li(h:Ok w S d F)(f:GN d.er=true):G4 d.A0=true:=by
 cases h with
 |lf a v _ ha _=>
  cases a with
  |sc u=>rw[Kn,ha.1];exact ha.2
  |sl e k rows=>obtain⟨i,c,g⟩:=Qa (w:=w) (S:=S) ha;rw[Kn,g];rfl
  |own=>exact ha.elim
  |_=>simp[GN]at f
 |nil=>rfl
 |own bx k rows b c=>cases bx<;>simp[KW,G4]
 |agg=>simp[GN]at f
 |BZ=>simp[GN]at f
def cellsD:DV->List DV
 | .agg cs=>cs
 |d=>[d]
theorem Mj(d:DV)(b:dU d):(cellsD d).map DV.er=cellsOf d.er:=by
 cases d with
 |agg cs=>simp[cellsD,cellsOf]
 |lf a v=>cases b with|lf _ _ h=>cases a<;>simp_all [cellsD,cellsOf,DS]
 |own=>simp[cellsD,cellsOf]
 |BZ=>simp[cellsD,cellsOf]
theorem Wa(h:G4 v=true):v.cells= #[v]:=by cases v<;>simp_all [G4,Value.cells]
theorem Mp(h:Ok w S d F)(c:(cellsOf d.er).all GN=true):d.A0.cells=((cellsD d).map DV.A0).toArray:=by
 cases hd:d with
 |agg cs=>simp[cellsD,Value.cells]
 |lf a v=>
  subst hd;have e:=h.Lh;rw[<- Mj _ e]at c;simp only[cellsD,AAm,AA2,ABF,List.all_nil,Bool.and_true]at c
  have:=Li h c;simp only[cellsD,AAm,AA2];exact Wa this
 |own hh b k rows=>
  subst hd
  have:=Li h (by simp[GN]);simp only[cellsD,AAm,AA2];exact Wa this
 |BZ cs=>subst hd;simp[cellsOf,GN]at c
theorem OS(h:Ok w S d F):KT w S (cellsD d) F:=by
 have b:KT w S [d] F:=⟨F,λ_=>False,h,λ_ h=>h,λ_ _ h=>h,λx=>ak⟩;cases d with
 |agg cs=>exact CN.1 h
 |lf a v=>exact b
 |own=>exact b
 |BZ=>exact b
theorem Ja(a:Act)(d:Nat)(v:jn)(h:d<a.tmps.size)(s:Nat):(a.put (some d) v).tmps.getD s undef=if s=d then v else a.tmps.getD s undef:=by simp only[Act.put,AAn,ABJ];grind
def Ry(P:iz)(G:Gi)(w:ja)(S:iu)(Fr:iy)(a:Act)(o:Oper)(σ':Sg):Prop:=
 ∃(n:Next)(v:jn)(w':ja)(S':iu)(δ':ji)(F':iy),(execOp a.eval o).run P w= .ok n w'/\(n= .value v\/n= .skip/\v=undef)/\Rd δ' (a.put o.dst v)/\(λs=>(δ' s).er)=σ'/\
  St G w' S' δ' F'/\Nx w S (BN Fr) w' S' (BN F')
def I9(G:Gi)(a:Act)(o:Oper)(d:ABu D3):Prop:=
 match d with
 |none=>o.dst=none
 |some d=>o.dst=some d.d/\d.kl=G.Pm d.d/\d.rs=G.HA d.d/\d.d<a.tmps.size
theorem K8{e:iy}(h:St G w S1 H e)(B:Rd H a)(hd:I9 G a o (some dst))(E:(execOp a.eval o).run P w= .ok (.value D.A0) w')(F:∀b,S1 b->w'.heap[b]? =w.heap[b]?)(C:∀s x,e s x->w'.heap[x]? =w.heap[x]?)(q:∀b,S1 b->S' b)(r:∀s x,e s x->¬S' x)(z:Ok w' S' D Ff)(i:∀s x,e s x->¬Ff x)(m:Dr H D)(p:wr dst D.er (λs=>(H s).er)=some σ')(k:Nx w S (BN Fr) w' S' (λx=>BN e x\/Ff x)):Ry P G w S Fr a o σ':=by
 obtain⟨t,u,v,y⟩:=hd;obtain⟨f,F',g,n,j,l⟩:=h.wr u v F C q r z i m p;refine⟨_,D.A0,w',S',f,F',E,.inl rfl,?_,n,g,k.trans (Nx.less l)⟩;intro s;rw[t,Ja a dst.d D.A0 y s,j s];split
 . rfl
 . exact B s
theorem dI{v:AV}(h:St G w S δ Fr)(g:Rd δ a)(hd:I9 G a o (some dst))(i:Gives P w S δ a o v)(f:wr dst v (λs=>(δ s).er)=some σ'):Ry P G w S Fr a o σ':=by obtain⟨u,j,D,rfl,rfl,c,e⟩:=i;exact K8 h g hd j (λ_ _=>rfl) (λ_ _ _=>rfl) (λ_ h=>h) (λs x b=>(h.ok s).FQ x b) c (λ_ _ _ h=>h) e f (Nx.less λx b=>b.elim id False.elim)
end
section
variable{w w':ja}{S S':iu}{G:Gi}{δ:ji}{Fr:iy}{P:iz}
theorem alloc_old(w:ja)(o:Obj)(b:Nat)(h:b<w.heap.size):(w.alloc o).heap[b]? =w.heap[b]? :=by show(w.heap.push o)[b]? =_;grind
theorem dY(w:ja)(o:Obj):(w.alloc o).heap[w.heap.size]? =some o:=by show(w.heap.push o)[w.heap.size]? =_;simp
theorem Nx.alloc(w:ja)(S U c:iu)(o:Obj)(h:∀x,c x->U x\/x=w.heap.size):Nx w S U (w.alloc o) S c:=
 ⟨rfl,rfl,rfl,ak,λb a _=>alloc_old w o b a,λ_ h=>h,λ_ h=>.inl h,λd b a=>by have:=d b a;simp;omega,λx f=>(h x f).imp id (λe=>ah)⟩
def Nx.KI{w:ja}{S:iu}(h:∀x,F x\/S1 x->U x)(e:∀x,S1 x->x<w.heap.size):Nx w S U w (λx=>S x\/S1 x) F:=
 ⟨rfl,rfl,rfl,AAv _,λ_ _ _=>rfl,λ_ h=>.inl h,λx c=>c.imp id λg=>.inl (h x (.inr g)),λi b f=>f.elim (i b) (e b),λx c=>.inl (h x (.inl c))⟩
theorem runs_mv(h:St G w S δ Fr)(e:Rd δ a)(hd:I9 G a o (some dst))(l:o.op= .assign x)(k:Cc x y=true)(c:G8 G (.mv y) (some dst) (λs=>(δ s).er)=some σ'):Ry P G w S Fr a o σ':=by
 obtain⟨p,i⟩:=Aq k e;simp only[G8]at c;split at c
 . rename_i v τ m;obtain⟨q,r,D,Ff,b,g,f,j⟩:=h.tk p m;subst g;subst f;exact K8 b.st (λs=>(e s).trans (b.A0 s).symm) hd (by simp[execOp,l,i,j]) (λ_ _=>rfl) (λ_ _ _=>rfl) (λ_ h=>h) (λs x n=>(b.st.ok s).FQ x n) b.ok b.NK b.al c (Nx.less b.own)
 . cases c
theorem aG{j:iy}{c:Nat}{Fd:iu}{arr:jt}{E:jo}(h:St G w S H j)(m:∀b,S b->b<w.heap.size)(r:Rd H a)(hd:I9 G a o (some dst))(F:(execOp a.eval o).run P w= .ok (.value (KW bx w.heap.size rows.length c)) (w.alloc (.cells arr E)))(i:KT w S rows.flatten Fd)(z:∀s x,j s x->¬Fd x)(t:∀row∈rows,row.length=k)(q:if bx then rows.length=1/\arr.size=k else c*k=arr.size/\rows.length<=c)(v:∀(n:Nat) dst,rows.flatten[n]? =some dst->arr[n]? =some dst.A0)(C:wr dst (.own bx k (rows.map (·.map DV.er))) (λs=>(H s).er)=some σ')(B:∀x,BN j x\/Fd x->BN Fr x):Ry P G w S Fr a o σ':=by
 have p:=(CN.2 i).lt;have l:=(CN.2 i).FQ;have hold:∀b,b<w.heap.size->(w.alloc (.cells arr E)).heap[b]? =w.heap[b]? :=λb e=>alloc_old _ _ _ e;have y:Ok (w.alloc (.cells arr E)) S (.own (KW bx w.heap.size rows.length c) bx k rows) (λx=>x=w.heap.size\/Fd x):=by refine uM (dY w _) t q (λu=>aS) ?_ (λu=>aS) v;exact i.mono (λb e=>hold b (m b e)) (λb e=>hold b (p b e)) (λ_ h=>h) l
 refine K8 (D:=.own (KW bx w.heap.size rows.length c) bx k rows) h r hd am (λb e=>hold b (m b e)) (λs x g=>hold x ((h.ok s).lt x g)) (λ_ h=>h) (λs x g=>(h.ok s).FQ x g) y ?_ (.own _ _ _ _) am ?_
 . rintro s x g (rfl|hf)
   . have:=(h.ok s).lt _ g;omega
   grind
 . refine Nx.alloc _ _ _ _ _ ?_;grind
theorem xO(h:St G w S δ Fr)(i:∀b,S b->b<w.heap.size)(r:Rd δ a)(hd:I9 G a o (some dst))(B:YO y)(x:(execOp a.eval o).run P w= .ok (.value (.pointer (some ⟨w.heap.size,0,none⟩))) (w.alloc (.cells (DL δ y).cells t)))(f:G8 G (.bx n y) (some dst) (λs=>(δ s).er)=some σ'):Ry P G w S Fr a o σ':=by
 simp only[G8]at f;split at f
 . rename_i v τ z;split at f
   . rename_i l;obtain⟨hn,g⟩:=l;obtain⟨C,F,D,Ff,e,m,j,q⟩:=h.tk B z;subst m;subst j;have u:=Mj D e.ok.Lh;have H:(cellsD D).length=n:=(by rw[<- hn,<- u];simp);have p:=Mp e.ok g;rw[q]at p;refine aG (bx:=true) (k:=n) (c:=0) (rows:=[cellsD D]) (Fd:=Ff) (arr:=(DL δ y).cells) (E:=t) e.st i (λs=>(r s).trans (e.A0 s).symm) hd (by rw[x];simp[KW]) (by simpa using OS e.ok) e.NK am ?_ ?_ ?_ e.own
     all_goals simp_all
   . cases f
 . cases f
theorem xN{P:iz}(t:jo)(v:jn)(w:ja):(Instr.box t v).run P w= .ok (.pointer (some ⟨w.heap.size,0,none⟩)) (w.alloc (.cells v.cells t)):=by simp[Instr.box,newVar,newRow]
theorem run_alloc{P:iz}(t:jo)(i:TypeInfo)(z:jn)(hi:P.info? t=some i)(a:i.zero=some z)(w:ja):(Instr.alloc t true (.tuple #[])).run P w= .ok (.pointer (some ⟨w.heap.size,0,none⟩)) (w.alloc (.cells z.cells t)):=by simp[Instr.alloc,zeroValue,typeInfo,hi,a,newVar,newRow]
theorem YV(off:Nat)(z:KT w S l F)(B:KT w S row U)(hd:∀x,F x->¬U x)(G:off+row.length<=l.length):
 ∃n,KT w S (l.take off++row++l.drop (off+row.length)) n/\∀x,n x->F x\/U x:=by
 obtain⟨g,q,g2,s,p⟩:=Ki.1 z;obtain⟨Fr,C,D,E,u⟩:=Ki.1 B;have d:∀i,(l.take off++row++l.drop (off+row.length))[i]? =if i<off then l[i]? else if i<off+row.length then row[i-off]? else l[i]? :=by
  intro i;have j:(l.take off).length=off:=an
  by_cases b:i<off
  . rw[ABi,AA0 ah,ABe,AAb b,AAb b]
  . by_cases c:i<off+row.length
    . rw[AA0 an,AAx ah,j,AAa b,AAb c]
    . rw[AAx an,List.getElem?_drop,AAa b,AAa c];congr 1;simp;omega
 refine⟨λx=>∃i,(if i<off then g i x else if i<off+row.length then Fr (i-off) x else g i x),Ki.2 ⟨λi x=>if i<off then g i x else if i<off+row.length then Fr (i-off) x else g i x,?_,?_,?_,λx=>Iff.rfl⟩,?_⟩
 . intro i e f;rw[d]at f;by_cases b:i<off
   . simp only[b,AAy]at f |-;exact q i e f
   . by_cases c:i<off+row.length
     . simp only[b,c,AAy,AAk]at f |-;exact C _ e f
     . simp only[b,c,AAk]at f |-;exact q i e f
 . intro i t x a k;have out:∀i,g i x->F x:=λi h=>(p x).2 ⟨i,h⟩;have m:∀i,Fr i x->U x:=λi h=>(u x).2 ⟨i,h⟩;by_cases b:i<off<;>by_cases c:t<off<;>by_cases v:i<off+row.length<;>by_cases y:t<off+row.length<;>simp only[b,c,v,y,AAy,AAk]at a k<;>
    first
     |exact g2 _ _ x a k
     |exact absurd (m _ k) (hd x (out _ a))
     |exact absurd (m _ a) (hd x (out _ k))
     | (have:=D _ _ x a k;omega)
     |omega
 . intro i x a;rw[d];by_cases b:i<off
   . simp only[b,AAy]at a |-;exact s i x a
   . by_cases c:i<off+row.length
     . simp only[b,c,AAy,AAk]at a |-;exact E _ x a
     . simp only[b,c,AAk]at a |-;exact s i x a
 . rintro x ⟨i,a⟩;by_cases b:i<off
   . simp only[b,AAy]at a;exact .inl ((p x).2 ⟨i,a⟩)
   . by_cases c:i<off+row.length
     . simp only[b,c,AAy,AAk]at a;exact .inr ((u x).2 ⟨_,a⟩)
     . simp only[b,c,AAk]at a;exact .inl ((p x).2 ⟨i,a⟩)
theorem vG(ds r:jl)(off:Nat):(ds.take off++r++ds.drop (off+r.length)).map DV.er=kU (ds.map DV.er) off (r.map DV.er):=by simp[kU,List.map_take,List.map_drop]
theorem fold_set(vs:jj)(off:Nat)(a:jt)(h:off+vs.length<=a.size)(m:Nat):
 ((vs.zipIdx m).foldl (λd (x:Value×Nat)=>d.setIfInBounds (off+x.2) x.1) a).toList=a.toList.take (off+m)++vs++a.toList.drop (off+m+vs.length)\/off+m+vs.length>a.size:=by
 induction vs generalizing a m with
 |nil=>left;simp
 |cons v vs ih=>
  by_cases e:off+m+(v::vs).length>a.size
  . omega
  . left
    simp only[List.zipIdx_cons,List.foldl_cons];have b:=ih (a.setIfInBounds (off+m) v) aS (m+1);simp only[Array.size_setIfInBounds]at b;rcases b with b|b
    . rw[b];have c:off+m<a.toList.length:=(by simp at e |-;omega);simp only[Array.toList_setIfInBounds];rw[List.take_set,List.drop_set_of_lt ah];rw[show off+(m+1)=off+m+1 from by omega,List.take_succ_eq_append_getElem c,List.set_append_right _ _ an];simp only[List.length_take,Nat.min_eq_left (Nat.le_of_lt c),Nat.sub_self,List.set_cons_zero,ABi,ABE,ABU,List.nil_append];grind
    grind
end
end Go.Abs
