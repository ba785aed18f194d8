/- A calculus of abstract states of Go memory, and that it is sound. -/
import Derived.Orders
import Derived.Deep.LoopGhost
import Derived.Laws.Cells
import Derived.Laws.Small
import Derived.Laws.AppendOwn
import Derived.Laws.CopyRow
import Derived.Laws.StructEq
set_option linter.unusedSimpArgs false
set_option linter.unusedVariables false
set_option linter.defProp false
namespace Go.Abs
abbrev dc:=List Int
abbrev de:=Nat->Prop
abbrev dh:=Nat->Nat->Prop
abbrev du:=List (List Int)
abbrev dF:=List Nat
abbrev d3:=List (List Bool)
abbrev eb:=List Bool
abbrev e8:=Nat->Bool
abbrev fF:=List (Nat×Nat×Nat×Nat)
abbrev ip:=Nat->List Nat
abbrev iw:=Int->Prop
def ah{p:Prop}(h:p:=by omega):p:=h
def ak{p:Prop}(h:p:=by simp):p:=h
def am{p:Prop}(h:p:=by simp_all):p:=h
def an{p:Prop}(h:p:=by simp;omega):p:=h
def aA{p:Prop}(h:p:=by simp only;omega):p:=h
def aS{p:Prop}(h:p:=by decide):p:=h
def bg{p:Prop}(h:p:=by grind):p:=h
variable{J q:Prop}
def bk(h:J->q:=by intro h;cases h):J->q:=h
def bm{p:Prop}(h:p:=by assumption):p:=h
def ck(h:J->q:=by intro h;omega):J->q:=h
def AA0:=@Option.isNone_iff_eq_none
def AA1:=@List.map_set
def AA2:=@or_false
def AA3:=@List.not_mem_nil
def AA4:=@beq_self_eq_true
def AA5:=@Nat.le_trans
def AA6:=@Nat.mul_comm
def AA7:=@List.drop_eq_getElem_cons
def AA8:=@List.length_cons
def AA9:=@List.all_map
def AAB:=@Option.bind_some
def AAC:=@Option.some.injEq
def AAD:=@Bool.and_eq_true
def AAE:=@List.getElem?_eq_some_iff
def AAF:=@List.getElem?_set_self
def AAG:=@Option.some.inj
def AAH:=@List.all_eq_true
def AAI:=@List.getElem?_set_ne
def AAJ:=@List.getElem?_eq_getElem
def AAK:=@if_neg
def AAL:=@if_pos
def AAM:=@Bool.false_eq_true
def AAN:=@List.getElem?_map
def AAO:=@of_decide_eq_true
def AAP:=@List.mem_of_getElem?
def AAQ:=@Prod.mk.injEq
def AAR:=@beq_iff_eq
def AAS:=@List.getElem_mem
def AAT:=@if_false
def AAU:=@List.map_cons
def AAV:=@decide_eq_true_eq
def AAW:=@List.mem_append
def AAX:=@List.take_append_getElem
def AAY:=@Bool.true_and
def AAZ:=@Array.getD_eq_getD_getElem?
def AAa:=@List.getElem?_append_right
def AAb:=@List.contains_iff_mem
def AAc:=@Option.map_eq_some_iff
def AAd:=@List.getElem?_of_mem
def AAe:=@Nat.le_refl
def AAf:=@Option.map_some
def AAg:=@List.getElem?_append_left
def AAh:=@List.mem_or_eq_of_mem_set
def AAi:=@if_true
def AAj:=@List.drop_zero
def AAk:=@Bool.or_eq_true
def AAl:=@List.mem_singleton
def AAm:=@List.map_nil
def AAn:=@List.mem_cons
def AAo:=@List.length_map
def AAp:=@List.map_append
def AAq:=@List.take_of_length_le
def AAr:=@List.length_append
def AAs:=@Array.getElem?_eq_some_iff
def AAt:=@List.getElem?_cons_zero
def AAu:=@List.getElem?_cons_succ
def AAv:=@List.eq_nil_iff_forall_not_mem
def AAw:=@Nat.mul_le_mul_right
def AAx:=@List.cons_append
def AAy:=@List.all_cons
def AAz:=@Int.toNat_natCast
def ABA:=@List.take_append_drop
def ABB:=@Array.getElem?_setIfInBounds
def ABC:=@List.getElem?_take
def ABD:=@List.mem_cons_self
def ABE:=@Nat.lt_of_lt_of_le
def ABF:=@Nat.succ_mul
def ABG:=@List.append_assoc
def ABH:=@List.mem_map_of_mem
def ABI:=@beq_eq_false_iff_ne
def ABJ:=@List.map_eq_singleton_iff
def ABK:=@List.length_nil
def ABL:=@List.length_replicate
def ABM:=@Nat.zero_add
def ABN:=@List.mem_cons_of_mem
def ABO:=@List.mem_map
def ABP:=@Bool.not_eq_true'
def ABQ:=@List.ext_getElem?
def ABR:=@List.getElem_of_mem
def ABS:=@List.length_take_of_le
def ABT:=@Array.ext'
def ABU:=@List.getElem?_eq_none
def ABV:=@List.map_take
def ABW:=@List.mem_of_find?_eq_some
def ABX:=@List.mem_of_mem_take
def ABY:=@List.replicate_succ'
def ABZ:=@congrArg
def ABa:=@Bool.eq_iff_iff
def ABb:=@Iff.rfl
def ABc:=@List.append_nil
abbrev ABd(a:Type _):=Option a
abbrev df:=Int->ABd Bool
abbrev dq:=ABd (Nat×Bool)
abbrev dz:=(List Int)->Int->ABd (List Int)
abbrev dG:=(List Int)->(List Int)->Int->ABd ((List Int)×(List Int))
abbrev d7:=Int->Int->ABd Bool
abbrev d8:=Int->Int->Int->Int->Int->ABd (Int×Int)
abbrev ew:=Int->ABd (Int×Int)
abbrev fc:=Int->Bool->Int->ABd Bool
abbrev gm:=Int->Int->ABd Int
abbrev gu:=Nat->ABd (Nat×Nat)
abbrev ib:=Int->Int->Int->ABd Bool
abbrev ig:=Int->ABd Int
abbrev ii:=ABd (Int×Int)
abbrev im:=ABd Nat
abbrev iz:=Nat->ABd Bool
abbrev i6:=ABd Int
abbrev ABe:=ByteArray
abbrev dt:=(List ABe)->Int->ABd ((List ABe)×Bool)
abbrev dv:=List ABe
abbrev fb:=ABe->Prop
abbrev fe:=List ABe->Int->ABd (List ABe×Bool)
abbrev gr:=(List ABe)×Bool
abbrev Step:=Nat×Nat×Nat
abbrev di:=List Step
abbrev eu:=List (Nat×List Step)
abbrev ff:=ABd (Nat×List Step)
inductive AV where
 |sc (v:Value)
 |sl (x:Bool) (k:Nat) (rows:List (List AV))
 |own (b:Bool) (k:Nat) (rows:List (List AV))
 |agg (cs:List AV)
 |BQ (cs:List AV)
 |al (r:Nat) (p:List Step)
 |Kk (r:Nat) (p:List Step) (i j k:Nat)
 |fp (cs:List AV)
 |dead
 |un
 |cl (f:Nat) (rs:List (Nat×List Step))
 |vb (s off:Nat) (us:List Value)
 |oT (f:Nat) (WA:List (List AV))
 deriving Inhabited
abbrev dm:=List AV
abbrev dn:=List (List AV)
abbrev gp:=List (List AV->Prop)
abbrev Sg:=Nat->AV
abbrev dg:=Sg->Prop
abbrev ga:=Nat->Sg->Prop
abbrev gk:=ABd (List AV×Sg)
variable{α:Type}
def DZ(h:Nat->α)(d:Nat)(v:α):Nat->α:=λs=>if s=d then v else h s
theorem BM(h:Nat->α)(d:Nat)(v:α):DZ h d v d=v:=by simp[DZ]
variable{k n:Nat}
theorem Ba(W:Nat->α)(v:α)(h:n≠k):DZ W k v n=W n:=by simp[DZ,h]
def sub:AV->List Step->ABd AV
 |a,[]=>some a
 | .own _ _ rows,(i,j,_)::p=>match rows[i]? with
  |some row=>match row[j]? with
   |some c=>sub c p
   |none=>none
  |none=>none
 | .agg cs,(_,j,_)::p=>match cs[j]? with
  |some c=>sub c p
  |none=>none
 | .BQ cs,(_,j,_)::p=>match cs[j]? with
  |some c=>sub c p
  |none=>none
 |_,_::_=>none
def put:AV->List Step->AV->ABd AV
 |_,[],x=>some x
 | .own b k rows,(i,j,_)::p,x=>match rows[i]? with
  |some row=>match row[j]? with
   |some c=>match put c p x with
    |some c'=>some (.own b k (rows.set i (row.set j c')))
    |none=>none
   |none=>none
  |none=>none
 | .agg cs,(_,j,_)::p,x=>match cs[j]? with
  |some c=>match put c p x with
   |some c'=>some (.agg (cs.set j c'))
   |none=>none
  |none=>none
 | .BQ cs,(_,j,_)::p,x=>match cs[j]? with
  |some c=>match put c p x with
   |some c'=>some (.BQ (cs.set j c'))
   |none=>none
  |none=>none
 |_,_::_,_=>none
inductive DV where
 |lf (a:AV) (v:Value)
 |own (h:Value) (b:Bool) (k:Nat) (rows:List (List DV))
 |agg (cs:List DV)
 |BQ (cs:List DV)
 deriving Inhabited
abbrev dr:=List (List DV)
abbrev dy:=Nat->DV
abbrev dH:=List DV
mutual
def DV.er:DV->AV
 | .lf a _=>a
 | .own _ b k rows=>.own b k (erR rows)
 | .agg cs=>.agg (erL cs)
 | .BQ cs=>.BQ (erL cs)
def erL:List DV->List AV
 |[]=>[]
 |d::r=>d.er::erL r
def erR:List (List DV)->List (List AV)
 |[]=>[]
 |d::r=>erL d::erR r
end
theorem oS(l:dH):erL l=l.map DV.er:=by
 induction l with
 |nil=>rfl
 |cons d r ih=>simp[erL,ih]
theorem erR_eq(l:dr):erR l=l.map (·.map DV.er):=by
 induction l with
 |nil=>rfl
 |cons d r ih=>simp[erR,ih,oS]
mutual
def DV.A0:DV->Value
 | .lf _ v=>v
 | .own h _ _ _=>h
 | .agg cs=>.agg (annL cs).toArray
 | .BQ cs=>.tuple (annL cs).toArray
def annL:List DV->List Value
 |[]=>[]
 |d::r=>d.A0::annL r
end
theorem rN(l:dH):annL l=l.map DV.A0:=by
 induction l with
 |nil=>rfl
 |cons d r ih=>simp[annL,ih]
@[simp]theorem EY(a:AV)(v:Value):(DV.lf a v).er=a:=by simp[DV.er]
@[simp]theorem Eg(h:Value)(b:Bool)(k:Nat)(rows:dr):(DV.own h b k rows).er= .own b k (rows.map (·.map DV.er)):=by simp[DV.er,erR_eq]
@[simp]theorem HM(a:dH):(DV.agg a).er= .agg (a.map DV.er):=by simp[DV.er,oS]
@[simp]theorem JG(a:dH):(DV.BQ a).er= .BQ (a.map DV.er):=by simp[DV.er,oS]
@[simp]theorem KN(a:AV)(v:Value):(DV.lf a v).A0=v:=by simp[DV.A0]
@[simp]theorem Kf(h:Value)(b:Bool)(k:Nat)(rows:dr):(DV.own h b k rows).A0=h:=by simp[DV.A0]
@[simp]theorem Jh(a:dH):(DV.agg a).A0= .agg (a.map DV.A0).toArray:=by simp[DV.A0,rN]
@[simp]theorem LF(a:dH):(DV.BQ a).A0= .tuple (a.map DV.A0).toArray:=by simp[DV.A0,rN]
def Au:DV->List Step->Option DV
 |a,[]=>some a
 | .own _ _ _ rows,(i,j,_)::p=>match rows[i]? with
  |some row=>match row[j]? with
   |some c=>Au c p
   |none=>none
  |none=>none
 | .agg cs,(_,j,_)::p=>match cs[j]? with
  |some c=>Au c p
  |none=>none
 | .BQ cs,(_,j,_)::p=>match cs[j]? with
  |some c=>Au c p
  |none=>none
 |_,_::_=>none
def Di:DV->List Step->DV->Option DV
 |_,[],x=>some x
 | .own h b k rows,(i,j,_)::p,x=>match rows[i]? with
  |some row=>match row[j]? with
   |some c=>match Di c p x with
    |some c'=>some (.own h b k (rows.set i (row.set j c')))
    |none=>none
   |none=>none
  |none=>none
 | .agg cs,(_,j,_)::p,x=>match cs[j]? with
  |some c=>match Di c p x with
   |some c'=>some (.agg (cs.set j c'))
   |none=>none
  |none=>none
 | .BQ cs,(_,j,_)::p,x=>match cs[j]? with
  |some c=>match Di c p x with
   |some c'=>some (.BQ (cs.set j c'))
   |none=>none
  |none=>none
 |_,_::_,_=>none
def C8:AV->Bool
 | .own .. | .agg _| .BQ _=>false
 |_=>true
inductive Zn:DV->Prop
 |lf (a v) (h:C8 a=true):Zn (.lf a v)
 |own (h b k rows) (hr:∀(i j:Nat) row d,rows[i]? =some row->row[j]? =some d->Zn d):Zn (.own h b k rows)
 |agg (cs) (hr:∀(i:Nat) d,cs[i]? =some d->Zn d):Zn (.agg cs)
 |BQ (cs) (hr:∀(i:Nat) d,cs[i]? =some d->Zn d):Zn (.BQ cs)
variable{d new:DV}{p:di}
theorem Zn.Au(h:Zn d)(e:Au d p=some new):Zn new:=by
 induction p generalizing d with
 |nil=>simp only[Abs.Au,Option.some.injEq]at e;exact e▸h
 |cons s p ih=>
  obtain⟨i,j,k⟩:=s;cases h with
  |lf a v h=>simp[Abs.Au]at e
  |own hh b k' rows hr=>
   simp only[Abs.Au]at e;split at e
   . split at e
     . rename_i row g _ c f;exact ih (hr i j row c g f) e
     . cases e
   . cases e
  |agg cs hr=>
   simp only[Abs.Au]at e;split at e
   . rename_i c f;exact ih (hr j c f) e
   . cases e
  |BQ cs hr=>
   simp only[Abs.Au]at e;split at e
   . rename_i c f;exact ih (hr j c f) e
   . cases e
theorem Dt{a:AV}(h:Zn d)(e:sub d.er p=some a):∃x,Au d p=some x/\x.er=a:=by
 induction p generalizing d with
 |nil=>simp only[sub,Option.some.injEq]at e;exact⟨d,rfl,e⟩
 |cons s p ih=>
  obtain⟨i,j,k⟩:=s;cases h with
  |lf b v h=>cases b<;>simp_all [sub,C8]
  |own hh b k' rows hr=>
   simp only[Eg,sub,List.getElem?_map]at e;cases hi:rows[i]? with
   |none=>simp[hi]at e
   |some row=>
    simp only[hi,Option.map_some,List.getElem?_map]at e;cases hj:row[j]? with
    |none=>simp[hj]at e
    |some c=>simp only[hj,Option.map_some]at e;obtain⟨x,g,f⟩:=ih (hr i j row c hi hj) e;exact⟨x,by simp[Au,hi,hj,g],f⟩
  |agg cs hr=>
   simp only[HM,sub,List.getElem?_map]at e;cases hj:cs[j]? with
   |none=>simp[hj]at e
   |some c=>simp only[hj,Option.map_some]at e;obtain⟨x,g,f⟩:=ih (hr j c hj) e;exact⟨x,by simp[Au,hj,g],f⟩
  |BQ cs hr=>
   simp only[JG,sub,List.getElem?_map]at e;cases hj:cs[j]? with
   |none=>simp[hj]at e
   |some c=>simp only[hj,Option.map_some]at e;obtain⟨x,g,f⟩:=ih (hr j c hj) e;exact⟨x,by simp[Au,hj,g],f⟩
theorem G5{a:AV}(x:DV)(h:Zn d)(e:put d.er p x.er=some a):∃t,Di d p x=some t/\t.er=a:=by
 induction p generalizing d a with
 |nil=>simp only[put,Option.some.injEq]at e;exact⟨x,rfl,e⟩
 |cons s p ih=>
  obtain⟨i,j,k⟩:=s;cases h with
  |lf b v h=>cases b<;>simp_all [put,C8]
  |own hh b k' rows hr=>
   simp only[Eg,put,List.getElem?_map]at e;cases hi:rows[i]? with
   |none=>simp[hi]at e
   |some row=>
    simp only[hi,Option.map_some,List.getElem?_map]at e;cases hj:row[j]? with
    |none=>simp[hj]at e
    |some c=>
     simp only[hj,Option.map_some]at e;cases hp:put c.er p x.er with
     |none=>simp[hp]at e
     |some c'=>simp only[hp,Option.some.injEq]at e;obtain⟨t,g,f⟩:=ih (hr i j row c hi hj) hp;refine⟨.own hh b k' (rows.set i (row.set j t)),by simp[Di,hi,hj,g],?_⟩;rw[<- e,<- f];simp[List.map_set]
  |agg cs hr=>
   simp only[HM,put,List.getElem?_map]at e;cases hj:cs[j]? with
   |none=>simp[hj]at e
   |some c=>
    simp only[hj,Option.map_some]at e;cases hp:put c.er p x.er with
    |none=>simp[hp]at e
    |some c'=>simp only[hp,Option.some.injEq]at e;obtain⟨t,g,f⟩:=ih (hr j c hj) hp;refine⟨.agg (cs.set j t),by simp[Di,hj,g],?_⟩;rw[<- e,<- f];simp[List.map_set]
  |BQ cs hr=>
   simp only[JG,put,List.getElem?_map]at e;cases hj:cs[j]? with
   |none=>simp[hj]at e
   |some c=>
    simp only[hj,Option.map_some]at e;cases hp:put c.er p x.er with
    |none=>simp[hp]at e
    |some c'=>simp only[hp,Option.some.injEq]at e;obtain⟨t,g,f⟩:=ih (hr j c hj) hp;refine⟨.BQ (cs.set j t),by simp[Di,hj,g],?_⟩;rw[<- e,<- f];simp[List.map_set]
variable{v:Value}{f:dm}
section
def GJ:Value->Bool
 | .agg _| .tuple _=>false
 |_=>true
def JT(bx:Bool)(b n c:Nat):Value:=if bx then .pointer (some ⟨b,0,none⟩)else .slice (some ⟨b,0,none⟩) n c
inductive Fz (w:World) (S:Nat->Prop):AV->Value->Prop
 |sc (v:Value) (hp:GJ v=true):Fz w S (.sc v) v
 |dead (v:Value):Fz w S .dead v
 |nil (x:Bool) (k:Nat) (a:ABd Addr) (c:Nat) (hx:x=true->c=0):Fz w S (.sl x k []) (.slice a 0 c)
 |sl (x:Bool) (k:Nat) (rows:List (List AV)) (b off c:Nat) (vs:Nat->Nat->Value) (hx:x=true->c=rows.length) (QW:rows.length<=c) (hS:S b)
  (hk:∀row∈rows,row.length=k)
  (hc:∀i j row a,rows[i]? =some row->row[j]? =some a->w.cell? ⟨b,off+(i*k+j),none⟩=some (vs i j))
  (hr:∀i j row a,rows[i]? =some row->row[j]? =some a->Fz w S a (vs i j)):Fz w S (.sl x k rows) (.slice (some ⟨b,off,none⟩) rows.length c)
 |agg (cs:List AV) (vs:List Value) (hs:vs.length=cs.length) (h:∀(i:Nat) a v,cs[i]? =some a->vs[i]? =some v->Fz w S a v):Fz w S (.agg cs) (.agg vs.toArray)
 |BQ (cs:List AV) (vs:List Value) (hs:vs.length=cs.length) (h:∀(i:Nat) a v,cs[i]? =some a->vs[i]? =some v->Fz w S a v):Fz w S (.BQ cs) (.tuple vs.toArray)
theorem Fz.mono{w w':World}{S S':de}{a:AV}(h:Fz w S a v)(g:∀b,S b->w'.heap[b]? =w.heap[b]?)(f:∀b,S b->S' b):Fz w' S' a v:=by
 induction h with
 |sc v hp=>exact .sc v hp
 |dead v=>exact .dead v
 |nil x k a c hx=>exact .nil x k a c hx
 |sl x k rows b off c vs hx QW hb hk hc hr ih=>refine .sl x k rows b off c vs hx QW (f b hb) hk (λi j row a d e=> ?_) (λi j row a d e=>ih i j row a d e);rw[<- hc i j row a d e];simp only[World.cell?,g b hb]
 |agg cs vs hs h ih=>exact .agg cs vs hs ih
 |BQ cs vs hs h ih=>exact .BQ cs vs hs ih
def FpOK(w:World)(S:de)(cs:dm)(v:Value):Prop:=∃b off,v= .pointer (some ⟨b,off,none⟩)/\S b/\∀(j:Nat) a,cs[j]? =some a->∃u,w.cell? ⟨b,off+j,none⟩=some u/\Fz w S a u
theorem FpOK.mono{w w':World}{S S':de}(h:FpOK w S f v)(c:∀b,S b->w'.heap[b]? =w.heap[b]?)(d:∀b,S b->S' b):FpOK w' S' f v:=by obtain⟨b,off,rfl,e,g⟩:=h;refine⟨b,off,rfl,d b e,λj a k=> ?_⟩;obtain⟨u,l,i⟩:=g j a k;refine⟨u,?_,i.mono c d⟩;rw[<- l];simp only[World.cell?,c b e]
def Hc(w:World)(S:de):AV->Value->Prop
 | .sc u,v=>v=u/\GJ u=true
 | .sl x k rows,v=>Fz w S (.sl x k rows) v
 | .fp cs,v=>∃b off,v= .pointer (some ⟨b,off,none⟩)/\S b/\∀(j:Nat) a,cs[j]? =some a->∃u,w.cell? ⟨b,off+j,none⟩=some u/\Fz w S a u
 | .un,v=>v=undef
 | .al ..,_=>True
 | .Kk ..,_=>True
 | .dead,_=>True
 | .cl ..,_=>True
 | .oT f WA,v=>∃vs:List Value,v= .func (.func f) #[] vs.toArray/\vs.length=WA.length/\∀(i:Nat) cs u,WA[i]? =some cs->vs[i]? =some u->FpOK w S cs u
 | .vb _ off us,v=>∃b,v= .pointer (some ⟨b,off,none⟩)/\S b/\∀(j:Nat) u,us[j]? =some u->w.cell? ⟨b,j,none⟩=some u
 |_,_=>False
theorem Hc.C8{w:World}{S:de}{a:AV}(h:Hc w S a v):C8 a=true:=by cases a<;>simp_all [Hc,Abs.C8]
theorem Hc.mono{w w':World}{S S':de}{a:AV}(h:Hc w S a v)(e:∀b,S b->w'.heap[b]? =w.heap[b]?)(c:∀b,S b->S' b):Hc w' S' a v:=by
 cases a with
 |sl x k rows=>exact Fz.mono h e c
 |fp n=>obtain⟨b,off,rfl,d,g⟩:=h;refine⟨b,off,rfl,c b d,λj a l=> ?_⟩;obtain⟨u,m,r⟩:=g j a l;refine⟨u,?_,r.mono e c⟩;rw[<- m];simp only[World.cell?,e b d]
 |sc u=>exact h
 |own=>exact h
 |agg=>exact h
 |BQ=>exact h
 |al=>exact h
 |Kk=>exact h
 |dead=>exact h
 |un=>exact h
 |cl=>exact h
 |oT f WA=>obtain⟨vs,o,p,q⟩:=h;exact⟨vs,o,p,λi n u hi m=>(q i n u hi m).mono e c⟩
 |vb s off us=>obtain⟨b,rfl,d,g⟩:=h;refine⟨b,rfl,c b d,λj u l=> ?_⟩;rw[<- g j u l];simp only[World.cell?,e b d]
inductive Ok (w:World) (S:Nat->Prop):DV->(Nat->Prop)->Prop
 |lf (a:AV) (v:Value) (F:Nat->Prop) (ha:Hc w S a v) (hF:∀x,¬F x):Ok w S (.lf a v) F
 |nil (k:Nat) (F:Nat->Prop) (hF:∀x,¬F x):Ok w S (.own (.slice none 0 0) false k []) F
 |own (bx:Bool) (k:Nat) (rows:List (List DV)) (b c:Nat) (arr:Array Value) (E:TypeId) (Fs:Nat->Nat->Nat->Prop) (F:Nat->Prop)
  (hb:w.heap[b]? =some (.cells arr E (0,0))) (hk:∀row∈rows,row.length=k)
  (D3:if bx then rows.length=1/\arr.size=k else c*k=arr.size/\rows.length<=c) (hS:¬S b)
  (hv:∀(i j:Nat) row d,rows[i]? =some row->row[j]? =some d->arr[i*k+j]? =some d.A0)
  (hr:∀(i j:Nat) row d,rows[i]? =some row->row[j]? =some d->Ok w S d (Fs i j))
  (hd:∀i j i' j' x,Fs i j x->Fs i' j' x->i=i'/\j=j')
  (Bg:∀i j x,Fs i j x->∃row d,rows[i]? =some row/\row[j]? =some d) (KE:∀i j,¬Fs i j b)
  (hF:∀x,F x↔x=b\/∃i j,Fs i j x):Ok w S (.own (JT bx b rows.length c) bx k rows) F
 |agg (cs:List DV) (Fs:Nat->Nat->Prop) (F:Nat->Prop) (hr:∀(i:Nat) d,cs[i]? =some d->Ok w S d (Fs i))
  (hd:∀i i' x,Fs i x->Fs i' x->i=i') (Bg:∀i x,Fs i x->∃d,cs[i]? =some d) (hF:∀x,F x↔∃i,Fs i x):Ok w S (.agg cs) F
 |BQ (cs:List DV) (Fs:Nat->Nat->Prop) (F:Nat->Prop) (hr:∀(i:Nat) d,cs[i]? =some d->Ok w S d (Fs i))
  (hd:∀i i' x,Fs i x->Fs i' x->i=i') (Bg:∀i x,Fs i x->∃d,cs[i]? =some d) (hF:∀x,F x↔∃i,Fs i x):Ok w S (.BQ cs) F
variable{w w':World}{S S':de}{d:DV}{F F':de}
theorem Ok.Kt(h:Ok w S d F):Zn d:=by
 induction h with
 |lf a v F ha hF=>exact .lf a v ha.C8
 |nil k F hF=>exact .own _ _ _ _ ak
 |own bx k rows b c arr E Fs F hb hk D3 hS hv hr hd Bg KE hF ih=>exact .own _ _ _ _ ih
 |agg cs Fs F hr hd Bg hF ih=>exact .agg cs ih
 |BQ cs Fs F hr hd Bg hF ih=>exact .BQ cs ih
theorem Ok.Et(h:Ok w S d F):∀x,F x->¬S x:=by
 induction h with
 |lf a v F ha hF=>exactλx e=>absurd e (hF x)
 |nil k F hF=>exactλx e=>absurd e (hF x)
 |own bx k rows b c arr E Fs F hb hk D3 hS hv hr hd Bg KE hF ih=>
  intro x e;rcases(hF x).1 e with rfl|⟨i,j,h⟩
  . exact hS
  . obtain⟨row,d,f,g⟩:=Bg i j x h;exact ih i j row d f g x h
 |agg cs Fs F hr hd Bg hF ih=>intro x e;obtain⟨i,h⟩:=(hF x).1 e;obtain⟨d,f⟩:=Bg i x h;exact ih i d f x h
 |BQ cs Fs F hr hd Bg hF ih=>intro x e;obtain⟨i,h⟩:=(hF x).1 e;obtain⟨d,f⟩:=Bg i x h;exact ih i d f x h
theorem Ok.lt(h:Ok w S d F):∀x,F x->x<w.heap.size:=by
 induction h with
 |lf a v F ha hF=>exactλx e=>absurd e (hF x)
 |nil k F hF=>exactλx e=>absurd e (hF x)
 |own bx k rows b c arr E Fs F hb hk D3 hS hv hr hd Bg KE hF ih=>
  intro x e;rcases(hF x).1 e with rfl|⟨i,j,h⟩
  . exact(AAs.1 hb).1
  . obtain⟨row,d,f,g⟩:=Bg i j x h;exact ih i j row d f g x h
 |agg cs Fs F hr hd Bg hF ih=>intro x e;obtain⟨i,h⟩:=(hF x).1 e;obtain⟨d,f⟩:=Bg i x h;exact ih i d f x h
 |BQ cs Fs F hr hd Bg hF ih=>intro x e;obtain⟨i,h⟩:=(hF x).1 e;obtain⟨d,f⟩:=Bg i x h;exact ih i d f x h
theorem Ok.congr(h:Ok w S d F)(a:∀x,F' x↔F x):Ok w S d F':=by have:F'=F:=funext λx=>propext (a x);exact this▸h
theorem Ok.mono(h:Ok w S d F)(n:∀b,S b->w'.heap[b]? =w.heap[b]?)(g:∀b,F b->w'.heap[b]? =w.heap[b]?)(m:∀b,S b->S' b)(hn:∀x,F x->¬S' x):Ok w' S' d F:=by
 induction h with
 |lf a v F ha hF=>exact .lf a v F (ha.mono n m) hF
 |nil k F hF=>exact .nil k F hF
 |own bx k rows b c arr E Fs F hb hk D3 LJ hv hr hd Bg KE hF ih=>
  refine .own bx k rows b c arr E Fs F ?_ hk D3 (hn b ((hF b).2 (.inl rfl))) hv (λi j row d f l=>ih i j row d f l ?_ ?_) hd Bg KE hF
  . rw[g b ((hF b).2 (.inl rfl))];exact hb
  . exactλx e=>g x ((hF x).2 (.inr ⟨i,j,e⟩))
  . exactλx e=>hn x ((hF x).2 (.inr ⟨i,j,e⟩))
 |agg cs Fs F hr hd Bg hF ih=>exact .agg cs Fs F (λi d f=>ih i d f (λx e=>g x ((hF x).2 ⟨i,e⟩)) (λx e=>hn x ((hF x).2 ⟨i,e⟩))) hd Bg hF
 |BQ cs Fs F hr hd Bg hF ih=>exact .BQ cs Fs F (λi d f=>ih i d f (λx e=>g x ((hF x).2 ⟨i,e⟩)) (λx e=>hn x ((hF x).2 ⟨i,e⟩))) hd Bg hF
theorem Ok.Au(h:Ok w S d F)(f:Au d p=some new):∃F',Ok w S new F'/\∀y,F' y->F y:=by
 induction p generalizing d F with
 |nil=>simp only[Abs.Au,AAC]at f;exact⟨F,f▸h,λ_ h=>h⟩
 |cons s p ih=>
  obtain⟨i,j,k⟩:=s;cases h with
  |lf a v _ ha hF=>simp[Abs.Au]at f
  |nil k _ hF=>simp[Abs.Au]at f
  |own bx k rows b c arr E Fs _ hb hk D3 LJ hv hr hd Bg KE hF=>
   simp only[Abs.Au]at f;split at f
   . split at f
     . rename_i row o _ e m;obtain⟨F',g,l⟩:=ih (hr i j row e o m) f;exact⟨F',g,λy n=>(hF y).2 (.inr ⟨i,j,l y n⟩)⟩
     . cases f
   . cases f
  |agg cs Fs _ hr hd Bg hF=>
   simp only[Abs.Au]at f;split at f
   . rename_i e m;obtain⟨F',g,l⟩:=ih (hr j e m) f;exact⟨F',g,λy n=>(hF y).2 ⟨j,l y n⟩⟩
   . cases f
  |BQ cs Fs _ hr hd Bg hF=>
   simp only[Abs.Au]at f;split at f
   . rename_i e m;obtain⟨F',g,l⟩:=ih (hr j e m) f;exact⟨F',g,λy n=>(hF y).2 ⟨j,l y n⟩⟩
   . cases f
mutual
def JH:AV->AV
 | .own false k rows=>.sl false k (NG rows)
 | .own true _ _=>.dead
 | .agg cs=>.agg (ZB cs)
 | .BQ cs=>.BQ (ZB cs)
 | .sc v=>.sc v
 | .sl x k rows=>.sl x k rows
 |_=>.dead
def ZB:List AV->List AV
 |[]=>[]
 |a::r=>JH a::ZB r
def NG:List (List AV)->List (List AV)
 |[]=>[]
 |a::r=>ZB a::NG r
end
theorem WB(l:dm):ZB l=l.map JH:=by
 induction l with
 |nil=>rfl
 |cons d r ih=>simp[ZB,ih]
theorem WC(l:dn):NG l=l.map (·.map JH):=by
 induction l with
 |nil=>rfl
 |cons d r ih=>simp[NG,ih,WB]
@[simp]theorem Nu(k:Nat)(rows:dn):JH (.own false k rows)= .sl false k (rows.map (·.map JH)):=by simp[JH,WC]
@[simp]theorem r9(k:Nat)(rows:dn):JH (.own true k rows)= .dead:=by simp[JH]
@[simp]theorem r5(a:dm):JH (.agg a)= .agg (a.map JH):=by simp[JH,WB]
@[simp]theorem sA(a:dm):JH (.BQ a)= .BQ (a.map JH):=by simp[JH,WB]
@[simp]theorem frz_sc(v:Value):JH (.sc v)= .sc v:=by simp[JH]
@[simp]theorem frz_sl(x:Bool)(k:Nat)(rows:dn):JH (.sl x k rows)= .sl x k rows:=by simp[JH]
theorem frz_leaf{a:AV}(h:Hc w S a v):Fz w S (JH a) v:=by
 cases a with
 |sc u=>obtain⟨rfl,b⟩:=h;simpa using Fz.sc v b
 |sl x k rows=>rw[frz_sl];exact h
 |_=>first|exact h.elim| (simp only[JH];exact .dead v)
theorem Ok.freeze(h:Ok w S d F):Fz w (λx=>S x\/F x) (JH d.er) d.A0:=by
 induction h with
 |lf a v F ha hF=>simp only[EY,KN];exact(frz_leaf ha).mono (λ_ _=>rfl) (λ_ h=>.inl h)
 |nil k F hF=>simpa using Fz.nil false k none 0 ak
 |own bx k rows b c arr E Fs F hb hk D3 LJ hv hr hd Bg KE hF ih=>
  cases bx with
  |true=>simp only[Eg,r9];exact .dead _
  |false=>
   simp only[Eg,Nu,Kf,JT,List.map_map];have g:((rows.map ((λx=>x.map JH) ∘ λx=>x.map DV.er))).length=rows.length:=ak;rw[show(Value.slice (some ⟨b,0,none⟩) rows.length c)=Value.slice (some ⟨b,0,none⟩) (rows.map ((λx=>x.map JH) ∘ λx=>x.map DV.er)).length c from by rw[g]];refine Fz.sl false k _ b 0 c (λi j=>(arr[i*k+j]?).getD undef) ak (by rw[g];simp at D3;exact D3.2) (.inr ((hF b).2 (.inl rfl))) ?_ ?_ ?_
   . intro row p;obtain⟨m,l,rfl⟩:=List.mem_map.1 p;simpa using hk m l
   . intro i j row a e f;simp only[List.getElem?_map,Option.map_eq_some_iff]at e;obtain⟨m,l,rfl⟩:=e;simp only[Function.comp,List.map_map,List.getElem?_map,Option.map_eq_some_iff]at f;obtain⟨d0,n,rfl⟩:=f;simp[World.cell?,hb,hv i j m d0 l n]
   . intro i j row a e f;simp only[List.getElem?_map,Option.map_eq_some_iff]at e;obtain⟨m,l,rfl⟩:=e;simp only[Function.comp,List.map_map,List.getElem?_map,Option.map_eq_some_iff]at f;obtain⟨d0,n,rfl⟩:=f;simp only[hv i j m d0 l n,Option.getD_some];refine(ih i j m d0 l n).mono (λ_ _=>rfl) ?_;rintro x (h|h)
     . exact .inl h
     . exact .inr ((hF x).2 (.inr ⟨i,j,h⟩))
 |agg cs Fs F hr hd Bg hF ih=>
  simp only[HM,r5,Jh];refine Fz.agg _ _ ak ?_;intro i a v e f;simp only[List.map_map,List.getElem?_map,Option.map_eq_some_iff]at e f;obtain⟨d1,e,rfl⟩:=e;obtain⟨o,f,rfl⟩:=f;obtain rfl:d1=o:=by rw[e]at f;exact Option.some.inj f
  refine(ih i d1 e).mono (λ_ _=>rfl) ?_;rintro x (h|h)
  . exact .inl h
  . exact .inr ((hF x).2 ⟨i,h⟩)
 |BQ cs Fs F hr hd Bg hF ih=>
  simp only[JG,sA,LF];refine Fz.BQ _ _ ak ?_;intro i a v e f;simp only[List.map_map,List.getElem?_map,Option.map_eq_some_iff]at e f;obtain⟨d1,e,rfl⟩:=e;obtain⟨o,f,rfl⟩:=f;obtain rfl:d1=o:=by rw[e]at f;exact Option.some.inj f
  refine(ih i d1 e).mono (λ_ _=>rfl) ?_;rintro x (h|h)
  . exact .inl h
  . exact .inr ((hF x).2 ⟨i,h⟩)
end
variable{i off b:Nat}{bx:Bool}{rows:dr}{row:dH}{D:DV}
section
variable{w w':World}{S S':de}{d:DV}{F F':de}
def Sf:Value->ABd Nat
 | .slice (some a) _ _=>some a.block
 | .pointer (some a)=>some a.block
 |_=>none
@[simp]theorem XP(bx:Bool)(b n c:Nat):Sf (JT bx b n c)=some b:=by cases bx<;>rfl
theorem sS(l:n<k)(d:b<k)(h:i*k+n=off*k+b):i=off/\n=b:=by
 have c:0<k:=ah
 have e:(i*k+n)/k=i:=by rw[AA6,Nat.mul_add_div c,Nat.div_eq_of_lt l];rfl
 have f:(off*k+b)/k=off:=by rw[AA6,Nat.mul_add_div c,Nat.div_eq_of_lt d];rfl
 have g:i=off:=by rw[<- e,<- f,h]
 subst g;exact⟨rfl,ah⟩
theorem Q7(w:World)(b o:Nat)(v:Value)(arr:Array Value)(E:TypeId)(fz:Nat×Nat)(a:w.heap[b]? =some (.cells arr E fz)):
 (w.setCell ⟨b,o,none⟩ v).heap[b]? =some (.cells (arr.setIfInBounds o v) E fz):=by
 simp[World.setCell,Array.getElem?_modify,a]
theorem DL(w:World)(b o x:Nat)(v:Value)(h:x≠b):(w.setCell ⟨b,o,none⟩ v).heap[x]? =w.heap[x]? :=by simp only[World.setCell,Array.getElem?_modify];rw[AAK ah]
theorem Rt{rows:List (List α)}{row:List α}{x:α}(d:∀row∈rows,row.length=k)(b:rows[i]? =some row)(c:row[n]? =some x):n<k:=by
 have:=d row (AAP b)
 have:=(AAE.1 c).1;omega
theorem Ok.store{Fn:de}(p:di)(h:Ok w S d F)(y:Abs.Au d p=some (.own v bx k rows))(J:rows[i]? =some row)(W:row[n]? =some D)(hb:Sf v=some b)(hn:Ok (w.setCell ⟨b,i*k+n,none⟩ new.A0) S new Fn)(C:∀x,Fn x->¬F x):
 ∃t F',Di d (p++[(i,n,k)]) new=some t/\Ok (w.setCell ⟨b,i*k+n,none⟩ new.A0) S t F'/\(∀x,F' x->F x\/Fn x)/\t.A0=d.A0/\F b:=by
 induction p generalizing d F with
 |nil=>
  simp only[Abs.Au,AAC]at y;subst y;generalize hvv:v=pQ at h;cases h with
  |nil k _ hF=>simp at J
  |own _ _ _ b' c arr E Fs _ sF hk D3 LJ v hr hd Bg KE hF=>
   subst hvv;simp only[XP,AAC]at hb;subst hb;have Z:=Rt hk J W;have H:=(AAE.1 J).1;have B:=(AAE.1 W).1;have T5:i*k+n<arr.size:=(by have:=v i n row D J W;exact(AAs.1 this).1);refine⟨.own (JT bx b' rows.length c) bx k (rows.set i (row.set n new)),λx=>x=b'\/∃g o,(if g=i/\o=n then Fn else Fs g o) x,?_,?_,?_,ak,(hF b').2 (.inl rfl)⟩
   . simp[Di,J,W]
   . rw[show(JT bx b' rows.length c)=JT bx b' (rows.set i (row.set n new)).length c from by simp];refine Ok.own bx k _ b' c (arr.setIfInBounds (i*k+n) new.A0) E (λg o=>if g=i/\o=n then Fn else Fs g o) _ (Q7 _ _ _ _ _ _ _ sF) ?_ ?_ LJ ?_ ?_ ?_ ?_ ?_ (λx=>ABb)
     . intro r X;rcases AAh X with h|rfl
       . exact hk r h
       . simp[hk row (AAP J)]
     . simpa using D3
     . intro g o r e m l;by_cases hi:g=i
       . subst hi;rw[AAF H]at m;obtain rfl:=AAG m;by_cases O:o=n
         . subst O;rw[AAF B]at l;obtain rfl:=AAG l;simp[T5]
         . rw[AAI ah]at l;rw[Array.getElem?_setIfInBounds_ne (by have:=Rt hk J l;omega)];exact v g o row e J l
       . rw[AAI ah]at m;rw[Array.getElem?_setIfInBounds_ne]
         . exact v g o r e m l
         . intro he;exact hi (sS (Rt hk m l) Z he.symm).1
     . intro g o r e m l;by_cases u:g=i/\o=n
       . obtain⟨rfl,rfl⟩:=u;rw[AAF H]at m;obtain rfl:=AAG m;rw[AAF B]at l;obtain rfl:=AAG l;simpa using hn
       . simp only[u,AAT];have hold:Ok w S e (Fs g o):=by
          by_cases hi:g=i
          . subst hi;have O:o≠n:=λe=>u ⟨rfl,e⟩;rw[AAF H]at m;obtain rfl:=AAG m;rw[AAI ah]at l;exact hr g o row e J l
          . rw[AAI ah]at m;exact hr g o r e m l
         refine hold.mono (λx f=>DL _ _ _ _ _ ?_) (λx f=>DL _ _ _ _ _ ?_) (λ_ h=>h) hold.Et
         . rintro rfl;exact LJ f
         . rintro rfl;exact KE _ _ f
     . intro i1 j1 i2 j2 x f q;split at f<;>split at q
       . rename_i a b;omega
       . exact absurd ((hF x).2 (.inr ⟨i2,j2,q⟩)) (C x f)
       . exact absurd ((hF x).2 (.inr ⟨i1,j1,f⟩)) (C x q)
       . exact hd _ _ _ _ x f q
     . intro i1 j1 x f;split at f
       . rename_i u;obtain⟨rfl,rfl⟩:=u;exact⟨_,new,AAF H,AAF B⟩
       . obtain⟨r,e,m,l⟩:=Bg i1 j1 x f;by_cases hi:i1=i
         . subst hi;rename_i R;have O:j1≠n:=λe=>R ⟨rfl,e⟩;obtain rfl:row=r:=(by rw[J]at m;exact AAG m);exact⟨_,e,AAF H,by rw[AAI ah];exact l⟩
         . exact⟨r,e,by rw[AAI ah];exact m,l⟩
     . intro i1 j1 f;split at f
       . exact C b' f ((hF b').2 (.inl rfl))
       . exact KE _ _ f
   . rintro x (rfl|⟨i1,j1,f⟩)
     . exact .inl ((hF x).2 (.inl rfl))
     . split at f
       . exact .inr f
       . exact .inl ((hF x).2 (.inr ⟨i1,j1,f⟩))
 |cons s p ih=>
  obtain⟨i0,j0,k0⟩:=s;cases h with
  |lf a I _ ha hF=>simp[Abs.Au]at y
  |nil k _ hF=>simp[Abs.Au]at y
  |own bx0 k1 K0 b0 c arr E Fs _ sF hk D3 LJ v hr hd Bg KE hF=>
   simp only[Abs.Au]at y;split at y
   . split at y
     . rename_i L K _ M z;obtain⟨t,N,U,P,V,Q,G⟩:=ih (hr i0 j0 L M K z) y (λx f T=>C x f ((hF x).2 (.inr ⟨i0,j0,T⟩)));have R:b0≠b:=(by rintro rfl;exact KE _ _ G);have H:=(AAE.1 K).1;have B:=(AAE.1 z).1;refine⟨.own (JT bx0 b0 K0.length c) bx0 k1 (K0.set i0 (L.set j0 t)),λx=>x=b0\/∃g o,(if g=i0/\o=j0 then N else Fs g o) x,?_,?_,?_,ak,(hF b).2 (.inr ⟨i0,j0,G⟩)⟩
       . simp[Di,K,z,U]
       . rw[show(JT bx0 b0 K0.length c)=JT bx0 b0 (K0.set i0 (L.set j0 t)).length c from by simp];refine Ok.own bx0 k1 _ b0 c arr E (λg o=>if g=i0/\o=j0 then N else Fs g o) _ (by rw[DL _ _ _ _ _ R];exact sF) ?_ (by simpa using D3) LJ ?_ ?_ ?_ ?_ ?_ (λx=>ABb)
         . intro r X;rcases AAh X with h|rfl
           . exact hk r h
           . simp[hk L (AAP K)]
         . intro g o r e m l;by_cases hi:g=i0
           . subst hi;rw[AAF H]at m;obtain rfl:=AAG m;by_cases O:o=j0
             . subst O;rw[AAF B]at l;obtain rfl:=AAG l;rw[Q];exact v g o L M K z
             . rw[AAI ah]at l;exact v g o L e K l
           . rw[AAI ah]at m;exact v g o r e m l
         . intro g o r e m l;by_cases u:g=i0/\o=j0
           . obtain⟨rfl,rfl⟩:=u;rw[AAF H]at m;obtain rfl:=AAG m;rw[AAF B]at l;obtain rfl:=AAG l;simpa using P
           . simp only[u,AAT];have hold:Ok w S e (Fs g o):=by
              by_cases hi:g=i0
              . subst hi;have O:o≠j0:=λe=>u ⟨rfl,e⟩;rw[AAF H]at m;obtain rfl:=AAG m;rw[AAI ah]at l;exact hr g o L e K l
              . rw[AAI ah]at m;exact hr g o r e m l
             refine hold.mono (λx f=>DL _ _ _ _ _ ?_) (λx f=>DL _ _ _ _ _ ?_) (λ_ h=>h) hold.Et
             . rintro rfl;exact(hr i0 j0 L M K z).Et x G f
             . rintro rfl;exact u (hd _ _ _ _ x f G)
         . intro i1 j1 i2 j2 x f q;split at f<;>split at q
           . rename_i a b;omega
           . rename_i a b;rcases V x f with h|h
             . exact absurd (hd _ _ _ _ x q h) b
             . exact absurd ((hF x).2 (.inr ⟨i2,j2,q⟩)) (C x h)
           . rename_i a b;rcases V x q with h|h
             . exact absurd (hd _ _ _ _ x f h) a
             . exact absurd ((hF x).2 (.inr ⟨i1,j1,f⟩)) (C x h)
           . exact hd _ _ _ _ x f q
         . intro i1 j1 x f;split at f
           . rename_i u;obtain⟨rfl,rfl⟩:=u;exact⟨_,t,AAF H,AAF B⟩
           . obtain⟨r,e,m,l⟩:=Bg i1 j1 x f;by_cases hi:i1=i0
             . subst hi;rename_i R;have O:j1≠j0:=λe=>R ⟨rfl,e⟩;obtain rfl:L=r:=(by rw[K]at m;exact AAG m);exact⟨_,e,AAF H,by rw[AAI ah];exact l⟩
             . exact⟨r,e,by rw[AAI ah];exact m,l⟩
         . intro i1 j1 f;split at f
           . rcases V b0 f with h|h
             . exact KE _ _ h
             . exact C b0 h ((hF b0).2 (.inl rfl))
           . exact KE _ _ f
       . rintro x (rfl|⟨i1,j1,f⟩)
         . exact .inl ((hF x).2 (.inl rfl))
         . split at f
           . rcases V x f with h|h
             . exact .inl ((hF x).2 (.inr ⟨i0,j0,h⟩))
             . exact .inr h
           . exact .inl ((hF x).2 (.inr ⟨i1,j1,f⟩))
     . cases y
   . cases y
  |agg cs Fs _ hr hd Bg hF=>
   simp only[Abs.Au]at y;split at y
   . rename_i M z;obtain⟨t,N,U,P,V,Q,G⟩:=ih (hr j0 M z) y (λx f T=>C x f ((hF x).2 ⟨j0,T⟩));have B:=(AAE.1 z).1;refine⟨.agg (cs.set j0 t),λx=>∃g,(if g=j0 then N else Fs g) x,by simp[Di,z,U],?_,?_,?_,(hF b).2 ⟨j0,G⟩⟩
     . refine Ok.agg _ (λg=>if g=j0 then N else Fs g) _ ?_ ?_ ?_ (λx=>ABb)
       . intro g e l;by_cases hi:g=j0
         . subst hi;rw[AAF B]at l;obtain rfl:=AAG l;simpa using P
         . simp only[hi,AAT];rw[AAI ah]at l;refine(hr g e l).mono (λx f=>DL _ _ _ _ _ ?_) (λx f=>DL _ _ _ _ _ ?_) (λ_ h=>h) (hr g e l).Et
           . rintro rfl;exact(hr j0 M z).Et x G f
           . rintro rfl;exact hi (hd _ _ x f G)
       . intro i1 i2 x f q;split at f<;>split at q
         . omega
         . rename_i a b;rcases V x f with h|h
           . exact absurd (hd _ _ x q h) b
           . exact absurd ((hF x).2 ⟨i2,q⟩) (C x h)
         . rename_i a b;rcases V x q with h|h
           . exact absurd (hd _ _ x f h) a
           . exact absurd ((hF x).2 ⟨i1,f⟩) (C x h)
         . exact hd _ _ x f q
       . intro i1 x f;split at f
         . rename_i u;subst u;exact⟨t,AAF B⟩
         . rename_i u;obtain⟨e,m⟩:=Bg i1 x f;exact⟨e,by rw[AAI ah];exact m⟩
     . rintro x ⟨i1,f⟩;split at f
       . rcases V x f with h|h
         . exact .inl ((hF x).2 ⟨j0,h⟩)
         . exact .inr h
       . exact .inl ((hF x).2 ⟨i1,f⟩)
     . simp only[Jh,AA1,Q];congr 2;apply ABQ;intro j;by_cases hn:j=j0
       . subst hn;rw[AAF (by simpa using B)];simp[z]
       . rw[AAI ah]
   . cases y
  |BQ cs Fs _ hr hd Bg hF=>
   simp only[Abs.Au]at y;split at y
   . rename_i M z;obtain⟨t,N,U,P,V,Q,G⟩:=ih (hr j0 M z) y (λx f T=>C x f ((hF x).2 ⟨j0,T⟩));have B:=(AAE.1 z).1;refine⟨.BQ (cs.set j0 t),λx=>∃g,(if g=j0 then N else Fs g) x,by simp[Di,z,U],?_,?_,?_,(hF b).2 ⟨j0,G⟩⟩
     . refine Ok.BQ _ (λg=>if g=j0 then N else Fs g) _ ?_ ?_ ?_ (λx=>ABb)
       . intro g e l;by_cases hi:g=j0
         . subst hi;rw[AAF B]at l;obtain rfl:=AAG l;simpa using P
         . simp only[hi,AAT];rw[AAI ah]at l;refine(hr g e l).mono (λx f=>DL _ _ _ _ _ ?_) (λx f=>DL _ _ _ _ _ ?_) (λ_ h=>h) (hr g e l).Et
           . rintro rfl;exact(hr j0 M z).Et x G f
           . rintro rfl;exact hi (hd _ _ x f G)
       . intro i1 i2 x f q;split at f<;>split at q
         . omega
         . rename_i a b;rcases V x f with h|h
           . exact absurd (hd _ _ x q h) b
           . exact absurd ((hF x).2 ⟨i2,q⟩) (C x h)
         . rename_i a b;rcases V x q with h|h
           . exact absurd (hd _ _ x f h) a
           . exact absurd ((hF x).2 ⟨i1,f⟩) (C x h)
         . exact hd _ _ x f q
       . intro i1 x f;split at f
         . rename_i u;subst u;exact⟨t,AAF B⟩
         . rename_i u;obtain⟨e,m⟩:=Bg i1 x f;exact⟨e,by rw[AAI ah];exact m⟩
     . rintro x ⟨i1,f⟩;split at f
       . rcases V x f with h|h
         . exact .inl ((hF x).2 ⟨j0,h⟩)
         . exact .inr h
       . exact .inl ((hF x).2 ⟨i1,f⟩)
     . simp only[LF,AA1,Q];congr 2;apply ABQ;intro j;by_cases hn:j=j0
       . subst hn;rw[AAF (by simpa using B)];simp[z]
       . rw[AAI ah]
   . cases y
end
variable{δ g:dy}{L:dF}
section
structure Gi where
 rt:List (Nat×List Nat)
def Gi.Gv(G:Gi)(s:Nat):List Nat:=match G.rt.find? (·.1==s)with
 |some x=>x.2
 |none=>[]
def Gi.OM(G:Gi)(d:Nat):List Nat:=(G.rt.filter (λx=>x.2.contains d)).map (·.1)
variable{G:Gi}
theorem Gi.sZ(h:n∈G.Gv k):k∈G.OM n:=by
 unfold Gi.Gv at h;split at h
 . rename_i x b;have a:=List.find?_some b;have c:=ABW b;simp only[AAR]at a;subst a;simp only[Gi.OM,ABO,List.mem_filter];exact⟨x,⟨c,by simpa using h⟩,rfl⟩
 . cases h
mutual
def Fj(L:dF):AV->Bool
 | .al r _=>L.contains r
 | .Kk r _ _ _ _=>L.contains r
 | .cl _ rs=>rs.all λx=>L.contains x.1
 | .vb s _ _=>L.contains s
 | .agg cs=>Pr L cs
 | .BQ cs=>Pr L cs
 |_=>true
def cr{p:Prop}(h:p:=by simp[Fj]):p:=h
def Pr(L:dF):List AV->Bool
 |[]=>true
 |a::r=>Fj L a&&Pr L r
end
theorem WO(L:dF)(l:dm):Pr L l=l.all (Fj L):=by
 induction l with
 |nil=>rfl
 |cons d r ih=>simp[Pr,ih]
mutual
def Fh(d:Nat):AV->Bool
 | .al r _=>r != d
 | .Kk r _ _ _ _=>r != d
 | .cl _ rs=>rs.all λx=>x.1 != d
 | .vb s _ _=>s != d
 | .agg cs=>N4 d cs
 | .BQ cs=>N4 d cs
 |_=>true
def N4(d:Nat):List AV->Bool
 |[]=>true
 |a::r=>Fh d a&&N4 d r
end
theorem aY(d:Nat)(l:dm):N4 d l=l.all (Fh d):=by
 induction l with
 |nil=>rfl
 |cons a r ih=>simp[N4,ih]
mutual
def Df(d:Nat):AV->AV
 | .al r p=>if r=d then .dead else .al r p
 | .Kk r p i j k=>if r=d then .dead else .Kk r p i j k
 | .cl f rs=>if(rs.all λx=>x.1 != d)=true then .cl f rs else .dead
 | .vb s o us=>if s=d then .dead else .vb s o us
 | .agg cs=>.agg (PT d cs)
 | .BQ cs=>.BQ (PT d cs)
 |a=>a
def cT{p:Prop}(h:p:=by simp[Df]):p:=h
def PT(d:Nat):List AV->List AV
 |[]=>[]
 |a::r=>Df d a::PT d r
end
theorem aQ(d:Nat)(l:dm):PT d l=l.map (Df d):=by
 induction l with
 |nil=>rfl
 |cons a r ih=>simp[PT,ih]
@[simp]theorem rin_sc(L:dF)(v:Value):Fj L (.sc v)=true:=cr
@[simp]theorem rin_sl(L:dF)(x:Bool)(k:Nat)(rows:dn):Fj L (.sl x k rows)=true:=cr
@[simp]theorem rin_own(L:dF)(x:Bool)(k:Nat)(rows:dn):Fj L (.own x k rows)=true:=cr
@[simp]theorem rin_fp(L:dF)(a:dm):Fj L (.fp a)=true:=cr
@[simp]theorem rin_dead(L:dF):Fj L .dead=true:=cr
@[simp]theorem rin_un(L:dF):Fj L .un=true:=cr
@[simp]theorem KB(L:dF)(r:Nat)(p:di):Fj L (.al r p)=L.contains r:=cr
@[simp]theorem WR(L:dF)(r:Nat)(p:di)(i j k:Nat):Fj L (.Kk r p i j k)=L.contains r:=cr
@[simp]theorem KA(L:dF)(a:dm):Fj L (.agg a)=a.all (Fj L):=by simp[Fj,WO]
@[simp]theorem OA(L:dF)(a:dm):Fj L (.BQ a)=a.all (Fj L):=by simp[Fj,WO]
@[simp]theorem killr_sc(d:Nat)(v:Value):Df d (.sc v)= .sc v:=cT
@[simp]theorem killr_sl(d:Nat)(x:Bool)(k:Nat)(rows:dn):Df d (.sl x k rows)= .sl x k rows:=cT
@[simp]theorem killr_own(d:Nat)(x:Bool)(k:Nat)(rows:dn):Df d (.own x k rows)= .own x k rows:=cT
@[simp]theorem killr_fp(d:Nat)(a:dm):Df d (.fp a)= .fp a:=cT
@[simp]theorem killr_dead(d:Nat):Df d .dead= .dead:=cT
@[simp]theorem killr_un(d:Nat):Df d .un= .un:=cT
@[simp]theorem Xh(d r:Nat)(p:di):Df d (.al r p)=if r=d then .dead else .al r p:=cT
@[simp]theorem UL(d r:Nat)(p:di)(i j k:Nat):Df d (.Kk r p i j k)=if r=d then .dead else .Kk r p i j k:=cT
@[simp]theorem aR(d:Nat)(a:dm):Df d (.agg a)= .agg (a.map (Df d)):=by simp[Df,aQ]
@[simp]theorem aT(d:Nat)(a:dm):Df d (.BQ a)= .BQ (a.map (Df d)):=by simp[Df,aQ]
@[simp]theorem rin_fcl(L:dF)(f:Nat)(a:dn):Fj L (.oT f a)=true:=cr
@[simp]theorem killr_fcl(d f:Nat)(a:dn):Df d (.oT f a)= .oT f a:=cT
@[simp]theorem rin_vb(L:dF)(s o:Nat)(a:List Value):Fj L (.vb s o a)=L.contains s:=cr
@[simp]theorem Xi(d s o:Nat)(a:List Value):Df d (.vb s o a)=if s=d then .dead else .vb s o a:=cT
@[simp]theorem nroot_vb(d s o:Nat)(a:List Value):Fh d (.vb s o a)=(s != d):=by simp[Fh]
@[simp]theorem qO(L:dF)(f:Nat)(rs:eu):Fj L (.cl f rs)=rs.all λx=>L.contains x.1:=cr
@[simp]theorem Sp(d f:Nat)(rs:eu):Df d (.cl f rs)=if(rs.all λx=>x.1 != d)=true then .cl f rs else .dead:=cT
@[simp]theorem nroot_cl(d f:Nat)(rs:eu):Fh d (.cl f rs)=rs.all λx=>x.1 != d:=by simp[Fh]
@[simp]theorem x8(d:Nat)(a:dm):Fh d (.agg a)=a.all (Fh d):=by simp[Fh,aY]
@[simp]theorem yA(d:Nat)(a:dm):Fh d (.BQ a)=a.all (Fh d):=by simp[Fh,aY]
@[simp]theorem nroot_al(d r:Nat)(p:di):Fh d (.al r p)=(r != d):=by simp[Fh]
@[simp]theorem nroot_adr(d r:Nat)(p:di)(i j k:Nat):Fh d (.Kk r p i j k)=(r != d):=by simp[Fh]
mutual
def HD(d:Nat):DV->DV
 | .lf a v=>.lf (Df d a) v
 | .own h b k rows=>.own h b k rows
 | .agg cs=>.agg (Xa d cs)
 | .BQ cs=>.BQ (Xa d cs)
def Xa(d:Nat):List DV->List DV
 |[]=>[]
 |a::r=>HD d a::Xa d r
end
theorem aL(d:Nat)(l:dH):Xa d l=l.map (HD d):=by
 induction l with
 |nil=>rfl
 |cons a r ih=>simp[Xa,ih]
@[simp]theorem Xb(d:Nat)(a:AV)(v:Value):HD d (.lf a v)= .lf (Df d a) v:=by simp[HD]
@[simp]theorem NL(d:Nat)(h:Value)(b:Bool)(k:Nat)(rows:dr):HD d (.own h b k rows)= .own h b k rows:=by simp[HD]
@[simp]theorem KW(d:Nat)(a:dH):HD d (.agg a)= .agg (a.map (HD d)):=by simp[HD,aL]
@[simp]theorem KX(d:Nat)(a:dH):HD d (.BQ a)= .BQ (a.map (HD d)):=by simp[HD,aL]
variable{w w':World}{S S':de}{x:DV}{F F':de}
theorem Ks(d:Nat)(h:Ok w S x F):(HD d x).er=Df d x.er/\(HD d x).A0=x.A0/\Ok w S (HD d x) F/\Fh d (HD d x).er=true:=by
 induction h with
 |lf a v F ha hF=>
  refine⟨ak,ak,?_,?_⟩
  . rw[Xb];refine .lf _ v F ?_ hF;cases a with
    |al r p=>rw[Xh];by_cases h:r=d<;>simp[h,Hc]
    |Kk r p i j k=>rw[UL];by_cases h:r=d<;>simp[h,Hc]
    |cl f rs=>rw[Sp];split<;>trivial
    |vb s o us=>rw[Xi];split<;>first|trivial|exact ha
    |agg cs=>exact ha.elim
    |BQ cs=>exact ha.elim
    |own=>exact ha.elim
    |_=>simpa using ha
  . have:=ha.C8;cases a with
    |al r p=>by_cases h:r=d<;>simp[h,Fh]
    |Kk r p i j k=>by_cases h:r=d<;>simp[h,Fh]
    |vb s o us=>by_cases h:s=d<;>simp[h,Fh]
    |cl f rs=>
     simp only[Xb,EY,Sp];split
     . rename_i h;simpa using h
     . simp[Fh]
    |agg cs=>exact ha.elim
    |BQ cs=>exact ha.elim
    |own=>exact ha.elim
    |_=>simp[Fh]
 |nil k F hF=>exact⟨ak,ak,by rw[NL];exact .nil k F hF,by simp[Fh]⟩
 |own bx k rows b c arr E Fs F hb hk D3 LJ hv hr hd Bg KE hF ih=>exact⟨ak,ak,by rw[NL];exact .own bx k rows b c arr E Fs F hb hk D3 LJ hv hr hd Bg KE hF,by simp[Fh]⟩
 |agg cs Fs F hr hd Bg hF ih=>
  have key:∀e∈cs,(HD d e).er=Df d e.er/\(HD d e).A0=e.A0/\Fh d (HD d e).er=true:=by intro e g;obtain⟨i,hi⟩:=List.getElem?_of_mem g;exact⟨(ih i e hi).1,(ih i e hi).2.1,(ih i e hi).2.2.2⟩
  refine⟨?_,?_,?_,?_⟩
  . simp only[KW,HM,aR,List.map_map,AV.agg.injEq];exact List.map_congr_left λe g=>(key e g).1
  . simp only[KW,Jh,List.map_map];congr 2;exact List.map_congr_left λe g=>(key e g).2.1
  . rw[KW];refine .agg _ Fs F ?_ hd ?_ hF
    . intro i e l;simp only[List.getElem?_map,Option.map_eq_some_iff]at l;obtain⟨m,n,rfl⟩:=l;exact(ih i m n).2.2.1
    . intro i x q;obtain⟨e,l⟩:=Bg i x q;exact⟨HD d e,by simp[l]⟩
  . simp only[KW,HM,x8,List.map_map,List.all_map,List.all_eq_true];exactλe g=>(key e g).2.2
 |BQ cs Fs F hr hd Bg hF ih=>
  have key:∀e∈cs,(HD d e).er=Df d e.er/\(HD d e).A0=e.A0/\Fh d (HD d e).er=true:=by intro e g;obtain⟨i,hi⟩:=List.getElem?_of_mem g;exact⟨(ih i e hi).1,(ih i e hi).2.1,(ih i e hi).2.2.2⟩
  refine⟨?_,?_,?_,?_⟩
  . simp only[KX,JG,aT,List.map_map,AV.BQ.injEq];exact List.map_congr_left λe g=>(key e g).1
  . simp only[KX,LF,List.map_map];congr 2;exact List.map_congr_left λe g=>(key e g).2.1
  . rw[KX];refine .BQ _ Fs F ?_ hd ?_ hF
    . intro i e l;simp only[List.getElem?_map,Option.map_eq_some_iff]at l;obtain⟨m,n,rfl⟩:=l;exact(ih i m n).2.2.1
    . intro i x q;obtain⟨e,l⟩:=Bg i x q;exact⟨HD d e,by simp[l]⟩
  . simp only[KX,JG,yA,List.map_map,List.all_map,List.all_eq_true];exactλe g=>(key e g).2.2
def Ml(δ:dy):AV->Value->Prop
 | .al r p,v=>∃bx k rows,Au (δ r) p=some (.own v bx k rows)
 | .Kk r p i j k,v=>∃h bx rows b,Au (δ r) p=some (.own h bx k rows)/\Sf h=some b/\v= .pointer (some ⟨b,i*k+j,none⟩)
 | .vb s _ us,_=>(δ s).A0= .agg us.toArray
 | .cl f rs,v=>∃vs:List Value,v= .func (.func f) #[] vs.toArray/\vs.length=rs.length/\∀(i:Nat) r p u,rs[i]? =some (r,p)->vs[i]? =some u->∃bx k rows,Au (δ r) p=some (.own u bx k rows)
 |_,_=>True
inductive Dc (δ:Nat->DV):DV->Prop
 |lf (a v) (h:Ml δ a v):Dc δ (.lf a v)
 |own (h b k rows):Dc δ (.own h b k rows)
 |agg (cs) (hr:∀(i:Nat) d,cs[i]? =some d->Dc δ d):Dc δ (.agg cs)
 |BQ (cs) (hr:∀(i:Nat) d,cs[i]? =some d->Dc δ d):Dc δ (.BQ cs)
theorem Dc.mono(h:Dc δ x)(e:Fj L x.er=true)(m:∀r∈L,∀p v bx k rows,Au (δ r) p=some (.own v bx k rows)->∃c,Au (g r) p=some (.own v bx k c))(q:∀r∈L,(g r).A0=(δ r).A0):Dc g x:=by
 induction h with
 |lf a v h=>
  refine .lf a v ?_;cases a with
  |al r p=>obtain⟨bx,k,rows,h⟩:=h;obtain⟨c,l⟩:=m r (by simpa using e) p v bx k rows h;exact⟨bx,k,c,l⟩
  |Kk r p i j k=>obtain⟨n,bx,rows,b,h,z,rfl⟩:=h;obtain⟨c,l⟩:=m r (by simpa using e) p n bx k rows h;exact⟨n,bx,c,b,l,z,rfl⟩
  |vb s o us=>exact(q s (by simpa using e)).trans h
  |cl f rs=>obtain⟨vs,t,w,y⟩:=h;refine⟨vs,t,w,λi r p u hi C=> ?_⟩;obtain⟨bx,k,rows,B⟩:=y i r p u hi C;simp only[EY,qO,List.all_eq_true]at e;obtain⟨c,l⟩:=m r (by simpa using e _ (List.mem_of_getElem? hi)) p u bx k rows B;exact⟨bx,k,c,l⟩
  |_=>trivial
 |own=>exact .own _ _ _ _
 |agg cs _ ih=>refine .agg cs λi d hd=>ih i d hd ?_;simp only[HM,KA,List.all_map,List.all_eq_true]at e;exact e d (List.mem_of_getElem? hd)
 |BQ cs _ ih=>refine .BQ cs λi d hd=>ih i d hd ?_;simp only[JG,OA,List.all_map,List.all_eq_true]at e;exact e d (List.mem_of_getElem? hd)
theorem yS{a:AV}:Fj L a=true->k∉L->Fh k a=true:=by
 refine AV.rec (motive_1:=λa=>Fj L a=true->k∉L->Fh k a=true) (motive_2:=λ_=>True) (motive_3:=λl=>Pr L l=true->k∉L->N4 k l=true)
  ?_ ?_ ?_ ?_ ?_ ?_ ?_ ?_ ?_ ?_ ?_ ?_ ?_ ?_ ?_ ?_ ?_ a
 all_goals intros
 all_goals first|trivial|simp[Fh];done|skip
 all_goals simp_all [Fj,Pr,N4,Fh]
 all_goals first
  | (rintro rfl;simp_all;done)
  | (rename_i c f;intro a b g e;subst e;exact f (c _ b g))
theorem xQ{a:AV}:Fj L a=true->Fj L (Df k a)=true:=by
 refine AV.rec (motive_1:=λa=>Fj L a=true->Fj L (Df k a)=true) (motive_2:=λ_=>True) (motive_3:=λl=>Pr L l=true->Pr L (PT k l)=true)
  ?_ ?_ ?_ ?_ ?_ ?_ ?_ ?_ ?_ ?_ ?_ ?_ ?_ ?_ ?_ ?_ ?_ a
 all_goals intros
 all_goals first|trivial| (simp_all [Fj,Pr,Df,PT];done)|skip
 all_goals first
  | (simp only[Df];split<;>simp_all [Fj];done)
  | (simp only[Df];split<;>first|assumption|simp[Fj])
  | (rename_i b h;simp only[Df,Fj]at h |-;exact b h)
end
variable{z:DV}
section
variable{w w':World}{S S':de}{d:DV}{F F':de}
theorem Ok.replace(p:di)(h:Ok w S d F)(C:Abs.Au d p=some new):
 ∃q,Ok w S new q/\(∀x,q x->F x)/\∀(w':World)(S':de)(n:DV)(Fn:de),n.A0=new.A0->Ok w' S' n Fn->
  (∀x,Fn x->F x->q x)->(∀b,S b->w'.heap[b]? =w.heap[b]?)->(∀b,F b->¬q b->w'.heap[b]? =w.heap[b]?)->(∀b,S b->S' b)->(∀b,F b->¬q b->¬S' b)->
  ∃t F',Di d p n=some t/\Ok w' S' t F'/\(∀x,F' x↔(F x/\¬q x)\/Fn x)/\t.A0=d.A0:=by
 induction p generalizing d F with
 |nil=>
  simp only[Abs.Au,AAC]at C;subst C;refine⟨F,h,λ_ h=>h,λw' S' n Fn Z hn _ _ _ _ _=>⟨n,Fn,rfl,hn,λx=>⟨.inr,?_⟩,Z⟩⟩;rintro(⟨y,K⟩|h)
  . exact absurd y K
  . exact h
 |cons s p ih=>
  obtain⟨i0,j0,k0⟩:=s;cases h with
  |lf a v _ Z hF=>simp[Abs.Au]at C
  |nil k _ hF=>simp[Abs.Au]at C
  |own bx0 k1 K0 b0 c arr E Fs _ sF hk D3 LJ hv hr hd Bg KE hF=>
   simp only[Abs.Au]at C;split at C
   . split at C
     . rename_i W U _ e0 H;obtain⟨q,ho,Q,Mq⟩:=ih (hr i0 j0 W e0 U H) C;have O:∀x,q x->F x:=λx f=>(hF x).2 (.inr ⟨i0,j0,Q x f⟩);refine⟨q,ho,O,?_⟩;intro w' S' n Fn Z hn z X T V R;have Dz:=(AAE.1 U).1;have N:=(AAE.1 H).1;obtain⟨t,L,ht,Cm,G,Dh⟩:=Mq w' S' n Fn Z hn (λx f u=>z x f ((hF x).2 (.inr ⟨i0,j0,u⟩))) X
        (λb P=>T b ((hF b).2 (.inr ⟨i0,j0,P⟩))) V (λb P=>R b ((hF b).2 (.inr ⟨i0,j0,P⟩)))
       have wX:¬q b0:=λh=>KE _ _ (Q _ h);have J:F b0:=(hF b0).2 (.inl rfl);have M:∀i j,¬(i=i0/\j=j0)->∀x,Fs i j x->¬q x:=λi j l x f pK=>l (hd _ _ _ _ x f (Q x pK));refine⟨.own (JT bx0 b0 K0.length c) bx0 k1 (K0.set i0 (W.set j0 t)),λx=>x=b0\/∃g B,(if g=i0/\B=j0 then L else Fs g B) x,?_,?_,?_,ak⟩
       . simp[Di,U,H,ht]
       . rw[show(JT bx0 b0 K0.length c)=JT bx0 b0 (K0.set i0 (W.set j0 t)).length c from by simp];refine Ok.own bx0 k1 _ b0 c arr E (λg B=>if g=i0/\B=j0 then L else Fs g B) _ (by rw[T b0 J wX];exact sF) ?_ (by simpa using D3) (R b0 J wX) ?_ ?_ ?_ ?_ ?_ (λx=>ABb)
         . intro r dI;rcases AAh dI with h|rfl
           . exact hk r h
           . simp[hk W (AAP U)]
         . intro g B r e m o;by_cases hi:g=i0
           . subst hi;rw[AAF Dz]at m;obtain rfl:=AAG m;by_cases hj:B=j0
             . subst hj;rw[AAF N]at o;obtain rfl:=AAG o;rw[Dh];exact hv g B W e0 U H
             . rw[AAI ah]at o;exact hv g B W e U o
           . rw[AAI ah]at m;exact hv g B r e m o
         . intro g B r e m o;by_cases l:g=i0/\B=j0
           . obtain⟨rfl,rfl⟩:=l;rw[AAF Dz]at m;obtain rfl:=AAG m;rw[AAF N]at o;obtain rfl:=AAG o;simpa using Cm
           . simp only[l,AAT];have hold:Ok w S e (Fs g B):=by
              by_cases hi:g=i0
              . subst hi;have hj:B≠j0:=λe=>l ⟨rfl,e⟩;rw[AAF Dz]at m;obtain rfl:=AAG m;rw[AAI ah]at o;exact hr g B W e U o
              . rw[AAI ah]at m;exact hr g B r e m o
             have I:∀x,Fs g B x->F x/\¬q x:=λx f=>⟨(hF x).2 (.inr ⟨g,B,f⟩),M g B l x f⟩;exact hold.mono X (λx f=>T x (I x f).1 (I x f).2) V (λx f=>R x (I x f).1 (I x f).2)
         . intro i1 j1 i2 j2 x f u;have D:∀i j,¬(i=i0/\j=j0)->Fs i j x->¬L x:=by
            intro i j l y K;rcases(G x).1 K with⟨m,o⟩|m
            . exact l (hd _ _ _ _ x y m)
            . exact M i j l x y (z x m ((hF x).2 (.inr ⟨i,j,y⟩)))
           split at f<;>split at u
           . rename_i a b;omega
           . rename_i a b;exact absurd f (D _ _ b u)
           . rename_i a b;exact absurd u (D _ _ a f)
           . exact hd _ _ _ _ x f u
         . intro i1 j1 x f;split at f
           . rename_i l;obtain⟨rfl,rfl⟩:=l;exact⟨_,t,AAF Dz,AAF N⟩
           . obtain⟨r,e,m,o⟩:=Bg i1 j1 x f;by_cases hi:i1=i0
             . subst hi;rename_i O1;have hj:j1≠j0:=λe=>O1 ⟨rfl,e⟩;obtain rfl:W=r:=(by rw[U]at m;exact AAG m);exact⟨_,e,AAF Dz,by rw[AAI ah];exact o⟩
             . exact⟨r,e,by rw[AAI ah];exact m,o⟩
         . intro i1 j1 f;split at f
           . rcases(G b0).1 f with h|h
             . exact KE _ _ h.1
             . exact wX (z b0 h J)
           . exact KE _ _ f
       . intro x;constructor
         . rintro(rfl|⟨i1,j1,f⟩)
           . exact .inl ⟨J,wX⟩
           . split at f
             . rcases(G x).1 f with h|h
               . exact .inl ⟨(hF x).2 (.inr ⟨i0,j0,h.1⟩),h.2⟩
               . exact .inr h
             . rename_i l;exact .inl ⟨(hF x).2 (.inr ⟨i1,j1,f⟩),M _ _ l x f⟩
         . rintro(⟨y,K⟩|h)
           . rcases(hF x).1 y with rfl|⟨i1,j1,m⟩
             . exact .inl rfl
             . by_cases l:i1=i0/\j1=j0
               . obtain⟨rfl,rfl⟩:=l;exact .inr ⟨i1,j1,by simp;exact(G x).2 (.inl ⟨m,K⟩)⟩
               . exact .inr ⟨i1,j1,by simp only[l,AAT];exact m⟩
           . exact .inr ⟨i0,j0,by simp;exact(G x).2 (.inr h)⟩
     . cases C
   . cases C
  |agg cs Fs _ hr hd Bg hF=>
   simp only[Abs.Au]at C;split at C
   . rename_i e0 H;obtain⟨q,ho,Q,Mq⟩:=ih (hr j0 e0 H) C;have O:∀x,q x->F x:=λx f=>(hF x).2 ⟨j0,Q x f⟩;refine⟨q,ho,O,?_⟩;intro w' S' n Fn Z hn z X T V R;have N:=(AAE.1 H).1;obtain⟨t,L,ht,Cm,G,Dh⟩:=Mq w' S' n Fn Z hn (λx f u=>z x f ((hF x).2 ⟨j0,u⟩)) X
      (λb P=>T b ((hF b).2 ⟨j0,P⟩)) V (λb P=>R b ((hF b).2 ⟨j0,P⟩))
     have M:∀i,¬i=j0->∀x,Fs i x->¬q x:=λi l x f pK=>l (hd _ _ x f (Q x pK));refine⟨.agg (cs.set j0 t),λx=>∃g,(if g=j0 then L else Fs g) x,by simp[Di,H,ht],?_,?_,?_⟩
     . refine Ok.agg _ (λg=>if g=j0 then L else Fs g) _ ?_ ?_ ?_ (λx=>ABb)
       . intro g e o;by_cases hi:g=j0
         . subst hi;rw[AAF N]at o;obtain rfl:=AAG o;simpa using Cm
         . simp only[hi,AAT];rw[AAI ah]at o;have I:∀x,Fs g x->F x/\¬q x:=λx f=>⟨(hF x).2 ⟨g,f⟩,M g hi x f⟩;exact(hr g e o).mono X (λx f=>T x (I x f).1 (I x f).2) V (λx f=>R x (I x f).1 (I x f).2)
       . intro i1 i2 x f u;have D:∀i,¬i=j0->Fs i x->¬L x:=by
          intro i l y K;rcases(G x).1 K with⟨m,o⟩|m
          . exact l (hd _ _ x y m)
          . exact M i l x y (z x m ((hF x).2 ⟨i,y⟩))
         split at f<;>split at u
         . omega
         . rename_i a b;exact absurd f (D _ b u)
         . rename_i a b;exact absurd u (D _ a f)
         . exact hd _ _ x f u
       . intro i1 x f;split at f
         . rename_i l;subst l;exact⟨t,AAF N⟩
         . rename_i l;obtain⟨e,m⟩:=Bg i1 x f;exact⟨e,by rw[AAI ah];exact m⟩
     . intro x;constructor
       . rintro⟨i1,f⟩;split at f
         . rcases(G x).1 f with h|h
           . exact .inl ⟨(hF x).2 ⟨j0,h.1⟩,h.2⟩
           . exact .inr h
         . rename_i l;exact .inl ⟨(hF x).2 ⟨i1,f⟩,M _ l x f⟩
       . rintro(⟨y,K⟩|h)
         . obtain⟨i1,m⟩:=(hF x).1 y;by_cases l:i1=j0
           . subst l;exact⟨i1,by simp;exact(G x).2 (.inl ⟨m,K⟩)⟩
           . exact⟨i1,by simp only[l,AAT];exact m⟩
         . exact⟨j0,by simp;exact(G x).2 (.inr h)⟩
     . simp only[Jh,AA1,Dh];congr 2;apply ABQ;intro new;by_cases hn:new=j0
       . subst hn;rw[AAF (by simpa using N)];simp[H]
       . rw[AAI ah]
   . cases C
  |BQ cs Fs _ hr hd Bg hF=>
   simp only[Abs.Au]at C;split at C
   . rename_i e0 H;obtain⟨q,ho,Q,Mq⟩:=ih (hr j0 e0 H) C;have O:∀x,q x->F x:=λx f=>(hF x).2 ⟨j0,Q x f⟩;refine⟨q,ho,O,?_⟩;intro w' S' n Fn Z hn z X T V R;have N:=(AAE.1 H).1;obtain⟨t,L,ht,Cm,G,Dh⟩:=Mq w' S' n Fn Z hn (λx f u=>z x f ((hF x).2 ⟨j0,u⟩)) X
      (λb P=>T b ((hF b).2 ⟨j0,P⟩)) V (λb P=>R b ((hF b).2 ⟨j0,P⟩))
     have M:∀i,¬i=j0->∀x,Fs i x->¬q x:=λi l x f pK=>l (hd _ _ x f (Q x pK));refine⟨.BQ (cs.set j0 t),λx=>∃g,(if g=j0 then L else Fs g) x,by simp[Di,H,ht],?_,?_,?_⟩
     . refine Ok.BQ _ (λg=>if g=j0 then L else Fs g) _ ?_ ?_ ?_ (λx=>ABb)
       . intro g e o;by_cases hi:g=j0
         . subst hi;rw[AAF N]at o;obtain rfl:=AAG o;simpa using Cm
         . simp only[hi,AAT];rw[AAI ah]at o;have I:∀x,Fs g x->F x/\¬q x:=λx f=>⟨(hF x).2 ⟨g,f⟩,M g hi x f⟩;exact(hr g e o).mono X (λx f=>T x (I x f).1 (I x f).2) V (λx f=>R x (I x f).1 (I x f).2)
       . intro i1 i2 x f u;have D:∀i,¬i=j0->Fs i x->¬L x:=by
          intro i l y K;rcases(G x).1 K with⟨m,o⟩|m
          . exact l (hd _ _ x y m)
          . exact M i l x y (z x m ((hF x).2 ⟨i,y⟩))
         split at f<;>split at u
         . omega
         . rename_i a b;exact absurd f (D _ b u)
         . rename_i a b;exact absurd u (D _ a f)
         . exact hd _ _ x f u
       . intro i1 x f;split at f
         . rename_i l;subst l;exact⟨t,AAF N⟩
         . rename_i l;obtain⟨e,m⟩:=Bg i1 x f;exact⟨e,by rw[AAI ah];exact m⟩
     . intro x;constructor
       . rintro⟨i1,f⟩;split at f
         . rcases(G x).1 f with h|h
           . exact .inl ⟨(hF x).2 ⟨j0,h.1⟩,h.2⟩
           . exact .inr h
         . rename_i l;exact .inl ⟨(hF x).2 ⟨i1,f⟩,M _ l x f⟩
       . rintro(⟨y,K⟩|h)
         . obtain⟨i1,m⟩:=(hF x).1 y;by_cases l:i1=j0
           . subst l;exact⟨i1,by simp;exact(G x).2 (.inl ⟨m,K⟩)⟩
           . exact⟨i1,by simp only[l,AAT];exact m⟩
         . exact⟨j0,by simp;exact(G x).2 (.inr h)⟩
     . simp only[LF,AA1,Dh];congr 2;apply ABQ;intro new;by_cases hn:new=j0
       . subst hn;rw[AAF (by simpa using N)];simp[H]
       . rw[AAI ah]
   . cases C
theorem Q8{l:DV}(m:di)(d:Di D m new=some z)(f:Abs.Au D m=some l)(y:∀h b k rows,l≠ .own h b k rows)(u:∀g,l≠ .agg g)(w:∀g,l≠ .BQ g)(q:di)(v:Value)(bx:Bool)(k:Nat)(rows:dr)(e:Abs.Au D q=some (.own v bx k rows)):∃n,Abs.Au z q=some (.own v bx k n):=by
 induction m generalizing D z q with
 |nil=>
  simp only[Abs.Au,AAC]at f;subst f;cases q with
  |nil=>simp only[Abs.Au,AAC]at e;exact absurd e (y _ _ _ _)
  |cons s q=>
   cases D with
   |lf a v=>simp[Abs.Au]at e
   |own h b k rows=>exact absurd rfl (y _ _ _ _)
   |agg g=>exact absurd rfl (u _)
   |BQ g=>exact absurd rfl (w _)
 |cons s m ih=>
  obtain⟨i,j,t⟩:=s;cases D with
  |lf a v=>simp[Di]at d
  |own h b k1 Ja=>
   simp only[Di]at d;simp only[Abs.Au]at f;cases hi:Ja[i]? with
   |none=>simp[hi]at d
   |some row=>
    simp only[hi]at d f;cases hj:row[j]? with
    |none=>simp[hj]at d
    |some c=>
     simp only[hj]at d f;cases hc:Di c m new with
     |none=>simp[hc]at d
     |some c'=>
      simp only[hc,AAC]at d;subst d;have B:=(AAE.1 hi).1;have o:=(AAE.1 hj).1;cases q with
      |nil=>simp only[Abs.Au,AAC,DV.own.injEq]at e;obtain⟨rfl,rfl,rfl,_⟩:=e;exact⟨_,rfl⟩
      |cons s2 q=>
       obtain⟨i2,r,x⟩:=s2;simp only[Abs.Au]at e |-;by_cases C:i2=i
       . subst C;simp only[AAF B];simp only[hi]at e;by_cases p:r=j
         . subst p;simp only[AAF o];simp only[hj]at e;exact ih hc f q e
         . rw[AAI ah];exact⟨rows,e⟩
       . rw[AAI ah];exact⟨rows,e⟩
  |agg g=>
   simp only[Di]at d;simp only[Abs.Au]at f;cases hj:g[j]? with
   |none=>simp[hj]at d
   |some c=>
    simp only[hj]at d f;cases hc:Di c m new with
    |none=>simp[hc]at d
    |some c'=>
     simp only[hc,AAC]at d;subst d;have o:=(AAE.1 hj).1;cases q with
     |nil=>simp[Abs.Au]at e
     |cons s2 q=>
      obtain⟨i2,r,x⟩:=s2;simp only[Abs.Au]at e |-;by_cases p:r=j
      . subst p;simp only[AAF o];simp only[hj]at e;exact ih hc f q e
      . rw[AAI ah];exact⟨rows,e⟩
  |BQ g=>
   simp only[Di]at d;simp only[Abs.Au]at f;cases hj:g[j]? with
   |none=>simp[hj]at d
   |some c=>
    simp only[hj]at d f;cases hc:Di c m new with
    |none=>simp[hc]at d
    |some c'=>
     simp only[hc,AAC]at d;subst d;have o:=(AAE.1 hj).1;cases q with
     |nil=>simp[Abs.Au]at e
     |cons s2 q=>
      obtain⟨i2,r,x⟩:=s2;simp only[Abs.Au]at e |-;by_cases p:r=j
      . subst p;simp only[AAF o];simp only[hj]at e;exact ih hc f q e
      . rw[AAI ah];exact⟨rows,e⟩
end
section
variable{w w':World}{S S':de}{F F':de}
structure St (G:Gi) (w:World) (S:Nat->Prop) (δ:Nat->DV) (F:Nat->Nat->Prop):Prop where
 ok:∀s,Ok w S (δ s) (F s)
 Lu:∀s t x,F s x->F t x->s=t
 al:∀s,Dc δ (δ s)
 rt:∀s,Fj (G.Gv s) (δ s).er=true
 self:∀s,s∉G.Gv s
mutual
def E1(n d:Nat):AV->AV
 | .al r p=>if r=d/\n<=p.length then .dead else .al r p
 | .Kk r p i j k=>if r=d/\n<=p.length then .dead else .Kk r p i j k
 | .cl f rs=>if(rs.all λx=>x.1 != d)=true then .cl f rs else .dead
 | .vb s o us=>if s=d then .dead else .vb s o us
 | .agg cs=>.agg (UJ n d cs)
 | .BQ cs=>.BQ (UJ n d cs)
 |a=>a
def cn{p:Prop}(h:p:=by simp[E1]):p:=h
def UJ(n d:Nat):List AV->List AV
 |[]=>[]
 |a::r=>E1 n d a::UJ n d r
end
theorem aN(n d:Nat)(l:dm):UJ n d l=l.map (E1 n d):=by
 induction l with
 |nil=>rfl
 |cons a r ih=>simp[UJ,ih]
mutual
def GH(n d:Nat):DV->DV
 | .lf a v=>.lf (E1 n d a) v
 | .own h b k rows=>.own h b k rows
 | .agg cs=>.agg (Sn n d cs)
 | .BQ cs=>.BQ (Sn n d cs)
def Sn(n d:Nat):List DV->List DV
 |[]=>[]
 |a::r=>GH n d a::Sn n d r
end
theorem Xc(n d:Nat)(l:dH):Sn n d l=l.map (GH n d):=by
 induction l with
 |nil=>rfl
 |cons a r ih=>simp[Sn,ih]
def FW(G:Gi)(n d:Nat)(h:Sg):Sg:=λs=>if s∈G.OM d then E1 n d (h s)else h s
def EP(G:Gi)(n d:Nat)(δ:dy):Nat->DV:=λs=>if s∈G.OM d then GH n d (δ s)else δ s
def JV(G:Gi)(d:Nat)(h:Sg):Sg:=λs=>if s∈G.OM d then Df d (h s)else h s
def HE(G:Gi)(d:Nat)(δ:dy):Nat->DV:=λs=>if s∈G.OM d then HD d (δ s)else δ s
theorem Ym(t:Nat)(q:di)(e:Abs.Au d q=some (.own v bx k rows)):Abs.Au (HD t d) q=some (.own v bx k rows):=by
 induction q generalizing d with
 |nil=>simp only[Abs.Au,Option.some.injEq]at e;subst e;simp[Abs.Au]
 |cons s q ih=>
  obtain⟨i,j,f⟩:=s;cases d with
  |lf a v=>simp[Abs.Au]at e
  |own h b k1 Ja=>rw[NL];exact e
  |agg cs=>
   simp only[KW,Abs.Au,List.getElem?_map]at e |-;cases hj:cs[j]? with
   |none=>simp[hj]at e
   |some c=>simp only[hj,Option.map_some]at e |-;exact ih e
  |BQ cs=>
   simp only[KX,Abs.Au,List.getElem?_map]at e |-;cases hj:cs[j]? with
   |none=>simp[hj]at e
   |some c=>simp only[hj,Option.map_some]at e |-;exact ih e
theorem Dc.kill{δ:dy}(x:Nat)(h:Dc δ d)(b:Zn d):Dc δ (HD x d):=by
 induction h with
 |lf a v h=>
  rw[Xb];refine .lf _ v ?_;cases b with
  |lf _ _ b=>
   cases a with
   |al r p=>
    rw[Xh];by_cases e:r=x
    . simp only[e,if_true];trivial
    . simp only[e,if_false];exact h
   |Kk r p i j k=>
    rw[UL];by_cases e:r=x
    . simp only[e,if_true];trivial
    . simp only[e,if_false];exact h
   |vb s o us=>
    rw[Xi];split
    . trivial
    . exact h
   |cl f rs=>
    rw[Sp];split
    . exact h
    . trivial
   |agg cs=>simp[C8]at b
   |BQ cs=>simp[C8]at b
   |own=>simp[C8]at b
   |_=>simp only[Df];trivial
 |own=>rw[NL];exact .own _ _ _ _
 |agg cs _ ih=>
  rw[KW];cases b with
  |agg _ b=>refine .agg _ λi g hd=> ?_;simp only[List.getElem?_map,Option.map_eq_some_iff]at hd;obtain⟨e,c,rfl⟩:=hd;exact ih i e c (b i e c)
 |BQ cs _ ih=>
  rw[KX];cases b with
  |BQ _ b=>refine .BQ _ λi g hd=> ?_;simp only[List.getElem?_map,Option.map_eq_some_iff]at hd;obtain⟨e,c,rfl⟩:=hd;exact ih i e c (b i e c)
variable{G:Gi}{δ:dy}{Fr:dh}
theorem St.jV(h:St G w S δ Fr)(d s:Nat):(HE G d δ s).er=JV G d (λs=>(δ s).er) s:=by
 unfold HE JV;split
 . exact(Ks d (h.ok s)).1
 . rfl
theorem St.UM(h:St G w S δ Fr)(d s:Nat):(HE G d δ s).A0=(δ s).A0:=by
 unfold HE;split
 . exact(Ks d (h.ok s)).2.1
 . rfl
theorem St.jW(h:St G w S δ Fr)(d s:Nat):Fh d (HE G d δ s).er=true:=by
 unfold HE;split
 . exact(Ks d (h.ok s)).2.2.2
 . rename_i hn;exact yS (h.rt s) λa=>hn (Gi.sZ a)
theorem St.killδ_ok(h:St G w S δ Fr)(d s:Nat):Ok w S (HE G d δ s) (Fr s):=by
 unfold HE;split
 . exact(Ks d (h.ok s)).2.2.1
 . exact h.ok s
theorem St.jX(h:St G w S δ Fr)(d s:Nat):Fj (G.Gv s) (HE G d δ s).er=true:=by
 unfold HE;split
 . rw[(Ks d (h.ok s)).1];exact xQ (h.rt s)
 . exact h.rt s
theorem St.killδ_al(h:St G w S δ Fr)(d s:Nat):Dc δ (HE G d δ s):=by
 unfold HE;split
 . exact(h.al s).kill d (h.ok s).Kt
 . exact h.al s
theorem xS(d r:Nat)(p:di)(a:Abs.Au (δ r) p=some (.own v bx k rows)):Abs.Au (HE G d δ r) p=some (.own v bx k rows):=by
 unfold HE;split
 . exact Ym d p a
 . exact a
theorem x9{a:AV}:Fj L a=true->Fh k a=true->Fj (L.filter (· != k)) a=true:=by
 refine AV.rec (motive_1:=λa=>Fj L a=true->Fh k a=true->Fj (L.filter (· != k)) a=true) (motive_2:=λ_=>True) (motive_3:=λl=>Pr L l=true->N4 k l=true->Pr (L.filter (· != k)) l=true)
  ?_ ?_ ?_ ?_ ?_ ?_ ?_ ?_ ?_ ?_ ?_ ?_ ?_ ?_ ?_ ?_ ?_ a
 all_goals intros
 all_goals first|trivial| (simp[Fj];done)|skip
 all_goals first
  | (simp_all [Fj,Fh];done)
  | (simp_all [Pr,N4];done)
  | (rename_i b c;simp only[Fj,Fh,List.all_eq_true,List.contains_iff_mem,List.mem_filter]at b c |-;exactλx e=>⟨b x e,c x e⟩)
  | (rename_i f b c;simp only[Fj,Fh]at b c |-;exact f b c)
theorem St.set(h:St G w S δ Fr)(d:Nat)(e:DV)(Fn:de)(D:∀b,S b->w'.heap[b]? =w.heap[b]?)(B:∀s,s≠d->∀x,Fr s x->w'.heap[x]? =w.heap[x]?)(y:∀b,S b->S' b)(z:∀s,s≠d->∀x,Fr s x->¬S' x)(hn:Ok w' S' e Fn)(m:∀s,s≠d->∀x,Fn x->¬Fr s x)(q:Fj (G.Gv d) e.er=true)(u:Dc δ e):
 St G w' S' (DZ (HE G d δ) d e) (DZ Fr d Fn):=by
 have n:∀(L:dF),d∉L->∀r∈L,∀p v bx k rows,Abs.Au (δ r) p=some (.own v bx k rows)->∃c,Abs.Au (DZ (HE G d δ) d e r) p=some (.own v bx k c):=by intro L j r l p v bx k rows C;refine⟨rows,?_⟩;rw[Ba _ _ (by rintro rfl;exact j l)];exact xS d r p C
 have o:∀(L:dF),d∉L->∀r∈L,(DZ (HE G d δ) d e r).A0=(δ r).A0:=by intro L j r l;rw[Ba _ _ (by rintro rfl;exact j l)];exact h.UM d r
 refine⟨?_,?_,?_,?_,h.self⟩
 . intro s;by_cases a:s=d
   . subst a;rw[BM,BM];exact hn
   . rw[Ba _ _ a,Ba _ _ a];exact(h.killδ_ok d s).mono D (B s a) y (z s a)
 . intro s t x f g;by_cases a:s=d<;>by_cases i:t=d
   . omega
   . subst a;rw[BM]at f;rw[Ba _ _ i]at g;exact absurd g (m t i x f)
   . subst i;rw[BM]at g;rw[Ba _ _ a]at f;exact absurd f (m s a x g)
   . rw[Ba _ _ a]at f;rw[Ba _ _ i]at g;exact h.Lu s t x f g
 . intro s;by_cases a:s=d
   . subst a;rw[BM];exact u.mono q (n _ (h.self s)) (o _ (h.self s))
   . rw[Ba _ _ a];refine(h.killδ_al d s).mono (x9 (h.jX d s) (h.jW d s)) (n _ ?_) (o _ ?_)
     . simp
     . simp
 . intro s;by_cases a:s=d
   . subst a;rw[BM];exact q
   . rw[Ba _ _ a];exact h.jX d s
theorem St.poke(h:St G w S δ Fr)(d:Nat)(e:DV)(Fn:de)(C:∀b,S b->w'.heap[b]? =w.heap[b]?)(B:∀s,s≠d->∀x,Fr s x->w'.heap[x]? =w.heap[x]?)(hn:Ok w' S e Fn)(l:∀s,s≠d->∀x,Fn x->¬Fr s x)(o:Fj (G.Gv d) e.er=true)(y:Dc δ e)(z:∀p v bx k rows,Abs.Au (δ d) p=some (.own v bx k rows)->∃c,Abs.Au e p=some (.own v bx k c))(u:e.A0=(δ d).A0):
 St G w' S (DZ δ d e) (DZ Fr d Fn):=by
 have m:∀(L:dF),∀r∈L,∀p v bx k rows,Abs.Au (δ r) p=some (.own v bx k rows)->∃c,Abs.Au (DZ δ d e r) p=some (.own v bx k c):=by
  intro L r _ p v bx k rows q;by_cases i:r=d
  . subst i;rw[BM];exact z p v bx k rows q
  . rw[Ba _ _ i];exact⟨rows,q⟩
 have n:∀(L:dF),∀r∈L,(DZ δ d e r).A0=(δ r).A0:=by
  intro L r _;by_cases i:r=d
  . subst i;rw[BM];exact u
  . rw[Ba _ _ i]
 refine⟨?_,?_,?_,?_,h.self⟩
 . intro s;by_cases a:s=d
   . subst a;rw[BM,BM];exact hn
   . rw[Ba _ _ a,Ba _ _ a];exact(h.ok s).mono C (B s a) (λ_ h=>h) (h.ok s).Et
 . intro s t x f g;by_cases a:s=d<;>by_cases j:t=d
   . omega
   . subst a;rw[BM]at f;rw[Ba _ _ j]at g;exact absurd g (l t j x f)
   . subst j;rw[BM]at g;rw[Ba _ _ a]at f;exact absurd f (l s a x g)
   . rw[Ba _ _ a]at f;rw[Ba _ _ j]at g;exact h.Lu s t x f g
 . intro s;by_cases a:s=d
   . subst a;rw[BM];exact y.mono o (m _) (n _)
   . rw[Ba _ _ a];exact(h.al s).mono (h.rt s) (m _) (n _)
 . intro s;by_cases a:s=d
   . subst a;rw[BM];exact o
   . rw[Ba _ _ a];exact h.rt s
def St.world(h:St G w S δ Fr)(e:∀b,S b->w'.heap[b]? =w.heap[b]?)(d:∀s x,Fr s x->w'.heap[x]? =w.heap[x]?)(a:∀b,S b->S' b)(c:∀s x,Fr s x->¬S' x):St G w' S' δ Fr:=
 ⟨λs=>(h.ok s).mono e (d s) a (c s),h.Lu,h.al,h.rt,h.self⟩
end
inductive Ar where
 |t (s:Nat)
 |c (a:AV)
 deriving Inhabited
abbrev ek:=List Ar
abbrev gv:=List (Nat×Nat×Ar)
abbrev iy:=List (Nat×Ar)
abbrev ja:=ABd Ar
inductive Yv where
 |cp (x:Ar)
 |mv (x:Ar)
 |fz (x:Ar)
 |pick (c a b:Ar)
 |bx (n:Nat) (x:Ar)
 |T2 (z:List AV) (ps:List (Nat×Nat×Ar))
 |Nk (k:Nat) (z:List (List AV)) (ps:List (Nat×Ar))
 |ld (agg:Bool) (n:Nat) (a:Ar)
 |st (n:Nat) (a v:Ar)
 |Ul (off:Nat) (x:Ar)
 |fld (agg:Bool) (off n:Nat) (x:Ar)
 |WX (k:Nat) (x i:Ar)
 |aad (len k:Nat) (x i:Ar)
 |idx (agg:Bool) (len k:Nat) (x i:Ar)
 |bin (op:BinOp) (x y:Ar)
 |beq (neg:Bool) (x y:Ar)
 |un (op:UnOp) (x:Ar)
 |cvt (k:IntKind) (x:Ar)
 |mm (mx:Bool) (x y:Ar)
 |len (x:Ar)
 |Zc (x:Ar)
 |lS (x i:Ar)
 |lR (neg:Bool) (kd:List Nat) (x y:Ar)
 |app (k bytes:Nat) (x y:Ar)
 |slc (k:Nat) (fr:Bool) (x:Ar) (lo hi mx:ABd Ar)
 |ext (x:Ar) (i:Nat)
 |mk (k bytes:Nat) (z:List AV) (l c:Ar)
 |Jp (x:Ar)
 |mkf (f:Nat) (xs:List Ar)
 |Xn (a:Ar)
 |fl
 |flk (x:Ar) (k:Nat)
 |jQ (r off kb k:Nat) (i:Ar)
 |WU (a v:Ar)
 |std (a:Ar)
 |call (f:Nat) (args:List Ar) (m:Nat)
 |Uv (f:Nat) (pre:List Ar) (x:Ar) (c:ABd Nat) (post:List Ar)
 |bad
 deriving Inhabited
structure Dp where
 d:Nat
 kl:List Nat
 rs:List Nat
 deriving Inhabited
abbrev dD:=ABd Dp
abbrev i4:=Option Dp
structure BP where
 dst:ABd Dp
 op:Yv
 guard:ABd (Nat×Bool)
 deriving Inhabited
abbrev eP:=List BP
structure zU where
 s:Nat
 e:Nat
 ap:Nat
 i7:Nat
 i8:Nat
 i9:Nat
 i11:Nat
 i12:Nat
 deriving Inhabited
inductive gA where
 |o (o:BP)
 |bxv (d:Dp) (n:Nat) (s:Nat)
 |clo (d:ABd Dp) (f:Nat) (x:Ar) (args:List Ar) (g:ABd (Nat×Bool))
 |WL (d:Dp) (neg:Bool) (x:Ar)
 |lb (d:ABd Dp) (f:Nat) (x:Ar) (Sx:List Ar) (y:Ar)
 |gld (d:Dp) (g n:Nat)
 deriving Inhabited
abbrev iu:=List gA
structure zV where
 r:Nat
 off:Nat
 kb:Nat
 i0:Nat
 i1:Nat
 i2:Nat
 d0:Nat
 d1:Nat
 deriving Inhabited
inductive IC where
 |skip
 |bad
 |Yu (ops:List gA)
 |gz (c:Bool) (r:Nat) (p:List Step) (a:IC)
 |pg (c:Bool) (r:Nat) (p:List Step) (a:IC)
 |apd (f:zU) (ops:List BP)
 |T1 (ops:List BP)
 |flo (f:zV) (a b:List BP)
 |bY (fs:List (Nat×Nat×Nat×Nat)) (ops:List BP)
 |seq (a b:IC)
 |cond (c:Ar) (a b:IC)
 |block (id:Nat) (a:IC)
 |loop (a:IC)
 |exit (id:Nat)
 |ret
 deriving Inhabited
def ar(h:Sg):Ar->AV
 | .t s=>h s
 | .c a=>a
def HP:AV->Bool
 | .sc _| .sl .. =>true
 |_=>false
def JM:AV->AV
 | .sc u=>.sc u
 | .sl x k rows=>.sl x k rows
 |_=>.dead
def FN:AV->Bool
 | .sc _| .sl .. | .own .. =>true
 |_=>false
mutual
def view(r:Nat):List Step->AV->AV
 |p,.own _ _ _=>.al r p
 |p,.agg cs=>.agg (Pz r p 0 cs)
 |p,.BQ cs=>.BQ (Pz r p 0 cs)
 |_,a=>a
def Pz(r:Nat)(p:di):Nat->List AV->List AV
 |_,[]=>[]
 |i,c::cs=>view r (p++[(0,i,0)]) c::Pz r p (i+1) cs
end
def vC(r:Nat)(p:di)(i j k:Nat):AV->AV
 | .own _ _ _=>.al r (p++[(i,j,k)])
 | .sc v=>.sc v
 | .sl x k' rows=>.sl x k' rows
 |_=>.dead
def vF(s j:Nat):AV->AV
 | .own _ _ _=>.al s [(0,j,0)]
 | .agg _=>.dead
 | .BQ _=>.dead
 |a=>a
def Py(r:Nat)(p:di)(i k:Nat):Nat->List AV->List AV
 |_,[]=>[]
 |j,c::cs=>vC r p i j k c::Py r p i k (j+1) cs
def Mj(s:Nat):Nat->List AV->List AV
 |_,[]=>[]
 |j,c::cs=>vF s j c::Mj s (j+1) cs
def JW(kl:dF)(d:Nat)(h:Sg):Sg:=match kl with
 |[]=>h
 |_=>λs=>if s∈kl then Df d (h s)else h s
def wr(d:Dp)(v:AV)(h:Sg):Option Sg:=if Fj d.rs v=true then some (DZ (JW d.kl d.d h) d.d v)else none
def Zh(G:Gi)(r:Nat)(p:di)(h:Sg):Option (AV×Sg):=
 match sub (h r) p with
 |some (.own b k rows)=>match put (h r) p .dead with
  |some t=>some (.own b k rows,DZ (FW G p.length r h) r t)
  |none=>none
 |_=>none
def mH(G:Gi):List AV->Sg->Option (List AV×Sg)
 |[],h=>some ([],h)
 |a::cs,h=>match a with
  | .al r p=>match Zh G r p h with
   |some (n,τ)=>match mH G cs τ with
    |some (l,τ')=>some (n::l,τ')
    |none=>none
   |none=>none
  |a=>if FN a=true then
   match mH G cs h with
   |some (l,τ)=>some (a::l,τ)
   |none=>none
   else none
def tk(G:Gi)(x:Ar)(h:Sg):Option (AV×Sg):=
 match x with
 | .c a=>some (a,h)
 | .t s=>match h s with
  | .al r p=>Zh G r p h
  | .own b k rows=>some (.own b k rows,DZ (JV G s h) s .dead)
  | .agg cs=>if cs.all HP=true then some (.agg cs,h)else
   match mH G cs (DZ (JV G s h) s .dead)with
   |some (l,τ)=>some (.agg l,τ)
   |none=>none
  | .sc v=>some (.sc v,h)
  | .sl e k rows=>some (.sl e k rows,h)
  | .Kk r p i j k=>some (.Kk r p i j k,h)
  | .fp cs=>some (.fp cs,h)
  |_=>none
def cellsOf:AV->List AV
 | .agg cs=>cs
 |a=>[a]
def hd(h:Sg)(x:Ar):Option (AV×Option (Nat×List Step)):=
 match x with
 | .c a=>match a with
  | .own b k rows=>some (.own b k rows,none)
  |_=>none
 | .t s=>match h s with
  | .al r p=>match sub (h r) p with
   |some n=>some (n,some (r,p))
   |none=>none
  | .own b k rows=>some (.own b k rows,some (s,[]))
  | .sl e k rows=>some (.sl e k rows,none)
  |_=>none
def QT(G:Gi)(r:Nat)(p:di)(h:Sg):Option (AV×Sg):=
 match sub (h r) p with
 |some (.own b k rows)=>match put (h r) p (JH (.own b k rows))with
  |some t=>some (JH (.own b k rows),DZ (JV G r h) r t)
  |none=>none
 |_=>none
def nJ:AV->Option Int
 | .sc (.int _ n)=>some n
 |_=>none
def EE(h:Sg)(x:Ar):Option (Nat×List Step×Nat×Nat×Nat):=
 match x with
 | .c _=>none
 | .t s=>match h s with
  | .Kk r p i j k=>some (r,p,i,j,k)
  | .own true k _=>some (s,[],0,0,k)
  | .al r p=>match sub (h r) p with
   |some (.own true k _)=>some (r,p,0,0,k)
   |_=>none
  |_=>none
def binI(op:BinOp)(k:IntKind)(x y:Int):Option Value:=
 match op with
 | .add=>some (.int k (k.wrap (x+y)))
 | .sub=>some (.int k (k.wrap (x-y)))
 | .mul=>some (.int k (k.wrap (x*y)))
 | .quo=>if y=0 then none else some (.int k (k.wrap (x.tdiv y)))
 | .rem=>if y=0 then none else some (.int k (x.tmod y))
 | .eql=>some (.bool (x==y))
 | .neq=>some (.bool (x != y))
 | .lss=>some (.bool (x<y))
 | .leq=>some (.bool (x<=y))
 | .gtr=>some (.bool (x>y))
 | .geq=>some (.bool (x>=y))
 |_=>none
def binF(op:BinOp):AV->AV->Option AV
 | .sc (.int k x),.sc (.int k' y)=>if k=k' then(binI op k x y).map .sc else none
 | .sc (.string x),.sc (.string y)=>match op with
  | .eql=>some (.sc (.bool (x.toList==y.toList)))
  | .neq=>some (.sc (.bool (!(x.toList==y.toList))))
  |_=>none
 |_,_=>none
def unF(op:UnOp):AV->Option AV
 | .sc (.bool x)=>match op with
  | .not=>some (.sc (.bool (!x)))
  |_=>none
 | .sc (.int k x)=>match op with
  | .neg=>some (.sc (.int k (k.wrap (0-x))))
  |_=>none
 |_=>none
def Ia(agg:Bool)(n:Nat)(cs:dm):Option AV:=
 if cs.length=n then(if agg=true then some (.agg cs)else match cs with|[c]=>some c|_=>none)else none
def SX(rows:dn)(lo hi:Nat):Option (List (List AV)):=
 if lo<=hi/\hi<=rows.length then some ((rows.drop lo).take (hi-lo))else none
def NQ(h:Sg)(x:Option Ar)(d:Nat):Option Nat:=
 match x with
 |none=>some d
 |some a=>match nJ (ar h a)with
  |some n=>if 0<=n then some n.toNat else none
  |none=>none
def mxI(W:Sg)(mx:Option Ar)(h:Nat):Option Nat:=
 match mx with
 |none=>some h
 |some a=>NQ W (some a) 0
def wC:Nat->Value->Value->Option Bool
 |0,.bool a,.bool b=>some (a==b)
 |1,.int k n,.int k' m=>if k=k' then some (n==m)else none
 |2,.string a,.string b=>some (a.toList==b.toList)
 |_,_,_=>none
def QC:List Nat->List AV->List AV->Option Bool
 |[],[],[]=>some true
 |kd::ks,.sc u::xs,.sc v::ys=>match wC kd u v,QC ks xs ys with
  |some a,some b=>some (a&&b)
  |_,_=>none
 |_,_,_=>none
def SP(h:Sg):List Ar->Option (List (Nat×List Step))
 |[]=>some []
 |x::r=>match x with
  | .t s=>(match h s,SP h r with
   | .own true _ _,some l=>some ((s,[])::l)
   | .al q p,some l=>(match sub (h q) p with
    |some (.own true _ _)=>some ((q,p)::l)
    |_=>none)
   |_,_=>none)
  | .c _=>none
def valOf(o:Yv)(h:Sg):Option AV:=
 match o with
 | .cp x=>match x with
  | .t s=>some (view s [] (h s))
  | .c a=>some a
 | .pick c a b=>match ar h c with
  | .sc (.bool x)=>match ar h (if x=true then a else b)with
   | .sc v=>some (.sc v)
   |_=>none
  |_=>none
 | .ld agg n a=>match a with
  | .c _=>none
  | .t s=>match h s with
   | .fp cs=>Ia agg n ((cs.take n).map JM)
   | .vb q o _=>match h q with
    | .agg cs=>Ia agg n (Mj q o ((cs.drop o).take n))
    |_=>none
   |_=>match EE h (.t s)with
    |some (r,p,i,j,k)=>match sub (h r) p with
     |some (.own _ _ rows)=>match rows[i]? with
      |some row=>Ia agg n (Py r p i k j ((row.drop j).take n))
      |none=>none
     |_=>none
    |none=>none
 | .Ul off x=>match x with
  | .c _=>none
  | .t s=>match h s with
   | .fp cs=>some (.fp (cs.drop off))
   | .vb q o us=>some (.vb q (o+off) us)
   |_=>match EE h (.t s)with
    |some (r,p,i,j,k)=>some (.Kk r p i (j+off) k)
    |none=>none
 | .fld agg off n x=>match x with
  | .c _=>none
  | .t s=>match h s with
   | .agg cs=>Ia agg n (Mj s off ((cs.drop off).take n))
   |_=>none
 | .WX k x i=>match hd h x,nJ (ar h i)with
  |some (.own false k' rows,some (r,p)),some n=>if k'=k/\0<=n/\n<rows.length then some (.Kk r p n.toNat 0 k)else none
  |some (.sl _ k' rows,_),some n=>if k'=k/\0<=n then(rows[n.toNat]?).map .fp else none
  |_,_=>none
 | .aad len k x i=>match x,nJ (ar h i)with
  | .t s,some n=>if 0<=n/\n<len then
   match h s with
   | .fp cs=>some (.fp (cs.drop (n.toNat*k)))
   |_=>match EE h (.t s)with
    |some (r,p,i,j,k')=>some (.Kk r p i (j+n.toNat*k) k')
    |none=>none
   else none
  |_,_=>none
 | .idx agg len k x i=>match x,nJ (ar h i)with
  | .t s,some n=>if 0<=n/\n<len then
   match h s with
   | .agg cs=>Ia agg k (Mj s (n.toNat*k) ((cs.drop (n.toNat*k)).take k))
   |_=>none
   else none
  |_,_=>none
 | .bin op x y=>binF op (ar h x) (ar h y)
 | .beq neg x y=>match ar h x,ar h y with
  | .sc (.bool a),.sc (.bool b)=>some (.sc (.bool (if neg=true then !(a==b)else(a==b))))
  |_,_=>none
 | .un op x=>unF op (ar h x)
 | .cvt k x=>match ar h x with
  | .sc (.int _ n)=>some (.sc (.int k (k.wrap n)))
  |_=>none
 | .mm mx x y=>match ar h x,ar h y with
  | .sc (.int k n),.sc (.int k' m)=>if k=k' then some (.sc (.int k (if mx=true then(if m>n then m else n)else(if m<n then m else n))))else none
  |_,_=>none
 | .len x=>match hd h x with
  |some (.own false _ rows,_)=>some (.sc (.int .i64 rows.length))
  |some (.sl _ _ rows,_)=>some (.sc (.int .i64 rows.length))
  |_=>none
 | .Zc x=>match ar h x with
  | .sc (.string s)=>some (.sc (.int .i64 s.size))
  |_=>none
 | .lS x i=>match ar h x,nJ (ar h i)with
  | .sc (.string s),some n=>if 0<=n then(s[n.toNat]?).map λb=>.sc (.int .u8 b.toNat)else none
  |_,_=>none
 | .lR neg kd x y=>match ar h x,ar h y with
  | .agg xs,.agg ys=>(QC kd xs ys).map λb=>.sc (.bool (if neg=true then !b else b))
  |_,_=>none
 | .ext x i=>match x with
  | .t s=>match h s with
   | .BQ cs=>match cs[i]? with
    |some c=>some (view s [(0,i,0)] c)
    |none=>none
   |_=>none
  |_=>none
 | .Jp x=>match ar h x with
  | .Kk r p i j k=>some (.Kk r p i j k)
  | .fp cs=>some (.fp cs)
  | .al r p=>match sub (h r) p with
   |some (.own true _ _)=>some (.al r p)
   |_=>none
  | .own true _ _=>match x with
   | .t s=>some (.al s [])
   |_=>none
  |_=>none
 | .mkf f xs=>(SP h xs).map (.cl f)
 | .fl=>some .dead
 | .flk x k=>match x with
  | .t s=>match h s with
   | .BQ cs=>if k<cs.length then some .dead else none
   |_=>none
  |_=>none
 | .jQ r off kb k i=>match h r,nJ (ar h i)with
  | .own true kb' [row],some n=>match row[off]? with
   |some (.own false k' rows)=>if kb'=kb/\k'=k/\0<=n/\n<rows.length then some (.Kk r [(0,off,kb)] n.toNat 0 k)else none
   |_=>none
  |_,_=>none
 | .Xn a=>match EE h a with
  |some (r,p,i,j,k)=>match sub (h r) p with
   |some (.own _ _ rows)=>match rows[i]? with
    |some row=>match row[j]? with
     |some (.own _ _ _)=>some (.al r (p++[(i,j,k)]))
     |_=>none
    |none=>none
   |_=>none
  |none=>none
 |_=>none
def eR(cs:dm)(off:Nat)(xs:dm):List AV:=cs.take off++xs++cs.drop (off+xs.length)
def VS(G:Gi):List (Nat×Nat×Ar)->List AV->Sg->Option (List AV×Sg)
 |[],cs,h=>some (cs,h)
 | (off,n,x)::ps,cs,h=>match tk G x h with
  |some (a,τ)=>if(cellsOf a).length=n/\off+n<=cs.length/\(cellsOf a).all FN=true then VS G ps (eR cs off (cellsOf a)) τ else none
  |none=>none
def VU(G:Gi)(k:Nat):List (Nat×Ar)->List (List AV)->Sg->Option (List (List AV)×Sg)
 |[],rows,h=>some (rows,h)
 | (i,x)::ps,rows,h=>match tk G x h with
  |some (a,τ)=>if(cellsOf a).length=k/\i<rows.length/\(cellsOf a).all FN=true then VU G k ps (rows.set i (cellsOf a)) τ else none
  |none=>none
def stC(p:di)(i k:Nat):Nat->List AV->AV->Option AV
 |_,[],t=>some t
 |j,c::cs,t=>match put t (p++[(i,j,k)]) c with
  |some t'=>stC p i k (j+1) cs t'
  |none=>none
def Ap(n bytes:Nat):Bool:=n*bytes<=70368744177664
def Wq(G:Gi)(k:Nat)(y:Ar)(h:Sg):Option (List (List AV)×Sg):=
 match y with
 | .t s=>match h s with
  | .own false k' rows=>if k'=k/\rows.all (·.all FN)=true then some (rows,DZ (JV G s h) s .dead)else none
  | .sl _ k' rows=>if k'=k/\rows.all (·.all HP)=true then some (rows,h)else none
  | .al r p=>match QT G r p h with
   |some (.sl _ k' rows,τ)=>if k'=k/\rows.all (·.all HP)=true then some (rows,τ)else none
   |_=>none
  |_=>none
 | .c a=>match a with
  | .own false _ []=>some ([],h)
  |_=>none
def VQ(G:Gi)(k:Nat)(x:Ar)(τ:Sg):Option (AV×Sg):=
 match x with
 | .t s=>match τ s with
  | .sl true k' rows=>if k'=k/\rows.all (·.all HP)=true then some (.sl true k' rows,τ)else none
  | .own false k' rows=>if k'=k then some (.own false k' rows,DZ (JV G s τ) s .dead)else none
  | .al r p=>match Zh G r p τ with
   |some (.own false k' rows,τ')=>if k'=k then some (.own false k' rows,τ')else none
   |_=>none
  |_=>none
 | .c a=>match a with
  | .own false _ []=>some (.own false k [],τ)
  |_=>none
def GO(G:Gi)(o:Yv)(d:i4)(W:Sg):Option Sg:=
 match o,d with
 | .mv x,some d=>match tk G x W with
  |some (v,τ)=>wr d v τ
  |none=>none
 | .fz x,some d=>match x with
  | .t s=>match W s with
   | .al r p=>match QT G r p W with
    |some (v,τ)=>wr d v τ
    |none=>none
   | .own _ _ _=>match QT G s [] W with
    |some (v,τ)=>wr d v τ
    |none=>none
   | .sc v=>wr d (.sc v) W
   | .sl e k rows=>wr d (.sl e k rows) W
   |_=>none
  | .c _=>none
 | .bx n x,some d=>match tk G x W with
  |some (v,τ)=>if(cellsOf v).length=n/\(cellsOf v).all FN=true then wr d (.own true n [cellsOf v]) τ else none
  |none=>none
 | .T2 z ps,some d=>match VS G ps z W with
  |some (cs,τ)=>wr d (.agg cs) τ
  |none=>none
 | .Nk k z ps,some d=>match VU G k ps z W with
  |some (rows,τ)=>wr d (.own false k rows) τ
  |none=>none
 | .mk k bytes z l c,some d=>match nJ (ar W l),nJ (ar W c)with
  |some l,some c=>if 0<=l/\l<=c/\Ap c.toNat bytes=true then wr d (.own false k (List.replicate l.toNat z)) W else none
  |_,_=>none
 | .slc k fr x lo hi mx,some d=>match hd W x with
  |some (.sl _ k' rows,_)=>match NQ W lo 0,NQ W hi rows.length with
   |some l,some h=>match SX rows l h,mxI W mx h with
    |some rs,some m=>if k'=k/\m=h then wr d (.sl mx.isSome k rs) W else none
    |_,_=>none
   |_,_=>none
  |some (.own false k' rows,some (r,p))=>match NQ W lo 0,NQ W hi rows.length with
   |some l,some h=>match SX rows l h,mxI W mx h with
    |some rs,some m=>if k'=k/\m=h then
     (if fr=true then
      match QT G r p W with
      |some (_,τ)=>wr d (.sl mx.isSome k (rs.map (·.map JH))) τ
      |none=>none
     else if l=0/\mx.isNone=true then
      match Zh G r p W with
      |some (_,τ)=>wr d (.own false k rs) τ
      |none=>none
     else none)
     else none
    |_,_=>none
   |_,_=>none
  |_=>none
 | .app k bytes x y,some d=>match Wq G k y W with
  |some (ys,τ)=>match VQ G k x τ with
   |some (.own _ _ rows,τ')=>if Ap (rows.length+ys.length) bytes=true then wr d (.own false k (rows++ys)) τ' else none
   |some (.sl _ _ rows,τ')=>if ys.isEmpty=true then wr d (.sl false k rows) τ'
    else if Ap (rows.length+ys.length) bytes=true then wr d (.own false k (rows++ys)) τ' else none
   |_=>none
  |none=>none
 | .st n a v,none=>match tk G v W with
  |some (x,τ)=>match EE τ a with
   |some (r,p,i,j,k)=>match sub (τ r) p with
    |some (.own _ _ rows)=>match rows[i]? with
     |some row=>
      if(cellsOf x).length=n/\(cellsOf x).all FN=true/\j+n<=row.length then
       match stC p i k j (cellsOf x) (τ r)with
       |some t=>if((row.drop j).take n).all C8=true then some (DZ τ r t)else some (DZ (JV G r τ) r t)
       |none=>none
      else none
     |none=>none
    |_=>none
   |none=>none
  |none=>none
 | .WU a v,none=>match ar W v with
  | .sc u=>match EE W a with
   |some (r,p,i,j,k)=>match sub (W r) p with
    |some (.own _ _ rows)=>match rows[i]? with
     |some row=>match row[j]? with
      |some (.sc _)=>match put (W r) (p++[(i,j,k)]) (.sc u)with
       |some t=>some (DZ W r t)
       |none=>none
      |_=>none
     |none=>none
    |_=>none
   |none=>none
  |_=>none
 | .std a,none=>match EE W a with
  |some (r,p,i,j,_)=>match sub (W r) (p++[(i,j,0)])with
   |some .dead=>some W
   |_=>none
  |none=>none
 |o,some d=>match valOf o W with
  |some v=>wr d v W
  |none=>none
 |_,none=>none
variable{y:Ar}{σ':Sg}
theorem lda_ld{v:AV}(h:valOf (.Xn y) σ'=some v):valOf (.ld false 1 y) σ'=some v:=by
 simp only[valOf]at h |-;split at h
 . rename_i r p i j k d;split at h
   . rename_i b x rows n;split at h
     . rename_i row m;split at h
       . rename_i f w e g;obtain rfl:=Option.some.inj h;have hd:(row.drop j).take 1=[.own f w e]:=(by obtain⟨l,u⟩:=List.getElem?_eq_some_iff.1 g;rw[List.drop_eq_getElem_cons l,u];rfl);cases y with
         |c=>simp[EE]at d
         |t s=>
          simp only;cases hσ:σ' s with
          |fp cs=>simp[EE,hσ]at d
          |vb q o us=>simp[EE,hσ]at d
          |_=>simp only[d,n,m,hd];rfl
       . cases h
     . cases h
   . cases h
 . cases h
variable{G:Gi}{τ:Sg}
theorem sts_st{v:Ar}(h:GO G (.WU y v) none σ'=some τ):GO G (.st 1 y v) none σ'=some τ:=by
 simp only[GO]at h |-;split at h
 . rename_i u d;have e:tk G v σ'=some (.sc u,σ'):=by
    cases v with
    |c c=>simp only[ar]at d;subst d;rfl
    |t s=>simp only[ar]at d;simp[tk,d]
   rw[e];simp only;split at h
   . rename_i r p i j k f
     try simp only[f]
     split at h
     . rename_i b x rows n
       try simp only[n]
       split at h
       . rename_i row m
         try simp only[m]
         split at h
         . rename_i w g;obtain⟨l,q⟩:=List.getElem?_eq_some_iff.1 g;have hd:(row.drop j).take 1=[.sc w]:=(by rw[List.drop_eq_getElem_cons l,q];rfl);split at h
           . rename_i t o;obtain rfl:=Option.some.inj h;rw[if_pos ⟨by simp[cellsOf],by simp[cellsOf,FN],ah⟩];simp[cellsOf,stC,o,hd,C8]
           . cases h
         . cases h
       . cases h
     . cases h
   . cases h
 . cases h
def dN(kb off:Nat):AV->Bool
 | .own true k [row]=>k==kb&&decide (off<row.length)
 |_=>false
structure Ext (w w':World) (F:Nat->Prop):Prop where
 os:w'.os=w.os
 tape:w'.tape=w.tape
 output:w'.output=w.output
 size:w.heap.size<=w'.heap.size
 block:∀b,b<w.heap.size->¬F b->w'.heap[b]? =w.heap[b]?
def Ld:List ABe:=[⟨#[118,97,114]⟩,⟨#[118,111,108,97,116,105,108,101]⟩,⟨#[109,117,116,101,120]⟩,⟨#[114,119,108,111,99,107]⟩,⟨#[99,111,110,100]⟩,⟨#[102,117,116,117,114,101]⟩,⟨#[116,104,114,101,97,100]⟩,⟨#[105,102]⟩,⟨#[101,108,115,101]⟩,⟨#[119,104,105,108,101]⟩,⟨#[108,111,99,107]⟩,⟨#[114,101,97,100]⟩,⟨#[119,114,105,116,101]⟩,⟨#[116,114,97,110,115,97,99,116,105,111,110]⟩,⟨#[97,116,111,109,105,99]⟩,⟨#[119,97,105,116]⟩,⟨#[110,111,116,105,102,121]⟩,⟨#[110,111,116,105,102,121,97,108,108]⟩,⟨#[115,112,97,119,110]⟩,⟨#[106,111,105,110]⟩,⟨#[115,101,116]⟩,⟨#[103,101,116]⟩]
def Gam:List (Nat×List Value):=[(0,Ld.map Value.string)]
def GI(w:World)(S:de):Prop:=∀x∈Gam,S x.1/\∃arr E fz,w.heap[x.1]? =some (.cells arr E fz)/\∀(j:Nat) v,x.2[j]? =some v->arr[j]? =some v
def BD(P:Program)(f:Nat)(args:dm)(res:AV)(outs:dm):Prop:=
 ∀(w:World)(S:de)(ds:dH)(F:de),GI w S->ds.map DV.er=args->Ok w S (.BQ ds) F->(∀b,S b->b<w.heap.size)->
  Calls P f (ds.map DV.A0).toArray w λe w'=>∃(r:DV)(os:dH)(S' F':de),e= .returned r.A0/\r.er=res/\os.map DV.er=outs/\os.map DV.A0=ds.map DV.A0/\
   Ok w' S' (.BQ (r::os)) F'/\Ext w w' F/\(∀b,S b->S' b)/\(∀b,S' b->S b\/F b\/w.heap.size<=b)/\(∀b,S' b->b<w'.heap.size)/\(∀x,F' x->F x\/w.heap.size<=x)
def Says(P:Program)(f:Nat)(args:dm)(res:AV):Prop:=BD P f args res (args.map λ_=>.dead)
def TL(h:Sg):AV->ABd AV
 | .al r p=>match sub (h r) p with
  |some (.own false k rows)=>some (JH (.own false k rows))
  |some (.own true _ [row])=>some (.fp (row.map JH))
  |_=>none
 | .own false k rows=>some (JH (.own false k rows))
 | .own true _ [row]=>some (.fp (row.map JH))
 | .fp cs=>some (.fp cs)
 | .sc v=>some (.sc v)
 | .sl _ k rows=>some (.sl false k rows)
 |_=>none
def rdL(h:Sg):List AV->ABd (List AV)
 |[]=>some []
 |a::r=>match TL h a,rdL h r with
  |some x,some l=>some (x::l)
  |_,_=>none
def kN(h:Sg):AV->ABd AV
 | .agg cs=>match rdL h cs with
  |some l=>some (.agg l)
  |none=>none
 | .al r p=>TL h (.al r p)
 | .own b k rows=>TL h (.own b k rows)
 | .sc v=>TL h (.sc v)
 | .sl e k rows=>TL h (.sl e k rows)
 | .fp cs=>TL h (.fp cs)
 |_=>none
def Jt(h:Sg):List Ar->ABd (List AV)
 |[]=>some []
 |x::r=>match kN h (ar h x),Jt h r with
  |some a,some l=>some (a::l)
  |_,_=>none
def fzl:AV->AV
 | .sl _ k rows=>.sl false k rows
 |a=>JH a
def zY:AV->AV
 | .agg cs=>.agg (cs.map fzl)
 |a=>fzl a
def Mw(G:Gi):List Ar->Sg->ABd (List AV×Sg)
 |[],h=>some ([],h)
 |x::r,h=>match tk G x h with
  |some (a,τ)=>match Mw G r τ with
   |some (l,τ')=>some (zY a::l,τ')
   |none=>none
  |none=>none
def Q9(G:Gi):List Ar->Sg->ABd (List AV×Sg)
 |[],h=>some ([],h)
 |x::r,h=>match tk G x h with
  |some (a,τ)=>match Q9 G r τ with
   |some (l,τ')=>some (a::l,τ')
   |none=>none
  |none=>none
def W0(h:Sg):List (Nat×List Step)->ABd (List (List AV))
 |[]=>some []
 | (r,p)::l=>match TL h (.al r p),W0 h l with
  |some (.fp cs),some WA=>some (cs::WA)
  |_,_=>none
def V2(G:Gi):List Ar->Sg->ABd (List AV×Sg)
 |[],_=>none
 |x::r,h=>match r with
  |[]=>(match ar h x with
   | .cl f rs=>(match W0 h rs with
    |some WA=>some ([.oT f WA],h)
    |none=>none)
   |_=>none)
  |y::r=>match tk G x h with
   |some (a,τ)=>match V2 G (y::r) τ with
    |some (l,τ')=>some (a::l,τ')
    |none=>none
   |none=>none
def Z8:AV->Bool
 | .sc _=>true
 | .agg cs=>cs.all λ| .sc _=>true|_=>false
 | .BQ cs=>cs.all λ| .sc _=>true|_=>false
 |_=>false
mutual
def fresh:AV->Bool
 | .sc _=>true
 | .own _ _ rows=>RM rows
 | .agg cs=>PB cs
 | .BQ cs=>PB cs
 |_=>false
def PB:List AV->Bool
 |[]=>true
 |a::r=>fresh a&&PB r
def RM:List (List AV)->Bool
 |[]=>true
 |a::r=>PB a&&RM r
end
def KP:AV->Bool
 | .sc _| .sl .. | .own .. =>true
 |_=>false
def clean:AV->Bool
 | .agg cs=>cs.all KP
 | .BQ cs=>cs.all λ
  | .agg l=>l.all KP
  |a=>KP a
 |a=>KP a
def Rr(m:Nat)(res:AV):Option AV:=
 match m with
 |0=>if Z8 res=true then some res else none
 |1=>some (JH res)
 |2=>if fresh res=true then some res else none
 |3=>if clean res=true then some res else none
 |4=>if fresh res=true then some res else none
 |_=>none
def GN(G:Gi)(m:Nat)(args:ek)(h:Sg):Option (List AV×Sg):=
 match m with
 |1=>Mw G args h
 |3=>Q9 G args h
 |4=>V2 G args h
 |_=>match Jt h args with
  |some l=>some (l,h)
  |none=>none
def C2(dst:i4)(v:AV)(K:dg)(τ:Sg):Prop:=
 match dst with
 |some d=>(match wr d v τ with
  |some τ'=>K τ'
  |none=>False)
 |none=>K τ
def yI(h:Sg):Ar->Option (Nat×List Step)
 | .t s=>match h s with
  | .al r p=>some (r,p)
  | .own _ _ _=>some (s,[])
  |_=>none
 | .c _=>none
def ID:AV->Bool
 | .own .. | .dead=>true
 |_=>false
def Ri:AV->AV
 | .sc v=>.sc v
 | .sl _ k rows=>.sl false k rows
 |_=>.dead
def rdF(h:Sg):Ar->Option AV
 | .t s=>match h s with
  | .agg cs=>some (.agg (cs.map Ri))
  |a=>some (Ri a)
 | .c a=>match a with
  | .sc v=>some (.sc v)
  | .own false k []=>some (.sl false k [])
  |_=>none
def Ms(h:Sg):List Ar->Option (List AV)
 |[]=>some []
 |x::r=>match rdF h x,Ms h r with
  |some a,some l=>some (a::l)
  |_,_=>none
def Pf(h:Sg)(x:Ar)(c:Option Nat):Option (Nat×List Step):=match c with
 |none=>yI h x
 |some j=>match x with
  | .t s=>match h s with
   | .agg cs=>match cs[j]? with
    |some (.al r p)=>some (r,p)
    |some (.own _ _ _)=>some (s,[(0,j,0)])
    |_=>none
   |_=>none
  | .c _=>none
def Su(h:Sg)(x:Ar)(c:Option Nat)(n:AV):AV:=match c with
 |none=>n
 |some j=>match ar h x with
  | .agg cs=>.agg ((cs.map Ri).set j n)
  |_=>.dead
def SO(c:Option Nat)(out:AV):Option AV:=match c with
 |none=>some out
 |some j=>match out with
  | .agg cs=>cs[j]?
  |_=>none
def Sv(u:AV)(b:Bool)(k:Nat)(p:di):Nat:=match u with
 | .own b' k' _=>if b'=b/\k'=k then p.length+1 else 0
 |_=>0
def ED(P:Program)(G:Gi)(o:BP)(K:dg)(h:Sg):Prop:=
 match o.op with
 | .call f args m=>match GN G m args h with
  |some (aZ9,τ)=>∃res,Says P f aZ9 res/\(match Rr m res with
   |some v=>C2 o.dst v K τ
   |none=>False)
  |none=>False
 | .Uv f pre x c post=>match Pf h x c,Ms h pre,Ms h post with
  |some (r,p),some aZ9,some bs=>(match sub (h r) p with
   |some (.own b k rows)=>∃res out u,BD P f (aZ9++Su h x c (.own b k rows)::bs) res ((aZ9.map λ_=>.dead)++out::bs.map λ_=>.dead)/\SO c out=some u/\ID u=true/\clean res=true/\(match put (h r) p u with
    |some t=>C2 o.dst res K (DZ (FW G (Sv u b k p) r h) r t)
    |none=>False)
   |_=>False)
  |_,_,_=>False
 |op=>match GO G op o.dst h with
  |some τ=>K τ
  |none=>False
def Kl(P:Program)(G:Gi)(o:BP)(K:dg)(h:Sg):Prop:=
 match o.guard with
 |none=>ED P G o K h
 |some (g,want)=>match h g with
  | .sc (.bool b)=>if b=want then ED P G o K h else
   (match o.dst with
   |some d=>K (DZ (JW d.kl d.d h) d.d .un)
   |none=>K h)
  | .un=>(match o.dst with
   |some d=>K (DZ (JW d.kl d.d h) d.d .un)
   |none=>K h)
  |_=>False
def Nh(P:Program)(G:Gi):List BP->(Sg->Prop)->Sg->Prop
 |[],K,h=>K h
 |o::os,K,h=>Kl P G o (Nh P G os K) h
def rowsOf:AV->Option (List (List AV))
 | .own false _ rows=>some rows
 | .sl _ _ rows=>some rows
 |_=>none
def vL(h:Sg):List (Nat×List Step)->Option (List AV)
 |[]=>some []
 | (r,p)::l=>match TL h (.al r p),vL h l with
  |some a,some aZ9=>some (a::aZ9)
  |_,_=>none
def cloA(h:Sg)(f:Nat)(x:Ar)(args:ek):Option (List AV):=match ar h x with
 | .cl f' rs=>if f'=f then(match Jt h args,vL h rs with
  |some aZ9,some bs=>some (aZ9++bs)
  |_,_=>none)else none
 |_=>none
def iX(g n:Nat):Option (List Value):=match Gam.find? (λx=>x.1==g)with
 |some x=>if x.2.length=n/\x.2.all GJ=true then some x.2 else none
 |none=>none
def Yl(d:i4)(K:dg)(h:Sg):Prop:=match d with
 |some d=>K (DZ (JW d.kl d.d h) d.d .un)
 |none=>K h
def gdP(g:Option (Nat×Bool))(A B:dg)(h:Sg):Prop:=match g with
 |none=>A h
 |some (g,want)=>match h g with
  | .sc (.bool b)=>if b=want then A h else B h
  | .un=>B h
  |_=>False
def oL(P:Program)(d:i4)(f:Nat)(x:Ar)(args:ek)(K:dg)(h:Sg):Prop:=match cloA h f x args with
 |some aZ9=>∃res,Says P f aZ9 res/\(match Rr 0 res with
  |some v=>C2 d v K h
  |none=>False)
 |none=>False
def lbQ(P:Program)(G:Gi)(d:i4)(f:Nat)(r r2:Nat)(p p2:di)(v n:AV)(b:Bool)(k:Nat)(ms:dm)(K:dg)(τ:Sg):Prop:=
 r≠r2/\∃res out,BD P f (n::(ms++[v])) res (out::((ms.map λ_=>.dead)++[v]))/\ID out=true/\clean res=true/\(match put (τ r) p out with
  |some t=>(match put (DZ (FW G (Sv out b k p) r τ) r t r2) p2 v with
   |some t2=>C2 d res K (DZ (FW G p2.length r2 (DZ (FW G (Sv out b k p) r τ) r t)) r2 t2)
   |none=>False)
  |none=>False)
def lbP(P:Program)(G:Gi)(d:i4)(f:Nat)(x:Ar)(Sx:ek)(y:Ar)(K:dg)(h:Sg):Prop:=match yI h y with
 |some (r2,p2)=>(match Zh G r2 p2 h with
  |some (v,τ)=>(match yI τ x,Ms τ Sx with
   |some (r,p),some ms=>(match sub (τ r) p with
    |some (.own b k rows)=>lbQ P G d f r r2 p p2 v (.own b k rows) b k ms K τ
    |_=>False)
   |_,_=>False)
  |none=>False)
 |none=>False
def LG(P:Program)(G:Gi):List gA->(Sg->Prop)->Sg->Prop
 |[],K,h=>K h
 | .o o::xs,K,h=>Kl P G o (LG P G xs K) h
 | .WL d neg x::xs,K,h=>match hd h x with
  |some (a,_)=>(match rowsOf a with
   |some rows=>∀b:Bool,(b=true->rows=[])->C2 (some d) (.sc (.bool (if neg=true then !b else b))) (LG P G xs K) h
   |none=>False)
  |none=>False
 | .gld d g n::xs,K,h=>match iX g n with
  |some cs=>C2 (some d) (.agg (cs.map .sc)) (LG P G xs K) h
  |none=>False
 | .bxv d n s::xs,K,h=>match h s with
  | .agg cs=>cs.length=n/\∀us:List Value,us.length=n->C2 (some d) (.vb s 0 us) (LG P G xs K) h
  |_=>False
 | .lb d f x Sx y::xs,K,h=>lbP P G d f x Sx y (LG P G xs K) h
 | .clo d f x args g::xs,K,h=>gdP g (oL P d f x args (LG P G xs K)) (Yl d (LG P G xs K)) h
def czS(G:Gi)(r:Nat)(p:di)(h:Sg):Option Sg:=match sub (h r) p with
 |some (.own b k rows)=>(match put (h r) p (.own b k (NG rows))with
  |some t=>some (DZ (FW G (p.length+1) r h) r t)
  |none=>none)
 |_=>none
def gzS(G:Gi)(c:Bool)(r:Nat)(p:di)(h:Sg):Option Sg:=if c=true then czS G r p h else match sub (h r) p with
 |some (.sl _ _ _)=>some h
 |_=>match QT G r p h with
  |some (_,τ)=>some τ
  |none=>none
def pgQ(G:Gi)(c:Bool)(r:Nat)(p:di)(Q:Exit->Sg->Prop):Exit->Sg->Prop
 | .normal,h=>(match gzS G c r p h with
  |some τ=>Q .normal τ
  |none=>False)
 |e,h=>Q e h
def Qp(P:Program)(G:Gi)(f:zV):List BP->(Sg->Prop)->Sg->Prop
 |[],K,h=>K h
 |o::os,K,h=>dN f.kb f.off (h f.r)=true/\Kl P G o (Qp P G f os K) h
def PS:AV->Bool
 | .own false _ _=>true
 |_=>false
def RU:AV->Bool
 | .Kk .. =>true
 |_=>false
def yC(f:zU)(m:Nat)(h:Sg):Bool:=(decide (m<=f.i7)||PS (h f.s))&&(decide (m<=f.i8)||RU (h f.e))&&(decide (m<=f.i11)||RU (h f.ap))
def ON(P:Program)(G:Gi)(f:zU):Nat->List BP->(Sg->Prop)->Sg->Prop
 |m,[],K,h=>yC f m h=true/\K h
 |m,o::os,K,h=>yC f m h=true/\Kl P G o (ON P G f (m+1) os K) h
def Exit.Qm(next:dg)(Q:Exit->Sg->Prop):Exit->Sg->Prop
 | .normal,h=>next h
 |e,h=>Q e h
def Exit.Wz(id:Nat)(Q:Exit->Sg->Prop):Exit->Sg->Prop
 | .exit i,h=>if i=id then Q .normal h else Q (.exit i) h
 |e,h=>Q e h
def Hg(P:Program)(G:Gi):IC->(Exit->Sg->Prop)->Sg->Prop
 | .skip,Q,h=>Q .normal h
 | .bad,_,_=>False
 | .Yu xs,Q,h=>LG P G xs (Q .normal) h
 | .apd f ops,Q,h=>ON P G f 0 ops (Kl P G ⟨none,.st 1 (.t f.ap) (.t f.s),none⟩ (Q .normal)) h
 | .pg c r p a,Q,h=>Hg P G a (pgQ G c r p Q) h
 | .gz c r p a,Q,h=>match gzS G c r p h with
  |some τ=>Hg P G a Q τ
  |none=>False
 | .T1 ops,Q,h=>Nh P G ops (Q .normal) h
 | .flo f a b,Q,h=>Qp P G f a (Nh P G b (Q .normal)) h
 | .bY _ ops,Q,h=>Nh P G ops (Q .normal) h
 | .seq a b,Q,h=>Hg P G a (Exit.Qm (Hg P G b Q) Q) h
 | .cond c a b,Q,h=>match ar h c with
  | .sc (.bool x)=>if x=true then Hg P G a Q h else Hg P G b Q h
  |_=>False
 | .block id a,Q,h=>Hg P G a (Exit.Wz id Q) h
 | .loop a,Q,h=>∃I:Nat->Sg->Prop,(∃n,I n h)/\∀n τ,I n τ->Hg P G a (Exit.Qm (λτ'=>∃n',n'<n/\I n' τ') Q) τ
 | .exit id,Q,h=>Q (.exit id) h
 | .ret,Q,h=>Q .ret h
def awp_skip(P:Program)(G:Gi)(Q:Exit->Sg->Prop)(h:Sg):Hg P G .skip Q h=Q .normal h:=(rfl)
def awp_reg(P:Program)(G:Gi)(ops:eP)(Q:Exit->Sg->Prop)(h:Sg):Hg P G (.T1 ops) Q h=Nh P G ops (Q .normal) h:=(rfl)
def awp_rex(P:Program)(G:Gi)(a:iu)(Q:Exit->Sg->Prop)(h:Sg):Hg P G (.Yu a) Q h=LG P G a (Q .normal) h:=(rfl)
def rP(P:Program)(G:Gi)(a b:IC)(Q:Exit->Sg->Prop)(h:Sg):Hg P G (.seq a b) Q h=Hg P G a (Exit.Qm (Hg P G b Q) Q) h:=(rfl)
def u7(P:Program)(G:Gi)(b:Nat)(a:IC)(Q:Exit->Sg->Prop)(h:Sg):Hg P G (.block b a) Q h=Hg P G a (Exit.Wz b Q) h:=(rfl)
def awp_exit(P:Program)(G:Gi)(a:Nat)(Q:Exit->Sg->Prop)(h:Sg):Hg P G (.exit a) Q h=Q (.exit a) h:=(rfl)
def awp_ret(P:Program)(G:Gi)(Q:Exit->Sg->Prop)(h:Sg):Hg P G .ret Q h=Q .ret h:=(rfl)
theorem gS(P:Program)(G:Gi)(c:Ar)(a b:IC)(Q:Exit->Sg->Prop)(h:Sg):Hg P G (.cond c a b) Q h=match ar h c with
 | .sc (.bool x)=>if x=true then Hg P G a Q h else Hg P G b Q h
 |_=>False:=rfl
variable{P:Program}{V:Exit->Sg->Prop}
def awp_loop{a:IC}(I:ga)(n:Nat)(h:I n σ')(b:∀n τ,I n τ->Hg P G a (Exit.Qm (λc=>∃d,d<n/\I d c) V) τ):Hg P G (.loop a) V σ':=⟨I,⟨n,h⟩,b⟩
def lP(next:dg)(Q:Exit->Sg->Prop)(h:Sg):Exit.Qm next Q .normal h=next h:=(rfl)
def yY(next:dg)(Q:Exit->Sg->Prop)(a:Nat)(h:Sg):Exit.Qm next Q (.exit a) h=Q (.exit a) h:=(rfl)
def seqA_ret(next:dg)(Q:Exit->Sg->Prop)(h:Sg):Exit.Qm next Q .ret h=Q .ret h:=(rfl)
def Y6(a:Nat)(Q:Exit->Sg->Prop)(h:Sg):Exit.Wz a Q .normal h=Q .normal h:=(rfl)
def O8(a i:Nat)(Q:Exit->Sg->Prop)(h:Sg):Exit.Wz a Q (.exit i) h=if i=a then Q .normal h else Q (.exit i) h:=(rfl)
def nS(a:Nat)(Q:Exit->Sg->Prop)(h:Sg):Exit.Wz a Q .ret h=Q .ret h:=(rfl)
inductive RV where
 |tmp (t:Nat)
 |cell (a:Nat) (agg:Bool) (n:Nat)
 deriving Inhabited
abbrev il:=List RV
def Ft(G:Gi):List RV->Sg->Option (List AV×Sg)
 |[],h=>some ([],h)
 | .tmp t::l,h=>match tk G (.t t) h with
  |some (v,τ)=>match Ft G l τ with
   |some (vs,τ')=>some (v::vs,τ')
   |none=>none
  |none=>none
 | .cell a agg n::l,h=>match h a with
  | .own true _ [row]=>match Ia agg n row with
   |some v=>match Ft G l (DZ (JV G a h) a .dead)with
    |some (vs,τ')=>some (v::vs,τ')
    |none=>none
   |none=>none
  |_=>none
def one:List AV->AV
 |[v]=>v
 |vs=>.BQ vs
def Ends(G:Gi)(rs:il)(res:AV)(e:Exit)(h:Sg):Prop:=
 (match e with| .normal=>True| .ret=>True|_=>False)/\∃vs τ,Ft G rs h=some (vs,τ)/\one vs=res
def start(args:dm):Sg:=λs=>args.getD s .un
section
variable{w w':World}{S S':de}{F F':de}{G:Gi}{δ δ':dy}{Fr:dh}
def Xd(n d r:Nat)(p:di):E1 n d (.al r p)=if r=d/\n<=p.length then .dead else .al r p:=cn
def UK(n d r:Nat)(p:di)(i j k:Nat):E1 n d (.Kk r p i j k)=if r=d/\n<=p.length then .dead else .Kk r p i j k:=cn
@[simp]theorem aO(n d:Nat)(a:dm):E1 n d (.agg a)= .agg (a.map (E1 n d)):=by simp[E1,aN]
@[simp]theorem aP(n d:Nat)(a:dm):E1 n d (.BQ a)= .BQ (a.map (E1 n d)):=by simp[E1,aN]
def Xf(n d s o:Nat)(a:List Value):E1 n d (.vb s o a)=if s=d then .dead else .vb s o a:=cn
def Xe(n d f:Nat)(rs:eu):E1 n d (.cl f rs)=if(rs.all λx=>x.1 != d)=true then .cl f rs else .dead:=cn
@[simp]theorem aM(n d:Nat)(a:AV)(v:Value):GH n d (.lf a v)= .lf (E1 n d a) v:=by simp[GH]
@[simp]theorem Lh(n d:Nat)(h:Value)(b:Bool)(k:Nat)(rows:dr):GH n d (.own h b k rows)= .own h b k rows:=by simp[GH]
@[simp]theorem KY(n d:Nat)(a:dH):GH n d (.agg a)= .agg (a.map (GH n d)):=by simp[GH,Xc]
@[simp]theorem KZ(n d:Nat)(a:dH):GH n d (.BQ a)= .BQ (a.map (GH n d)):=by simp[GH,Xc]
theorem QG(L:dF)(n d:Nat):∀(a:AV),Fj L a=true->Fj L (E1 n d a)=true
 | .al r p,h=>by
  rw[Xd];split
  . simp
  . exact h
 | .Kk r p i j k,h=>by
  rw[UK];split
  . simp
  . exact h
 | .agg cs,h=>by rw[KA,AAH]at h;rw[aO,KA,AA9,AAH];intro c b;exact QG L n d c (h c b)
 | .BQ cs,h=>by rw[OA,AAH]at h;rw[aP,OA,AA9,AAH];intro c b;exact QG L n d c (h c b)
 | .sc _,_=>cn
 | .sl ..,_=>cn
 | .own ..,_=>cn
 | .fp _,_=>cn
 | .dead,_=>cn
 | .un,_=>cn
 | .oT ..,_=>by simp[E1,Fj]
 | .vb s o us,h=>by
  rw[Xf];split
  . simp
  . exact h
 | .cl f rs,h=>by
  rw[Xe];split
  . exact h
  . simp
theorem pW{a:AV}(n d:Nat)(b:Hc w S a v):Hc w S (E1 n d a) v:=by
 cases a with
 |al r p=>rw[Xd];split<;>simp[Hc]
 |Kk r p i j k=>rw[UK];split<;>simp[Hc]
 |cl f rs=>rw[Xe];split<;>trivial
 |vb s o us=>rw[Xf];split<;>first|trivial|exact b
 |agg cs=>exact b.elim
 |BQ cs=>exact b.elim
 |own=>exact b.elim
 |_=>simpa[E1]using b
theorem LL(n x:Nat)(h:Ok w S d F):(GH n x d).er=E1 n x d.er/\(GH n x d).A0=d.A0/\Ok w S (GH n x d) F:=by
 induction h with
 |lf a v F ha hF=>refine⟨ak,ak,?_⟩;rw[aM];exact .lf _ v F (pW n x ha) hF
 |nil k F hF=>exact⟨cn,ak,by rw[Lh];exact .nil k F hF⟩
 |own bx k rows b c arr E Fs F hb hk D3 LJ hv hr hd Bg KE hF ih=>exact⟨cn,ak,by rw[Lh];exact .own bx k rows b c arr E Fs F hb hk D3 LJ hv hr hd Bg KE hF⟩
 |agg cs Fs F hr hd Bg hF ih=>
  have key:∀e∈cs,(GH n x e).er=E1 n x e.er/\(GH n x e).A0=e.A0:=by intro e f;obtain⟨i,hi⟩:=AAd f;exact⟨(ih i e hi).1,(ih i e hi).2.1⟩
  refine⟨?_,?_,?_⟩
  . simp only[KY,HM,aO,List.map_map,AV.agg.injEq];exact List.map_congr_left λe f=>(key e f).1
  . simp only[KY,Jh,List.map_map];congr 2;exact List.map_congr_left λe f=>(key e f).2
  . rw[KY];refine .agg _ Fs F ?_ hd ?_ hF
    . intro i e g;simp only[AAN,AAc]at g;obtain⟨j,l,rfl⟩:=g;exact(ih i j l).2.2
    . intro i d m;obtain⟨e,g⟩:=Bg i d m;exact⟨GH n x e,by simp[g]⟩
 |BQ cs Fs F hr hd Bg hF ih=>
  have key:∀e∈cs,(GH n x e).er=E1 n x e.er/\(GH n x e).A0=e.A0:=by intro e f;obtain⟨i,hi⟩:=AAd f;exact⟨(ih i e hi).1,(ih i e hi).2.1⟩
  refine⟨?_,?_,?_⟩
  . simp only[KZ,JG,aP,List.map_map,AV.BQ.injEq];exact List.map_congr_left λe f=>(key e f).1
  . simp only[KZ,LF,List.map_map];congr 2;exact List.map_congr_left λe f=>(key e f).2
  . rw[KZ];refine .BQ _ Fs F ?_ hd ?_ hF
    . intro i e g;simp only[AAN,AAc]at g;obtain⟨j,l,rfl⟩:=g;exact(ih i j l).2.2
    . intro i d m;obtain⟨e,g⟩:=Bg i d m;exact⟨GH n x e,by simp[g]⟩
theorem Dc.E1(n x:Nat)(h:Dc δ d)(g:Zn d)(q:∀r p v bx k rows,(r≠x\/p.length<n)->Au (δ r) p=some (.own v bx k rows)->∃c,Au (δ' r) p=some (.own v bx k c))(y:∀r,r≠x->(δ' r).A0=(δ r).A0):Dc δ' (GH n x d):=by
 induction h with
 |lf a v h=>
  rw[aM];refine .lf _ v ?_;cases g with
  |lf _ _ g=>
   cases a with
   |al r p=>
    rw[Xd];split
    . trivial
    . rename_i e;obtain⟨bx,k,rows,h⟩:=h;obtain⟨c,l⟩:=q r p v bx k rows ah h;exact⟨bx,k,c,l⟩
   |Kk r p i j k=>
    rw[UK];split
    . trivial
    . obtain⟨t,bx,rows,b,h,E,rfl⟩:=h;obtain⟨c,l⟩:=q r p t bx k rows ah h;exact⟨t,bx,c,b,l,E,rfl⟩
   |vb s o us=>
    rw[Xf];split
    . trivial
    . exact(y s bm).trans h
   |cl f rs=>
    rw[Xe];split
    . rename_i w;obtain⟨vs,B,C,D⟩:=h;refine⟨vs,B,C,λi r p u hi G=> ?_⟩;obtain⟨bx,k,rows,F⟩:=D i r p u hi G;rw[AAH]at w;obtain⟨c,l⟩:=q r p u bx k rows (.inl (by simpa using w _ (AAP hi))) F;exact⟨bx,k,c,l⟩
    . trivial
   |agg cs=>simp[C8]at g
   |BQ cs=>simp[C8]at g
   |own=>simp[C8]at g
   |_=>simp only[Abs.E1];trivial
 |own=>rw[Lh];exact .own _ _ _ _
 |agg cs _ ih=>
  rw[KY];cases g with
  |agg _ g=>refine .agg _ λi z hd=> ?_;simp only[AAN,AAc]at hd;obtain⟨e,m,rfl⟩:=hd;exact ih i e m (g i e m)
 |BQ cs _ ih=>
  rw[KZ];cases g with
  |BQ _ g=>refine .BQ _ λi z hd=> ?_;simp only[AAN,AAc]at hd;obtain⟨e,m,rfl⟩:=hd;exact ih i e m (g i e m)
theorem St.QH(h:St G w S δ Fr)(n d s:Nat):(EP G n d δ s).er=FW G n d (λs=>(δ s).er) s:=by
 unfold EP FW;split
 . exact(LL n d (h.ok s)).1
 . rfl
theorem St.Li(h:St G w S δ Fr)(n d s:Nat):(EP G n d δ s).A0=(δ s).A0:=by
 unfold EP;split
 . exact(LL n d (h.ok s)).2.1
 . rfl
theorem St.xO(h:St G w S δ Fr)(n d s:Nat):Ok w S (EP G n d δ s) (Fr s):=by
 unfold EP;split
 . exact(LL n d (h.ok s)).2.2
 . exact h.ok s
theorem St.xP(h:St G w S δ Fr)(n d s:Nat):Fj (G.Gv s) (EP G n d δ s).er=true:=by
 unfold EP;split
 . rw[(LL n d (h.ok s)).1];exact QG _ n d _ (h.rt s)
 . exact h.rt s
theorem V1(n t:Nat)(q:di):Abs.Au (GH n t d) q=some (.own v bx k rows)↔Abs.Au d q=some (.own v bx k rows):=by
 induction q generalizing d with
 |nil=>simp only[Abs.Au,AAC];cases d<;>simp
 |cons s q ih=>
  obtain⟨i,j,e⟩:=s;cases d with
  |lf a v=>simp[Abs.Au]
  |own h b k1 Ja=>rw[Lh]
  |agg cs=>
   simp only[KY,Abs.Au,AAN];cases hj:cs[j]? with
   |none=>simp
   |some c=>simp only[AAf];exact ih
  |BQ cs=>
   simp only[KZ,Abs.Au,AAN];cases hj:cs[j]? with
   |none=>simp
   |some c=>simp only[AAf];exact ih
theorem Xg(n d r:Nat)(p:di):Abs.Au (EP G n d δ r) p=some (.own v bx k rows)↔Abs.Au (δ r) p=some (.own v bx k rows):=by
 unfold EP;split
 . exact V1 n d p
 . exact ABb
theorem NR(q:di):∀(p:di),q.length<=p.length->Di d p new=some z->(q.length=p.length->∀v bx k rows,Abs.Au d p=some (.own v bx k rows)->∃f,new= .own v bx k f)->∀{v:Value}{bx:Bool}{k:Nat}{rows:dr},Abs.Au d q=some (.own v bx k rows)->∃f,Abs.Au z q=some (.own v bx k f):=by
 induction q generalizing d z with
 |nil=>
  intro p u t w v bx k rows g;simp only[Abs.Au,AAC]at g;subst g
  match p,u with
  |[],_=>simp only[Di,AAC]at t;subst t;obtain⟨f,h⟩:=w rfl v bx k rows rfl;exact⟨f,by rw[h];rfl⟩
  | (i,j,D)::p,_=>
   simp only[Di]at t;split at t
   . split at t
     . split at t
       . simp only[AAC]at t;subst t;exact⟨_,by simp[Abs.Au];rfl⟩
       . cases t
     . cases t
   . cases t
 |cons s q ih=>
  intro p u t w v bx k rows g;obtain⟨i,j,D⟩:=s
  match p,u with
  | (i',j',k')::p,u=>
   have o:q.length<=p.length:=(by simpa using u);cases d with
   |lf a v=>simp[Abs.Au]at g
   |own h b k1 Ja=>
    simp only[Di]at t;split at t
    . rename_i row B;split at t
      . rename_i c n;split at t
        . rename_i c' r;simp only[AAC]at t;subst t;simp only[Abs.Au]at g |-;cases hi:Ja[i]? with
          |none=>simp[hi]at g
          |some row2=>
           simp only[hi]at g;cases hj:row2[j]? with
           |none=>simp[hj]at g
           |some c2=>
            simp only[hj]at g;have x:i<Ja.length:=(AAE.1 hi).1;have l:j<row2.length:=(AAE.1 hj).1;by_cases C:i'=i
            . subst C;rw[hi]at B;cases B;rw[AAF x];by_cases m:j'=j
              . subst m;rw[hj]at n;cases n;simp only[AAF l];exact ih p o r (λe v bx k rows h=>w (by simp[e]) v bx k rows (by simp only[Abs.Au,hi,hj];exact h)) g
              . simp only[AAI m,hj];exact⟨rows,g⟩
            . rw[AAI C];simp only[hi,hj];exact⟨rows,g⟩
        . cases t
      . cases t
    . cases t
   |agg cs=>
    simp only[Di]at t;split at t
    . rename_i c n;split at t
      . rename_i c' r;simp only[AAC]at t;subst t;simp only[Abs.Au]at g |-;cases hj:cs[j]? with
        |none=>simp[hj]at g
        |some c2=>
         simp only[hj]at g;have l:j<cs.length:=(AAE.1 hj).1;by_cases m:j'=j
         . subst m;rw[hj]at n;cases n;simp only[AAF l];exact ih p o r (λe v bx k rows h=>w (by simp[e]) v bx k rows (by simp only[Abs.Au,hj];exact h)) g
         . simp only[AAI m,hj];exact⟨rows,g⟩
      . cases t
    . cases t
   |BQ cs=>
    simp only[Di]at t;split at t
    . rename_i c n;split at t
      . rename_i c' r;simp only[AAC]at t;subst t;simp only[Abs.Au]at g |-;cases hj:cs[j]? with
        |none=>simp[hj]at g
        |some c2=>
         simp only[hj]at g;have l:j<cs.length:=(AAE.1 hj).1;by_cases m:j'=j
         . subst m;rw[hj]at n;cases n;simp only[AAF l];exact ih p o r (λe v bx k rows h=>w (by simp[e]) v bx k rows (by simp only[Abs.Au,hj];exact h)) g
         . simp only[AAI m,hj];exact⟨rows,g⟩
      . cases t
    . cases t
theorem St.setn(h:St G w S δ Fr)(n d:Nat)(g:DV)(Fn:de)(H:∀b,S b->w'.heap[b]? =w.heap[b]?)(E:∀s,s≠d->∀x,Fr s x->w'.heap[x]? =w.heap[x]?)(C:∀b,S b->S' b)(D:∀s,s≠d->∀x,Fr s x->¬S' x)(hn:Ok w' S' g Fn)(y:∀s,s≠d->∀x,Fn x->¬Fr s x)(z:Fj (G.Gv d) g.er=true)(B:Dc δ g)(u:∀p v bx k rows,p.length<n->Abs.Au (δ d) p=some (.own v bx k rows)->∃c,Abs.Au g p=some (.own v bx k c)):
 St G w' S' (DZ (EP G n d δ) d g) (DZ Fr d Fn):=by
 have o:∀r p v bx k rows,(r≠d\/p.length<n)->Abs.Au (δ r) p=some (.own v bx k rows)->∃c,Abs.Au (DZ (EP G n d δ) d g r) p=some (.own v bx k c):=by
  intro r p v bx k rows f l;by_cases e:r=d
  . subst e;rw[BM];exact u p v bx k rows ah l
  . rw[Ba _ _ e];exact⟨rows,(Xg n d r p).2 l⟩
 have q:∀r,r≠d->(DZ (EP G n d δ) d g r).A0=(δ r).A0:=by intro r f;rw[Ba _ _ f];exact h.Li n d r
 refine⟨?_,?_,?_,?_,h.self⟩
 . intro s;by_cases a:s=d
   . subst a;rw[BM,BM];exact hn
   . rw[Ba _ _ a,Ba _ _ a];exact(h.xO n d s).mono H (E s a) C (D s a)
 . intro s t x i j;by_cases a:s=d<;>by_cases m:t=d
   . omega
   . subst a;rw[BM]at i;rw[Ba _ _ m]at j;exact absurd j (y t m x i)
   . subst m;rw[BM]at j;rw[Ba _ _ a]at i;exact absurd i (y s a x j)
   . rw[Ba _ _ a]at i;rw[Ba _ _ m]at j;exact h.Lu s t x i j
 . intro s;by_cases a:s=d
   . subst a;rw[BM];refine B.mono z (λr f p v bx k rows l=>o r p v bx k rows (.inl ?_) l) (λr f=>q r ?_)
     . rintro rfl;exact h.self _ f
     . rintro rfl;exact h.self _ f
   . rw[Ba _ _ a];unfold EP;split
     . exact(h.al s).E1 n d (h.ok s).Kt o q
     . rename_i hn;have hd:d∉G.Gv s:=λF=>hn (Gi.sZ F);refine(h.al s).mono (h.rt s) (λr f p v bx k rows l=>o r p v bx k rows (.inl ?_) l) (λr f=>q r ?_)
       . rintro rfl;exact hd f
       . rintro rfl;exact hd f
 . intro s;by_cases a:s=d
   . subst a;rw[BM];exact z
   . rw[Ba _ _ a];exact h.xP n d s
end
variable{U F S1 Ff:de}{H:World}{u:Value}
section
variable{w w':World}{S S':de}{G:Gi}{δ:dy}{Fr:dh}
structure Nx (w:World) (S U:Nat->Prop) (w':World) (S' U':Nat->Prop):Prop where
 os:w'.os=w.os
 tape:w'.tape=w.tape
 output:w'.output=w.output
 size:w.heap.size<=w'.heap.size
 block:∀b,b<w.heap.size->¬U b->w'.heap[b]? =w.heap[b]?
 sub:∀b,S b->S' b
 sup:∀b,S' b->S b\/U b\/w.heap.size<=b
 lt:(∀b,S b->b<w.heap.size)->∀b,S' b->b<w'.heap.size
 own:∀x,U' x->U x\/w.heap.size<=x
def Nx.refl(w:World)(S U:de):Nx w S U w S U:=
 ⟨rfl,rfl,rfl,AAe _,λ_ _ _=>rfl,λ_ h=>h,λ_ h=>.inl h,λh=>h,λ_ h=>.inl h⟩
def Nx.less{w:World}{S:de}(h:∀x,F x->U x):Nx w S U w S F:=
 ⟨rfl,rfl,rfl,AAe _,λ_ _ _=>rfl,λ_ h=>h,λ_ h=>.inl h,λh=>h,λx b=>.inl (h x b)⟩
theorem Nx.trans{w l:World}{S S2:de}(h:Nx w S U H S1 F)(k:Nx H S1 F l S2 Ff):Nx w S U l S2 Ff:=by
 refine⟨k.os.trans h.os,k.tape.trans h.tape,k.output.trans h.output,AA5 h.size k.size,?_,λb c=>k.sub b (h.sub b c),?_,λm b c=>k.lt (h.lt m) b c,?_⟩
 . intro b c i;rw[k.block b (ABE c h.size) ?_,h.block b c i];intro e;rcases h.own b e with a|a
   . exact i a
   . omega
 . intro b c;have f:=h.size;rcases k.sup b c with a|a|a
   . exact h.sup b a
   . rcases h.own b a with d|d
     . exact .inr (.inl d)
     . exact .inr (.inr d)
   . exact .inr (.inr (AA5 f a))
 . intro x n;have f:=h.size;rcases k.own x n with a|a
   . exact h.own x a
   . exact .inr (AA5 f a)
abbrev BJ(Fr:dh):Nat->Prop:=λx=>∃s,Fr s x
theorem kills_eq(d:Nat)(W:Sg):JW (G.OM d) d W=JV G d W:=by
 unfold JW JV;split
 . rename_i h;funext s;simp[h]
 . rfl
def Dc.dead(v:Value):Dc δ (.lf .dead v):=.lf _ _ trivial
theorem St.empty(h:St G w S δ Fr)(s:Nat):
 St G w S (DZ (HE G s δ) s (.lf .dead (δ s).A0)) (DZ Fr s λ_=>False):=by
 refine h.set s _ _ (λ_ _=>rfl) (λ_ _ _ _=>rfl) (λ_ h=>h) (λt _ x a=>(h.ok t).Et x a) (.lf _ _ _ trivial (λ_ h=>h)) (λ_ _ _ h=>h.elim) ak (Dc.dead _)
theorem IF(h:St G w S δ Fr)(d:Nat)(x:DV):(λs=>(DZ (HE G d δ) d x s).er)=DZ (JV G d (λs=>(δ s).er)) d x.er:=by
 funext s;by_cases a:s=d
 . subst a;simp[DZ]
 . simp only[DZ,a,AAT];exact h.jV d s
theorem Hf(h:St G w S δ Fr)(d:Nat)(x:DV)(s:Nat):(DZ (HE G d δ) d x s).A0=if s=d then x.A0 else(δ s).A0:=by
 by_cases a:s=d
 . subst a;simp[DZ]
 . simp only[DZ,a,AAT];exact h.UM d s
theorem Uy{a:AV}(p:di)(e:Di d p (.lf a u)=some new)(q:di)(t:Au new q=some (.own v bx k rows)):∃f,Au d q=some (.own v bx k f):=by
 induction p generalizing d new q with
 |nil=>
  simp only[Di,AAC]at e;subst e;cases q with
  |nil=>simp[Au]at t
  |cons s q=>simp[Au]at t
 |cons s p ih=>
  obtain⟨i,j,w⟩:=s;cases d with
  |lf a v=>simp[Di]at e
  |own hh b k1 Ja=>
   simp only[Di]at e;cases hi:Ja[i]? with
   |none=>simp[hi]at e
   |some row=>
    simp only[hi]at e;cases hj:row[j]? with
    |none=>simp[hj]at e
    |some c=>
     simp only[hj]at e;cases hc:Di c p (.lf a u)with
     |none=>simp[hc]at e
     |some c'=>
      simp only[hc,AAC]at e;subst e;have r:=(AAE.1 hi).1;have g:=(AAE.1 hj).1;cases q with
      |nil=>simp only[Au,AAC,DV.own.injEq]at t;obtain⟨rfl,rfl,rfl,_⟩:=t;exact⟨_,rfl⟩
      |cons s2 q=>
       obtain⟨i2,l,o⟩:=s2;simp only[Au]at t |-;by_cases m:i2=i
       . subst m;simp only[AAF r]at t;simp only[hi];by_cases h:l=j
         . subst h;simp only[AAF g]at t;simp only[hj];exact ih hc q t
         . rw[AAI ah]at t;exact⟨rows,t⟩
       . rw[AAI ah]at t;exact⟨rows,t⟩
  |agg cs=>
   simp only[Di]at e;cases hj:cs[j]? with
   |none=>simp[hj]at e
   |some c=>
    simp only[hj]at e;cases hc:Di c p (.lf a u)with
    |none=>simp[hc]at e
    |some c'=>
     simp only[hc,AAC]at e;subst e;have g:=(AAE.1 hj).1;cases q with
     |nil=>simp[Au]at t
     |cons s2 q=>
      obtain⟨i2,l,o⟩:=s2;simp only[Au]at t |-;by_cases h:l=j
      . subst h;simp only[AAF g]at t;simp only[hj];exact ih hc q t
      . rw[AAI ah]at t;exact⟨rows,t⟩
  |BQ cs=>
   simp only[Di]at e;cases hj:cs[j]? with
   |none=>simp[hj]at e
   |some c=>
    simp only[hj]at e;cases hc:Di c p (.lf a u)with
    |none=>simp[hc]at e
    |some c'=>
     simp only[hc,AAC]at e;subst e;have g:=(AAE.1 hj).1;cases q with
     |nil=>simp[Au]at t
     |cons s2 q=>
      obtain⟨i2,l,o⟩:=s2;simp only[Au]at t |-;by_cases h:l=j
      . subst h;simp only[AAF g]at t;simp only[hj];exact ih hc q t
      . rw[AAI ah]at t;exact⟨rows,t⟩
theorem MZ(p:di)(e:Di d p new=some D)(m:Dc δ d)(hn:Dc δ new):Dc δ D:=by
 induction p generalizing d D with
 |nil=>simp only[Di,AAC]at e;exact e▸hn
 |cons s p ih=>
  obtain⟨i,j,k⟩:=s;cases m with
  |lf a v h=>simp[Di]at e
  |own hh b k1 rows=>
   simp only[Di]at e;split at e
   . split at e
     . split at e
       . simp only[AAC]at e;subst e;exact .own _ _ _ _
       . cases e
     . cases e
   . cases e
  |agg cs hr=>
   simp only[Di]at e;split at e
   . rename_i c f;split at e
     . rename_i c' g;simp only[AAC]at e;subst e;refine .agg _ λi t hd=> ?_;by_cases hi:i=j
       . subst hi;rw[AAF (AAE.1 f).1]at hd;obtain rfl:=AAG hd;exact ih g (hr i c f)
       . rw[AAI ah]at hd;exact hr i t hd
     . cases e
   . cases e
  |BQ cs hr=>
   simp only[Di]at e;split at e
   . rename_i c f;split at e
     . rename_i c' g;simp only[AAC]at e;subst e;refine .BQ _ λi t hd=> ?_;by_cases hi:i=j
       . subst hi;rw[AAF (AAE.1 f).1]at hd;obtain rfl:=AAG hd;exact ih g (hr i c f)
       . rw[AAI ah]at hd;exact hr i t hd
     . cases e
   . cases e
theorem Ll(p:di)(t:Di d p new=some D)(e:Fj L d.er=true)(hn:Fj L new.er=true):Fj L D.er=true:=by
 induction p generalizing d D with
 |nil=>simp only[Di,AAC]at t;exact t▸hn
 |cons s p ih=>
  obtain⟨i,j,k⟩:=s;cases d with
  |lf a v=>simp[Di]at t
  |own hh b k1 rows=>
   simp only[Di]at t;split at t
   . split at t
     . split at t
       . simp only[AAC]at t;subst t;simp
       . cases t
     . cases t
   . cases t
  |agg cs=>
   simp only[Di]at t;split at t
   . rename_i c g;split at t
     . rename_i c' f;simp only[AAC]at t;subst t;simp only[HM,KA,AA9,AAH]at e |-;intro x l;rcases AAh l with h|rfl
       . exact e x h
       . exact ih f (e c (AAP g))
     . cases t
   . cases t
  |BQ cs=>
   simp only[Di]at t;split at t
   . rename_i c g;split at t
     . rename_i c' f;simp only[AAC]at t;subst t;simp only[JG,OA,AA9,AAH]at e |-;intro x l;rcases AAh l with h|rfl
       . exact e x h
       . exact ih f (e c (AAP g))
     . cases t
   . cases t
theorem St.replace(h:St G w S δ Fr)(r:Nat)(p:di)(C:Au (δ r) p=some d):
 ∃a,Ok w S d a/\(∀x,a x->Fr r x)/\∀(S':de)(new:DV),new.A0=d.A0->Ok w S' new (λ_=>False)->(∀b,S b->S' b)->(∀t b,Fr t b->¬a b->¬S' b)->
  (∀L,Fj L new.er=true)->Dc δ new->
  ∃t F',Di (δ r) p new=some t/\St G w S' (DZ (HE G r δ) r t) (DZ Fr r F')/\(∀x,F' x↔Fr r x/\¬a x)/\t.A0=(δ r).A0:=by
 obtain⟨a,B,f,u⟩:=(h.ok r).replace p C;refine⟨a,B,f,?_⟩;intro S' new y hn g i v m;obtain⟨t,F',e,k,o,l⟩:=u w S' new (λ_=>False) y hn (λ_ h=>h.elim) (λ_ _=>rfl) (λ_ _ _=>rfl) g (λb z D=>i r b z D);have j:∀x,F' x↔Fr r x/\¬a x:=λx=>by rw[o x];simp
 refine⟨t,F',e,?_,j,l⟩;refine h.set r t F' (λ_ _=>rfl) (λ_ _ _ _=>rfl) g ?_ k ?_ (Ll p e (h.rt r) (v _)) (MZ p e (h.al r) m)
 . intro s n x c;exact i s x c λE=>n (h.Lu s r x c (f x E))
 . intro s n x c q;exact n (h.Lu s r x q ((j x).1 c).1)
theorem Ns(h:St G w S δ Fr)(n d:Nat)(x:DV):(λs=>(DZ (EP G n d δ) d x s).er)=DZ (FW G n d (λs=>(δ s).er)) d x.er:=by
 funext s;by_cases a:s=d
 . subst a;simp[DZ]
 . simp only[DZ,a,AAT];exact h.QH n d s
theorem Mn(h:St G w S δ Fr)(n d:Nat)(x:DV)(s:Nat):(DZ (EP G n d δ) d x s).A0=if s=d then x.A0 else(δ s).A0:=by
 by_cases a:s=d
 . subst a;simp[DZ]
 . simp only[DZ,a,AAT];exact h.Li n d s
theorem St.kW(h:St G w S δ Fr)(r:Nat)(p:di)(I:Au (δ r) p=some d):
 ∃a,Ok w S d a/\(∀x,a x->Fr r x)/\∀(S':de)(new:DV),new.A0=d.A0->Ok w S' new (λ_=>False)->(∀b,S b->S' b)->(∀t b,Fr t b->¬a b->¬S' b)->
  (∀L,Fj L new.er=true)->Dc δ new->
  ∃t F',Di (δ r) p new=some t/\St G w S' (DZ (EP G p.length r δ) r t) (DZ Fr r F')/\(∀x,F' x↔Fr r x/\¬a x)/\t.A0=(δ r).A0:=by
 obtain⟨a,H,i,C⟩:=(h.ok r).replace p I;refine⟨a,H,i,?_⟩;intro S' new E hn j l D y;obtain⟨t,F',c,o,z,u⟩:=C w S' new (λ_=>False) E hn (λ_ h=>h.elim) (λ_ _=>rfl) (λ_ _ _=>rfl) j (λb F J=>l r b F J);have m:∀x,F' x↔Fr r x/\¬a x:=λx=>by rw[z x];simp
 refine⟨t,F',c,?_,m,u⟩;refine h.setn p.length r t F' (λ_ _=>rfl) (λ_ _ _ _=>rfl) j ?_ o ?_ (Ll p c (h.rt r) (D _)) (MZ p c (h.al r) y) ?_
 . intro s f x n;exact l s x n λK=>f (h.Lu s r x n (i x K))
 . intro s f x n B;exact f (h.Lu s r x B ((m x).1 n).1)
 . intro q v bx k rows M g;exact NR q p ah c (λe=>absurd e ah) g
theorem St.Zh(h:St G w S δ Fr){a:AV}(j:Abs.Zh G k p (λs=>(δ s).er)=some (a,τ)):
 ∃g F' D Ff,St G w S g F'/\(λs=>(g s).er)=τ/\(∀s,(g s).A0=(δ s).A0)/\Ok w S D Ff/\D.er=a/\(∃v bx r rows,D= .own v bx r rows)/\Au (δ k) p=some D/\(∀s x,F' s x->¬Ff x)/\
  (∀x,BJ F' x\/Ff x->BJ Fr x)/\(∀q v bx r rows,Au (g k) q=some (.own v bx r rows)->∃f,Au (δ k) q=some (.own v bx r f))/\(∀s,s≠k->g s=EP G p.length k δ s):=by
 unfold Abs.Zh at j;split at j
 . rename_i b r rows N;split at j
   . rename_i t M;simp only[AAC,AAQ]at j;obtain⟨rfl,rfl⟩:=j;obtain⟨D,y,l⟩:=Dt (h.ok k).Kt N;obtain⟨I,B,n,J⟩:=h.kW k p y;obtain⟨O,F',m,E,o,H⟩:=J S (.lf .dead D.A0) ak (.lf _ _ _ trivial (λ_ h=>h)) (λ_ h=>h) (λt b L _=>(h.ok t).Et b L) ak (Dc.dead _);have P:O.er=t:=(by obtain⟨R,u,K⟩:=G5 (d:=δ k) (p:=p) (a:=t) (.lf .dead D.A0) (h.ok k).Kt (by simpa using M);rw[m]at u;obtain rfl:=AAG u;exact K);have F:∃v bx r rows,D= .own v bx r rows:=by
      have:=B.Kt;cases D with
      |own v bx r rows=>exact⟨v,bx,r,rows,rfl⟩
      |lf a v=>cases this with|lf _ _ hl=>simp at l;subst l;simp[C8]at hl
      |agg cs=>simp at l
      |BQ cs=>simp at l
     refine⟨_,_,D,I,E,by rw[Ns h,P],?_,B,l,F,y,?_,?_,?_,λs i=>Ba _ _ i⟩
     . intro s;rw[Mn h];split
       . rename_i e;rw[e,H]
       . rfl
     . intro s x c z;by_cases i:s=k
       . subst i;rw[BM]at c;exact((o x).1 c).2 z
       . rw[Ba _ _ i]at c;exact i (h.Lu s k x c (n x z))
     . rintro x (⟨s,c⟩|c)
       . by_cases i:s=k
         . subst i;rw[BM]at c;exact⟨s,((o x).1 c).1⟩
         . rw[Ba _ _ i]at c;exact⟨s,c⟩
       . exact⟨k,n x c⟩
     . intro q v bx Q f C;rw[BM]at C;exact Uy p m q C
   . cases j
 . cases j
end
variable{I:dy}
section
variable{w w':World}{S S':de}{G:Gi}{δ:dy}{Fr:dh}
theorem eA(t:Nat)(q:di)(e:Au (HD t d) q=some (.own v bx k rows)):Au d q=some (.own v bx k rows):=by
 induction q generalizing d with
 |nil=>
  simp only[Au,AAC]at e |-;cases d with
  |lf a v=>simp at e
  |own=>simpa using e
  |agg=>simp at e
  |BQ=>simp at e
 |cons s q ih=>
  obtain⟨i,j,f⟩:=s;cases d with
  |lf a v=>simp[Au]at e
  |own h b k1 Ja=>rw[NL]at e;exact e
  |agg cs=>
   simp only[KW,Au,AAN]at e |-;cases hj:cs[j]? with
   |none=>simp[hj]at e
   |some c=>simp only[hj,AAf]at e |-;exact ih e
  |BQ cs=>
   simp only[KX,Au,AAN]at e |-;cases hj:cs[j]? with
   |none=>simp[hj]at e
   |some c=>simp only[hj,AAf]at e |-;exact ih e
theorem TG(d r:Nat)(q:di)(a:Au (HE G d δ r) q=some (.own v bx k rows)):Au (δ r) q=some (.own v bx k rows):=by
 unfold HE at a;split at a
 . exact eA d q a
 . exact a
def Hd(δ δ':dy):Prop:=∀r q v bx k rows,Au (δ' r) q=some (.own v bx k rows)->∃rows',Au (δ r) q=some (.own v bx k rows')
def Hd.refl(δ:dy):Hd δ δ:=λ_ _ _ _ _ rows h=>⟨rows,h⟩
theorem Hd.trans{δ:dy}(h:Hd δ g)(k:Hd g I):Hd δ I:=by intro r q v bx d rows f;obtain⟨b,e⟩:=k r q v bx d rows f;exact h r q v bx d b e
def JQ(w:World)(S:de):List DV->(Nat->Prop)->Prop
 |[],F=>∀x,¬F x
 |d::ds,F=>∃F1 F2,Ok w S d F1/\JQ w S ds F2/\(∀x,F1 x->¬F2 x)/\∀x,F x↔F1 x\/F2 x
def Parts(w:World)(S:de)(cs:dH)(F:de):Prop:=
 ∃Fs:Nat->Nat->Prop,(∀(i:Nat) d,cs[i]? =some d->Ok w S d (Fs i))/\(∀i i' x,Fs i x->Fs i' x->i=i')/\(∀i x,Fs i x->∃d,cs[i]? =some d)/\(∀x,F x↔∃i,Fs i x)
theorem Je:JQ w S row F↔Parts w S row F:=by
 induction row generalizing F with
 |nil=>
  constructor
  . intro h;exact⟨λ_ _=>False,ak,λ_ _ _ h=>h.elim,λ_ _ h=>h.elim,λx=>⟨λc=>absurd c (h x),λ⟨_,h⟩=>h.elim⟩⟩
  . rintro⟨g,q,r,m,p⟩ x c;obtain⟨i,hi⟩:=(p x).1 c;obtain⟨d,hd⟩:=m i x hi;simp at hd
 |cons d ds ih=>
  constructor
  . rintro⟨t,u,q,r,m,p⟩;obtain⟨g,l,g2,o,j⟩:=ih.1 r;refine⟨λi=>match i with|0=>t|i+1=>g i,?_,?_,?_,?_⟩
    . intro i e f;cases i with
      |zero=>simp only[AAt,AAC]at f;exact f▸q
      |succ i=>simp only[AAu]at f;exact l i e f
    . intro i s x c k;cases i<;>cases s
      . rfl
      . exact absurd ((j x).2 ⟨_,k⟩) (m x c)
      . exact absurd ((j x).2 ⟨_,c⟩) (m x k)
      . rename_i a b;rw[g2 a b x c k]
    . intro i x c;cases i with
      |zero=>exact⟨d,rfl⟩
      |succ i=>obtain⟨e,f⟩:=o i x c;exact⟨e,by simpa using f⟩
    . intro x;rw[p x];constructor
      . rintro(h|h)
        . exact⟨0,h⟩
        . obtain⟨i,hi⟩:=(j x).1 h;exact⟨i+1,hi⟩
      . rintro⟨i,hi⟩;cases i with
        |zero=>exact .inl hi
        |succ i=>exact .inr ((j x).2 ⟨i,hi⟩)
  . rintro⟨g,l,g2,o,j⟩;refine⟨g 0,λx=>∃i,g (i+1) x,l 0 d rfl,ih.2 ⟨λi=>g (i+1),?_,?_,?_,λx=>ABb⟩,?_,?_⟩
    . intro i e f;exact l (i+1) e (by simpa using f)
    . intro i s x c k;have:=g2 _ _ x c k;omega
    . intro i x c;obtain⟨e,f⟩:=o _ x c;exact⟨e,by simpa using f⟩
    . rintro x c ⟨i,hi⟩;have:=g2 _ _ x c hi;omega
    . intro x;rw[j x];constructor
      . rintro⟨i,hi⟩;cases i with
        |zero=>exact .inl hi
        |succ i=>exact .inr ⟨i,hi⟩
      . rintro(h|⟨i,h⟩)
        . exact⟨0,h⟩
        . exact⟨i+1,h⟩
theorem B4:Ok w S (.agg row) F↔JQ w S row F:=by
 rw[Je];constructor
 . intro h;cases h with
   |agg _ a _ c d e f=>exact⟨a,c,d,e,f⟩
 . rintro⟨a,c,d,e,f⟩;exact .agg row a F c d e f
theorem A8:Ok w S (.BQ row) F↔JQ w S row F:=by
 rw[Je];constructor
 . intro h;cases h with
   |BQ _ a _ c d e f=>exact⟨a,c,d,e,f⟩
 . rintro⟨a,c,d,e,f⟩;exact .BQ row a F c d e f
def JQ.mono{a:dH}(h:JQ w S a F)(e:∀b,S b->w'.heap[b]? =w.heap[b]?)(d:∀b,F b->w'.heap[b]? =w.heap[b]?)(c:∀b,S b->S' b)(hn:∀x,F x->¬S' x):JQ w' S' a F:=
 B4.1 ((B4.2 h).mono e d c hn)
theorem St.mH(ds:dH):∀{δ:dy}{Fr:dh}{F:de}{l:dm}{τ:Sg},St G w S δ Fr->JQ w S ds F->(∀d∈ds,Dc g d)->Hd g δ->(∀s x,Fr s x->¬F x)->
 Abs.mH G (ds.map DV.er) (λs=>(δ s).er)=some (l,τ)->
 ∃o F' C Ff,St G w S o F'/\(λs=>(o s).er)=τ/\(∀s,(o s).A0=(δ s).A0)/\JQ w S C Ff/\C.map DV.er=l/\C.map DV.A0=ds.map DV.A0/\(∀s x,F' s x->¬Ff x)/\
  (∀x,BJ F' x\/Ff x->BJ Fr x\/F x)/\Hd g o/\(∀a∈l,FN a=true):=by
 induction ds with
 |nil=>intro δ Fr F l τ h T W N J c;simp only[AAm,Abs.mH,AAC,AAQ]at c;obtain⟨rfl,rfl⟩:=c;exact⟨δ,Fr,[],F,h,rfl,λ_=>rfl,T,rfl,rfl,J,λx b=>b,N,ak⟩
 |cons d ds ih=>
  intro δ Fr F l τ h T W N J c;obtain⟨U,V,hd,JJ,h12,j⟩:=T;have O:=W d ak;have z:∀e∈ds,Dc g e:=λe he=>W e (by simp[he]);simp only[AAU,Abs.mH]at c;cases Qw:d.er with
  |al r p=>
   simp only[Qw]at c;split at c
   . rename_i n τ1 ht1;split at c
     . rename_i l' τ' H;simp only[AAC,AAQ]at c;obtain⟨rfl,rfl⟩:=c;obtain⟨δ1,F1',D,Ff,CP,JD,Dh,hD,FP,⟨v,bx,k,rows,rfl⟩,Bw,aF,M,P,VY⟩:=h.Zh ht1;have hH:Hd δ δ1:=by
        intro r' q v bx k rows E;by_cases hr:r'=r
        . subst hr;exact P q v bx k rows E
        . rw[VY r' hr]at E;exact⟨rows,(Xg _ r r' q).1 E⟩
       subst JD;have y:∀s x,F1' s x->¬V x:=(by intro s x b L;obtain⟨t,c⟩:=M x (.inl ⟨s,b⟩);exact J t x c ((j x).2 (.inr L)));obtain⟨I,F2',C,Fd,Z,RP,MJ,ZF,PM,jG,ML,B,i,R⟩:=ih CP JJ z (N.trans hH) y H;have hv:v=d.A0:=by
        cases d with
        |lf a u=>
         simp only[EY]at Qw;subst Qw;cases O with
         |lf _ _ hl=>obtain⟨fG,k',rows',hl⟩:=hl;obtain⟨Q,E⟩:=N r p v bx k rows Bw;rw[hl]at E;simp only[AAC,DV.own.injEq]at E;simp[E.1]
        |own=>simp at Qw
        |agg=>simp at Qw
        |BQ=>simp at Qw
       have hFf:∀x,Ff x->¬V x:=(by intro x b L;obtain⟨t,c⟩:=M x (.inr b);exact J t x c ((j x).2 (.inr L)));have K:∀x,BJ F2' x\/Fd x->¬Ff x:=by
        intro x b f;rcases B x b with⟨s,hs⟩|h2
        . exact aF s x hs f
        . exact hFf x f h2
       refine⟨I,F2',.own v bx k rows::C,λx=>Ff x\/Fd x,Z,RP,λs=>(MJ s).trans (Dh s),⟨Ff,Fd,hD,ZF,λx b X=>K x (.inr X) b,λx=>ABb⟩,?_,?_,?_,?_,i,?_⟩
       . simp only[AAU,FP,PM]
       . simp only[AAU,jG,Kf,hv]
       . rintro s x b (f|f)
         . exact K x (.inl ⟨s,b⟩) f
         . exact ML s x b f
       . rintro x (b|b|b)
         . rcases B x (.inl b)with h1|h1
           . exact .inl (M x (.inl h1))
           . exact .inr ((j x).2 (.inr h1))
         . exact .inl (M x (.inr b))
         . rcases B x (.inr b)with h1|h1
           . exact .inl (M x (.inl h1))
           . exact .inr ((j x).2 (.inr h1))
       . intro a m;simp only[AAn]at m;rcases m with rfl|m
         . rw[<- FP];simp[FN]
         . exact R a m
     . cases c
   . cases c
  |_=>
   simp only[Qw]at c;split at c
   . rename_i hc;split at c
     . rename_i l' τ' H;simp only[AAC,AAQ]at c;obtain⟨rfl,rfl⟩:=c;have y:∀s x,Fr s x->¬V x:=λs x b L=>J s x b ((j x).2 (.inr L));obtain⟨I,F2',C,Fd,Z,RP,MJ,ZF,PM,jG,ML,B,i,R⟩:=ih h JJ z N y H;have K:∀x,BJ F2' x\/Fd x->¬U x:=by
        intro x b f;rcases B x b with⟨s,hs⟩|h2
        . exact J s x hs ((j x).2 (.inl f))
        . exact h12 x f h2
       refine⟨I,F2',d::C,λx=>U x\/Fd x,Z,RP,MJ,⟨U,Fd,hd,ZF,λx b X=>K x (.inr X) b,λx=>ABb⟩,?_,?_,?_,?_,i,?_⟩
       . simp only[AAU,Qw,PM]
       . simp only[AAU,jG]
       . rintro s x b (f|f)
         . exact K x (.inl ⟨s,b⟩) f
         . exact ML s x b f
       . rintro x (b|b|b)
         . rcases B x (.inl b)with h1|h1
           . exact .inl h1
           . exact .inr ((j x).2 (.inr h1))
         . exact .inr ((j x).2 (.inl b))
         . rcases B x (.inr b)with h1|h1
           . exact .inl h1
           . exact .inr ((j x).2 (.inr h1))
       . intro a m;simp only[AAn]at m;rcases m with rfl|m
         . exact hc
         . exact R a m
     . cases c
   . cases c
end
variable{dst:Dp}
section
variable{w w':World}{S S':de}{G:Gi}{δ:dy}{Fr:dh}
mutual
def Iy:AV->ABd DV
 | .sc v=>if GJ v=true then some (.lf (.sc v) v)else none
 | .own false k []=>some (.own (.slice none 0 0) false k [])
 | .sl x k []=>some (.lf (.sl x k []) (.slice none 0 0))
 | .agg cs=>match XB cs with
  |some ds=>some (.agg ds)
  |none=>none
 |_=>none
def XB:List AV->ABd (List DV)
 |[]=>some []
 |a::r=>match Iy a with
  |some d=>match XB r with
   |some ds=>some (d::ds)
   |none=>none
  |none=>none
end
theorem Ib(a:AV):∀D,Iy a=some D->D.er=a/\Ok w S D (λ_=>False)/\Dc δ D/\(∀L,Fj L a=true):=by
 refine AV.rec (motive_1:=λa=>∀D,Iy a=some D->D.er=a/\Ok w S D (λ_=>False)/\Dc δ D/\(∀L,Fj L a=true)) (motive_2:=λ_=>True)
  (motive_3:=λl=>∀ds,XB l=some ds->ds.map DV.er=l/\JQ w S ds (λ_=>False)/\(∀d∈ds,Dc δ d)/\(∀L,Pr L l=true)) ?_ ?_ ?_ ?_ ?_ ?_ ?_ ?_ ?_ ?_ ?_ ?_ ?_ ?_ ?_ ?_ ?_ a
 . intro v D h;simp only[Iy]at h;split at h
   . rename_i G;obtain rfl:=Option.some.inj h;exact⟨ak,.lf _ _ _ ⟨rfl,G⟩ (λ_ h=>h),.lf _ _ trivial,ak⟩
   . cases h
 . intro x k rows _ D h;cases rows with
   |nil=>simp only[Iy]at h;obtain rfl:=Option.some.inj h;exact⟨ak,.lf _ _ _ (Fz.nil x k none 0 (λ_=>rfl)) (λ_ h=>h),.lf _ _ trivial,ak⟩
   |cons r rs=>simp[Iy]at h
 . intro b k rows _ D h;cases b with
   |true=>simp[Iy]at h
   |false=>
    cases rows with
    |nil=>simp only[Iy]at h;obtain rfl:=Option.some.inj h;exact⟨ak,.nil k _ (λ_ h=>h),.own _ _ _ _,ak⟩
    |cons r rs=>simp[Iy]at h
 . intro y H D h;simp only[Iy]at h;split at h
   . rename_i ds g;obtain rfl:=Option.some.inj h;obtain⟨m,n,q,t⟩:=H ds g;refine⟨by simp[m],B4.2 n,.agg _ λi d hd=>q d (List.mem_of_getElem? hd),λL=>by simp only[Fj];exact t L⟩
   . cases h
 . intro y _ D h;simp[Iy]at h
 . intro r p D h;simp[Iy]at h
 . intro r p i j k D h;simp[Iy]at h
 . intro y _ D h;simp[Iy]at h
 . intro D h;simp[Iy]at h
 . intro D h;simp[Iy]at h
 . intro f rs D h;simp[Iy]at h
 . intro s o J D h;simp[Iy]at h
 . intro f I _ D h;simp[Iy]at h
 . trivial
 . intros;trivial
 . intro ds h;simp only[XB,Option.some.injEq]at h;subst h;exact⟨rfl,λ_ h=>h,ak,λL=>by simp[Pr]⟩
 . intro a l B u ds h;simp only[XB]at h;split at h
   . rename_i d hd;split at h
     . rename_i z g;obtain rfl:=Option.some.inj h;obtain⟨m,n,q,t⟩:=B d hd;obtain⟨C,g2,E,F⟩:=u z g;refine⟨by simp[m,C],⟨_,_,n,g2,λ_ h=>h.elim,λx=>ak⟩,?_,λL=>by simp[Pr,t L,F L]⟩;intro e c;simp only[List.mem_cons]at c;rcases c with rfl|c
       . exact q
       . exact E e c
     . cases h
   . cases h
def WY:Ar->Prop
 | .t _=>True
 | .c a=>∃D,Iy a=some D
def C6(δ:dy):Ar->Value
 | .t s=>(δ s).A0
 | .c a=>match Iy a with
  |some D=>D.A0
  |none=>undef
theorem RC{ds:dH}(c:∀a∈ds.map DV.er,FN a=true):∀d∈ds,Dc δ d:=by
 intro d hd;have b:=c d.er (List.mem_map_of_mem hd);cases d with
 |lf a v=>refine .lf a v ?_;simp only[EY]at b;cases a<;>simp_all [FN,Ml]
 |own=>exact .own _ _ _ _
 |agg cs=>simp[FN]at b
 |BQ cs=>simp[FN]at b
structure Fly (G:Gi) (w:World) (S:Nat->Prop) (δ:Nat->DV) (Fr:Nat->Nat->Prop) (δ':Nat->DV) (F':Nat->Nat->Prop) (D:DV) (Ff:Nat->Prop):Prop where
 st:St G w S δ' F'
 A0:∀s,(δ' s).A0=(δ s).A0
 ok:Ok w S D Ff
 al:Dc δ' D
 Lu:∀s x,F' s x->¬Ff x
 own:∀x,BJ F' x\/Ff x->BJ Fr x
theorem St.tk(h:St G w S δ Fr){x:Ar}{a:AV}(m:WY x)(g:Abs.tk G x (λs=>(δ s).er)=some (a,τ)):
 ∃z F' D Ff,Fly G w S δ Fr z F' D Ff/\(λs=>(z s).er)=τ/\D.er=a/\D.A0=C6 δ x:=by
 cases x with
 |c c=>obtain⟨D,O⟩:=m;simp only[Abs.tk,Option.some.injEq,Prod.mk.injEq]at g;obtain⟨rfl,rfl⟩:=g;obtain⟨V,W,h3,_⟩:=Ib (w:=w) (S:=S) (δ:=δ) c D O;exact⟨δ,Fr,D,_,⟨h,λ_=>rfl,W,h3,λ_ _ _ h=>h,λx m=>m.elim id False.elim⟩,rfl,V,by simp[C6,O]⟩
 |t s=>
  simp only[Abs.tk]at g;have jF:∀b,(δ s).er=b->C8 b=true->∃v,δ s= .lf b v:=by
   intro b n y
   have:=(h.ok s).Kt;cases hd:δ s with
   |lf c v=>rw[hd]at n;simp at n;exact⟨v,by rw[n]⟩
   |own=>rw[hd]at n;simp at n;subst n;simp[C8]at y
   |agg=>rw[hd]at n;simp at n;subst n;simp[C8]at y
   |BQ=>rw[hd]at n;simp at n;subst n;simp[C8]at y
  have Q:∀b,(δ s).er=b->C8 b=true->∃z F' D Ff,Fly G w S δ Fr z F' D Ff/\(λs=>(z s).er)=(λs=>(δ s).er)/\D.er=b/\D.A0=C6 δ (.t s):=by
   intro b n y;obtain⟨v,hv⟩:=jF b n y;have B:=h.ok s;rw[hv]at B;cases B with
   |lf _ _ _ ha hF=>exact⟨δ,Fr,.lf b v,λ_=>False,⟨h,λ_=>rfl,.lf _ _ _ ha (λ_ h=>h),hv▸h.al s,λ_ _ _ h=>h,λx m=>m.elim id False.elim⟩,rfl,ak,by simp[C6,hv]⟩
  cases hs:(δ s).er with
  |al r p=>
   simp only[hs]at g;obtain⟨δ1,F1,D,Ff,K,JD,Dh,O,FP,⟨v,bx,k,rows,rfl⟩,R,T,D4,XT,VY⟩:=h.Zh g;refine⟨δ1,F1,_,Ff,⟨K,Dh,O,.own _ _ _ _,T,D4⟩,JD,FP,?_⟩;obtain⟨u,hu⟩:=jF _ hs rfl;have Gk:=h.al s;rw[hu]at Gk;cases Gk with
   |lf _ _ y=>obtain⟨fG,k',rows',y⟩:=y;rw[y]at R;simp only[Option.some.injEq,DV.own.injEq]at R;simp[C6,hu,R.1]
  |own b k rows=>
   simp only[hs,Option.some.injEq,Prod.mk.injEq]at g;obtain⟨rfl,rfl⟩:=g;have K:=h.empty s;refine⟨_,_,δ s,Fr s,⟨K,?_,h.ok s,?_,?_,?_⟩,by rw[IF h];simp,hs,rfl⟩
   . intro t;rw[Hf h];split
     . rename_i e;rw[e];simp
     . rfl
   . have:=(h.ok s).Kt;cases hd:δ s with
     |own=>exact .own _ _ _ _
     |lf c v=>rw[hd]at hs this;cases this with|lf _ _ y=>simp at hs;subst hs;simp[C8]at y
     |agg=>rw[hd]at hs;simp at hs
     |BQ=>rw[hd]at hs;simp at hs
   . intro t x m X;by_cases e:t=s
     . subst e;rw[BM]at m;exact m
     . rw[Ba _ _ e]at m;exact e (h.Lu t s x m X)
   . rintro x (⟨t,m⟩|m)
     . by_cases e:t=s
       . subst e;rw[BM]at m;exact m.elim
       . rw[Ba _ _ e]at m;exact⟨t,m⟩
     . exact⟨s,m⟩
  |agg cs=>
   simp only[hs]at g;obtain⟨ds,H,N⟩:∃ds,δ s= .agg ds/\ds.map DV.er=cs:=by
    have:=(h.ok s).Kt;cases hd:δ s with
    |agg ds=>rw[hd]at hs;simp at hs;exact⟨ds,rfl,hs⟩
    |lf c v=>rw[hd]at hs this;cases this with|lf _ _ y=>simp at hs;subst hs;simp[C8]at y
    |own=>rw[hd]at hs;simp at hs
    |BQ=>rw[hd]at hs;simp at hs
   split at g
   . rename_i I;simp only[Option.some.injEq,Prod.mk.injEq]at g;obtain⟨rfl,rfl⟩:=g;have B:=h.ok s;rw[H]at B
     -- nothing is owned
     have C:JQ w S ds (λ_=>False):=by
      have E:=B4.1 B;clear B H;rw[<- N]at I;clear N hs;generalize Fr s=F at E;induction ds generalizing F with
      |nil=>exactλ_ h=>h
      |cons d ds ih=>
       obtain⟨F1,U,V,W,_,_⟩:=E;simp only[List.map_cons,List.all_cons,Bool.and_eq_true]at I;refine⟨λ_=>False,λ_=>False,?_,ih I.2 U W,λ_ h=>h.elim,λx=>ak⟩;cases V with
       |lf a v _ ha hF=>exact .lf a v _ ha (λ_ h=>h)
       |nil=>simp[HP]at I
       |own=>simp[HP]at I
       |agg=>simp[HP]at I
       |BQ=>simp[HP]at I
     exact⟨δ,Fr,.agg ds,λ_=>False,⟨h,λ_=>rfl,B4.2 C,H▸h.al s,λ_ _ _ h=>h,λx m=>m.elim id False.elim⟩,rfl,by simp[N],by simp[C6,H]⟩
   . split at g
     . rename_i l τ' Z;simp only[Option.some.injEq,Prod.mk.injEq]at g;obtain⟨rfl,rfl⟩:=g;have K:=h.empty s;have B:=h.ok s;rw[H]at B;have L:∀d∈ds,Dc δ d:=by
        have:=h.al s;rw[H]at this;cases this with
        |agg _ hr=>intro d hd;obtain⟨i,hi⟩:=List.getElem?_of_mem hd;exact hr i d hi
       have hH:Hd δ (DZ (HE G s δ) s (.lf .dead (δ s).A0)):=by
        intro r q v bx k rows P;by_cases e:r=s
        . subst e;rw[BM]at P;cases q<;>simp[Au]at P
        . rw[Ba _ _ e]at P;exact⟨rows,TG s r q P⟩
       have T:∀t x,(DZ Fr s λ_=>False) t x->¬Fr s x:=by
        intro t x m X;by_cases e:t=s
        . subst e;rw[BM]at m;exact m
        . rw[Ba _ _ e]at m;exact e (h.Lu t s x m X)
       have M:(λt=>(DZ (HE G s δ) s (.lf .dead (δ s).A0) t).er)=DZ (JV G s λs=>(δ s).er) s .dead:=(by rw[IF h];simp);obtain⟨δ2,U,Qs,Ff,KF,RP,MJ,ZF,PM,jG,ML,KJ,_,Bp⟩:=K.mH ds (B4.1 B) L hH T (l:=l) (τ:=τ') (by rw[M,N];exact Z);refine⟨δ2,U,.agg Qs,Ff,⟨KF,?_,B4.2 ZF,.agg _ λi d hd=> ?_,ML,?_⟩,RP,by simp[PM],by simp[C6,H,jG]⟩
       . intro t;rw[MJ,Hf h];split
         . rename_i e;rw[e];simp
         . rfl
       . exact RC (by rw[PM];exact Bp) d (List.mem_of_getElem? hd)
       . intro x m;rcases KJ x m with⟨t,J⟩|J
         . by_cases e:t=s
           . subst e;rw[BM]at J;exact J.elim
           . rw[Ba _ _ e]at J;exact⟨t,J⟩
         . exact⟨s,J⟩
     . cases g
  |sc v=>simp only[hs,Option.some.injEq,Prod.mk.injEq]at g;obtain⟨rfl,rfl⟩:=g;exact Q _ hs rfl
  |sl e k rows=>simp only[hs,Option.some.injEq,Prod.mk.injEq]at g;obtain⟨rfl,rfl⟩:=g;exact Q _ hs rfl
  |Kk r p i j k=>simp only[hs,Option.some.injEq,Prod.mk.injEq]at g;obtain⟨rfl,rfl⟩:=g;exact Q _ hs rfl
  |fp cs=>simp only[hs,Option.some.injEq,Prod.mk.injEq]at g;obtain⟨rfl,rfl⟩:=g;exact Q _ hs rfl
  |BQ cs=>simp[hs]at g
  |dead=>simp[hs]at g
  |un=>simp[hs]at g
  |cl f rs=>simp[hs]at g
  |vb s o us=>simp[hs]at g
  |oT f WA=>simp[hs]at g
theorem St.QT(h:St G w S δ Fr){a:AV}(i:Abs.QT G k p (λs=>(δ s).er)=some (a,τ)):
 ∃(g:dy)(F':dh)(f:de)(v:Value)(bx:Bool)(r:Nat)(rows:dr),St G w (λx=>S x\/f x) g F'/\(λs=>(g s).er)=τ/\(∀s,(g s).A0=(δ s).A0)/\Au (δ k) p=some (.own v bx r rows)/\Fz w (λx=>S x\/f x) a v/\
  a=JH (DV.own v bx r rows).er/\(∀s x,F' s x->¬f x)/\(∀x,BJ F' x\/f x->BJ Fr x)/\Hd δ g:=by
 unfold Abs.QT at i;split at i
 . rename_i b r rows V;split at i
   . rename_i t U;simp only[Option.some.injEq,Prod.mk.injEq]at i;obtain⟨rfl,rfl⟩:=i;obtain⟨D,C,l⟩:=Dt (h.ok k).Kt V;obtain⟨f,F,y,O⟩:=h.replace k p C;have J:∃v bx r rows,D= .own v bx r rows:=by
      have:=F.Kt;cases D with
      |own v bx r rows=>exact⟨v,bx,r,rows,rfl⟩
      |lf a v=>cases this with|lf _ _ hl=>simp at l;subst l;simp[C8]at hl
      |agg cs=>simp at l
      |BQ cs=>simp at l
     obtain⟨v,bx,W,M,rfl⟩:=J;have u:Fz w (λx=>S x\/f x) (JH (.own b r rows)) v:=(by have:=F.freeze;rw[l]at this;simpa using this);have Z:Ok w (λx=>S x\/f x) (.lf (JH (.own b r rows)) v) (λ_=>False):=by
      refine .lf _ _ _ ?_ (λ_ h=>h);cases b with
      |true=>simp only[r9];trivial
      |false=>simp only[Nu]at u |-;exact u
     obtain⟨X,F',n,I,z,K⟩:=O (λx=>S x\/f x) (.lf (JH (.own b r rows)) v) ak Z (λ_ h=>.inl h)
      (λt P T N R=>R.elim ((h.ok t).Et P T) N) (by intro L;cases b<;>simp) (.lf _ _ (by cases b<;>simp[Ml]))
     have xF:X.er=t:=(by obtain⟨t',B,Q⟩:=G5 (d:=δ k) (p:=p) (a:=t) (.lf (JH (.own b r rows)) v) (h.ok k).Kt (by simpa using U);rw[n]at B;obtain rfl:=Option.some.inj B;exact Q);refine⟨_,_,f,v,bx,W,M,I,by rw[IF h,xF],?_,C,u,by rw[l],?_,?_,?_⟩
     . intro s;rw[Hf h];split
       . rename_i e;rw[e,K]
       . rfl
     . intro s x c E;by_cases m:s=k
       . subst m;rw[BM]at c;exact((z x).1 c).2 E
       . rw[Ba _ _ m]at c;exact m (h.Lu s k x c (y x E))
     . rintro x (⟨s,c⟩|c)
       . by_cases m:s=k
         . subst m;rw[BM]at c;exact⟨s,((z x).1 c).1⟩
         . rw[Ba _ _ m]at c;exact⟨s,c⟩
       . exact⟨k,y x c⟩
     . intro H q v' fG k' j o;by_cases e:H=k
       . subst e;rw[BM]at o;exact Uy p n q o
       . rw[Ba _ _ e]at o;exact⟨j,TG k H q o⟩
   . cases i
 . cases i
theorem St.wr(h:St G w S δ Fr)(g:dst.kl=G.OM dst.d)(r:dst.rs=G.Gv dst.d)(q:∀b,S b->w'.heap[b]? =w.heap[b]?)(o:∀s x,Fr s x->w'.heap[x]? =w.heap[x]?)(l:∀b,S b->S' b)(m:∀s x,Fr s x->¬S' x)(n:Ok w' S' D Ff)(i:∀s x,Fr s x->¬Ff x)(j:Dc δ D)(f:Abs.wr dst D.er (λs=>(δ s).er)=some σ'):
 ∃a F',St G w' S' a F'/\(λs=>(a s).er)=σ'/\(∀s,(a s).A0=if s=dst.d then D.A0 else(δ s).A0)/\(∀x,BJ F' x->BJ Fr x\/Ff x):=by
 unfold Abs.wr at f;split at f
 . rename_i p;simp only[Option.some.injEq]at f;subst f;refine⟨_,_,h.set dst.d D Ff q (λs _=>o s) l (λs _=>m s) n (λs _ x c k=>i s x k c) (r▸p) j,?_,λs=>Hf h dst.d D s,?_⟩
   . rw[IF h,g,kills_eq]
   . rintro x ⟨s,c⟩;by_cases e:s=dst.d
     . subst e;rw[BM]at c;exact .inr c
     . rw[Ba _ _ e]at c;exact .inl ⟨s,c⟩
 . cases f
end
variable{x:Operand}{a:Act}{t:TypeId}{B C:Type}
section
variable{w w':World}{S S':de}{G:Gi}{δ:dy}{Fr:dh}{P:Program}
def tQ:Value->Value->Bool
 | .bool a,.bool b=>a==b
 | .int k a,.int k' b=>decide (k=k')&&decide (a=b)
 | .string a,.string b=>decide (a.data=b.data)
 | .pointer none,.pointer none=>true
 | .slice none 0 0,.slice none 0 0=>true
 | .nilFunc,.nilFunc=>true
 | .nilIface,.nilIface=>true
 |_,_=>false
def Tk:List Value->List Value->Bool
 |[],[]=>true
 |a::l,b::r=>tQ a b&&Tk l r
 |_,_=>false
def tS:Value->Value->Bool
 | .agg a,.agg b=>Tk a.toList b.toList
 |a,b=>tQ a b
theorem lK(h:tQ v u=true):v=u:=by unfold tQ at h;split at h<;>simp_all;rename_i x y;cases x;simp_all
theorem Pu:∀{a b:List Value},Tk a b=true->a=b
 |[],[],_=>rfl
 |[],_::_,h=>by simp[Tk]at h
 |_::_,[],h=>by simp[Tk]at h
 |a::l,b::r,h=>by simp only[Tk,AAD]at h;rw[lK h.1,Pu h.2]
theorem lL(h:tS v u=true):v=u:=by
 unfold tS at h;split at h
 . rename_i x y;have:=Pu h;simp_all
 . exact lK h
def CR(x:Operand)(y:Ar):Bool:=
 match x,y with
 | .tmp s,.t s'=>s==s'
 | .const v,.c a=>match Iy a with
  |some D=>tS v D.A0
  |none=>false
 |_,_=>false
def Rd(δ:dy)(a:Act):Prop:=∀s,a.tmps.getD s undef=(δ s).A0
theorem Am(h:CR x y=true)(d:Rd δ a):WY y/\a.eval x=C6 δ y:=by
 unfold CR at h;split at h
 . simp only[AAR]at h;subst h;exact⟨trivial,d _⟩
 . rename_i v c;split at h
   . rename_i D b;exact⟨⟨D,b⟩,by simp[Act.eval,C6,b,lL h]⟩
   . cases h
 . cases h
def Gj:List Operand->List Ar->Bool
 |[],[]=>true
 |x::l,y::r=>CR x y&&Gj l r
 |_,_=>false
def RH:ABd Operand->ABd Ar->Bool
 |none,none=>true
 |some x,some y=>CR x y
 |_,_=>false
def Ga(P:Program)(t:TypeId):ABd Nat:=(P.info? t).map (·.size)
def JK(P:Program)(t:TypeId):ABd Bool:=(P.underlying t).map λ| .struct _=>true| .array _ _=>true|_=>false
theorem run_sizeOf(h:Ga P t=some n)(w:World):(sizeOf t).run P w= .ok n w:=by
 unfold Ga at h;cases hi:P.info? t with
 |none=>simp_all
 |some i=>simp only[hi,AAf,AAC]at h;simp[sizeOf,typeInfo,hi,h]
theorem QN(h:JK P t=some bx)(w:World):(isAgg t).run P w= .ok bx w:=by
 unfold JK at h;cases hi:P.underlying t with
 |none=>simp_all
 |some d=>simp only[hi,AAf,AAC]at h;cases d<;>simp_all [isAgg,underlying]
theorem IV(t:DV)(p q:di):Au t (p++q)=(Au t p).bind (Au · q):=by
 induction p generalizing t with
 |nil=>simp[Au]
 |cons s p ih=>
  obtain⟨i,j,k⟩:=s;cases t with
  |lf a v=>simp[Au]
  |own h b k1 rows=>
   simp only[AAx,Au];cases rows[i]? with
   |none=>rfl
   |some row=>simp only[];cases row[j]? with
    |none=>rfl
    |some c=>exact ih c
  |agg cs=>simp only[AAx,Au];cases cs[j]? with
   |none=>rfl
   |some c=>exact ih c
  |BQ cs=>simp only[AAx,Au];cases cs[j]? with
   |none=>rfl
   |some c=>exact ih c
theorem bW(r:Nat)(p:di)(l:dm)(i n:Nat):(Pz r p i l)[n]? =(l[n]?).map (view r (p++[(0,i+n,0)])):=by
 induction l generalizing i n with
 |nil=>simp[Pz]
 |cons c cs ih=>
  cases n with
  |zero=>simp[Pz]
  |succ n=>simp only[Pz,AAu,ih,Nat.add_assoc,Nat.add_comm 1 n]
theorem CN(h:∀d∈row,Ok w S d (λ_=>False)):JQ w S row (λ_=>False):=by
 induction row with
 |nil=>exactλ_ h=>h
 |cons d row ih=>exact⟨_,_,h d ak,ih (λe a=>h e (by simp[a])),λ_ h=>h.elim,λx=>ak⟩
theorem LB(a:List α)(d:Nat->α->B->Prop)(h:∀i c,a[i]? =some c->∃D,d i c D):∃b:List B,b.length=a.length/\∀i c,a[i]? =some c->∃D,b[i]? =some D/\d i c D:=by
 induction a generalizing d with
 |nil=>simp_all
 |cons c a ih=>obtain⟨D,k⟩:=h 0 c rfl;obtain⟨b,g,j⟩:=ih (λi=>d (i+1)) (λi c' l=>h (i+1) c' am);refine⟨D::b,by simp[g],?_⟩;grind
theorem mem_mk{a:List α}{b:List B}{e:Nat->α->B->Prop}(j:b.length=a.length)(h:∀i c,a[i]? =some c->∃D,b[i]? =some D/\e i c D)(i:Nat)(D:B)(g:b[i]? =some D):∃c,a[i]? =some c/\e i c D:=by
 have hi:i<a.length:=by rw[<- j];exact(AAE.1 g).1
 obtain⟨k,l,m⟩:=h i a[i] (AAJ hi);simp_all
theorem map_mk{a:List α}{b:List B}{e:Nat->α->B->Prop}(p:b.length=a.length)(h:∀i c,a[i]? =some c->∃D,b[i]? =some D/\e i c D)(f:B->C)(l:List C)(k:l.length=a.length)(o:∀i c D,e i c D->a[i]? =some c->l[i]? =some (f D)):b.map f=l:=by
 apply ABQ;intro i;by_cases hi:i<a.length
 . obtain⟨D,m,n⟩:=h i a[i] (AAJ hi);grind
 simp_all
theorem Ty(r:Nat)(p:di)(l:dm)(i:Nat):(Pz r p i l).length=l.length:=by
 induction l generalizing i with
 |nil=>simp[Pz]
 |cons c cs ih=>simp[Pz,ih]
theorem viewD(r:Nat)(h:Ok w S d F):∀(p:di),Au (δ r) p=some d->Dc δ d->
 ∃D,D.er=view r p d.er/\D.A0=d.A0/\Ok w S D (λ_=>False)/\Dc δ D:=by
 induction h with
 |lf a v F ha hF=>intro p l f;have g:=ha.C8;refine⟨.lf a v,?_,rfl,.lf a v _ ha (λ_ h=>h),f⟩;cases a<;>simp_all [view,C8]
 |nil k F hF=>intro p l f;exact⟨.lf (.al r p) (.slice none 0 0),by simp[view],ak,.lf _ _ _ trivial (λ_ h=>h),.lf _ _ ⟨_,_,_,l⟩⟩
 |own bx k rows b c arr E Fs F hb hk D3 LJ hv hr hd Bg KE hF ih=>intro p l f;exact⟨.lf (.al r p) (JT bx b rows.length c),by simp[view],ak,.lf _ _ _ trivial (λ_ h=>h),.lf _ _ ⟨_,_,_,l⟩⟩
 |agg cs Fs F hr hd Bg hF ih=>
  intro p l f;cases f with
  |agg _ f=>
   obtain⟨o,g,j⟩:=LB cs (λi t D=>D.er=view r (p++[(0,i,0)]) t.er/\D.A0=t.A0/\Ok w S D (λ_=>False)/\Dc δ D)
    (λi t hd=>ih i t hd _ (by rw[IV,l];simp[Au,hd]) (f i t hd))
   refine⟨.agg o,?_,?_,B4.2 (CN λD m=> ?_),.agg _ λi D m=> ?_⟩
   . simp only[HM,view,AV.agg.injEq];refine map_mk g j _ _ (by simp[Ty]) λi c D e n=> ?_;rw[bW,AAN,n];grind
   . simp only[Jh];congr 2;exact map_mk g j _ _ ak λi c D e n=>am
   . obtain⟨i,hi⟩:=AAd m;obtain⟨c,_,e⟩:=mem_mk g j i D hi;simp_all
   . obtain⟨c,_,e⟩:=mem_mk g j i D m;simp_all
 |BQ cs Fs F hr hd Bg hF ih=>
  intro p l f;cases f with
  |BQ _ f=>
   obtain⟨o,g,j⟩:=LB cs (λi t D=>D.er=view r (p++[(0,i,0)]) t.er/\D.A0=t.A0/\Ok w S D (λ_=>False)/\Dc δ D)
    (λi t hd=>ih i t hd _ (by rw[IV,l];simp[Au,hd]) (f i t hd))
   refine⟨.BQ o,?_,?_,A8.2 (CN λD m=> ?_),.BQ _ λi D m=> ?_⟩
   . simp only[JG,view,AV.BQ.injEq];refine map_mk g j _ _ (by simp[Ty]) λi c D e n=> ?_;rw[bW,AAN,n];grind
   . simp only[LF];congr 2;exact map_mk g j _ _ ak λi c D e n=>am
   . obtain⟨i,hi⟩:=AAd m;obtain⟨c,_,e⟩:=mem_mk g j i D hi;simp_all
   . obtain⟨c,_,e⟩:=mem_mk g j i D m;simp_all
theorem fA(r:Nat)(p:di)(i k j:Nat)(l:dm):(Py r p i k j l).length=l.length:=by
 induction l generalizing j with
 |nil=>simp[Py]
 |cons c cs ih=>simp[Py,ih]
theorem zM(r:Nat)(p:di)(i k j n:Nat)(l:dm):(Py r p i k j l)[n]? =(l[n]?).map (vC r p i (j+n) k):=by
 induction l generalizing j n with
 |nil=>simp[Py]
 |cons c cs ih=>
  cases n with
  |zero=>simp[Py]
  |succ n=>simp only[Py,AAu,ih,Nat.add_assoc,Nat.add_comm 1 n]
theorem fB(s j:Nat)(l:dm):(Mj s j l).length=l.length:=by
 induction l generalizing j with
 |nil=>simp[Mj]
 |cons c cs ih=>simp[Mj,ih]
theorem zN(s j n:Nat)(l:dm):(Mj s j l)[n]? =(l[n]?).map (vF s (j+n)):=by
 induction l generalizing j n with
 |nil=>simp[Mj]
 |cons c cs ih=>
  cases n with
  |zero=>simp[Mj]
  |succ n=>simp only[Mj,AAu,ih,Nat.add_assoc,Nat.add_comm 1 n]
end
variable{vs:List Value}
section
variable{w w':World}{S S':de}{G:Gi}{δ:dy}{Fr:dh}{P:Program}
def Lf(w:World)(S:de)(δ:dy)(a:AV)(v:Value):Prop:=∃D:DV,D.er=a/\D.A0=v/\Ok w S D (λ_=>False)/\Dc δ D
def Lf.sc(v:Value)(h:GJ v=true):Lf w S δ (.sc v) v:=⟨.lf (.sc v) v,ak,ak,.lf _ _ _ ⟨rfl,h⟩ (λ_ h=>h),.lf _ _ trivial⟩
def Lf.al{r:Nat}(h:Au (δ r) p=some (.own v bx k rows)):Lf w S δ (.al r p) v:=
 ⟨.lf (.al r p) v,ak,ak,.lf _ _ _ trivial (λ_ h=>h),.lf _ _ ⟨_,_,_,h⟩⟩
def Lf.Kk(h:Au (δ n) p=some (.own v bx k rows))(a:Sf v=some b):Lf w S δ (.Kk n p i off k) (.pointer (some ⟨b,i*k+off,none⟩)):=
 ⟨.lf (.Kk n p i off k) _,ak,ak,.lf _ _ _ trivial (λ_ h=>h),.lf _ _ ⟨_,_,_,_,h,a,rfl⟩⟩
def Lf.fp(d:S b)(h:∀(j:Nat) a,f[j]? =some a->∃u,w.cell? ⟨b,off+j,none⟩=some u/\Fz w S a u):Lf w S δ (.fp f) (.pointer (some ⟨b,off,none⟩)):=
 ⟨.lf (.fp f) _,ak,ak,.lf _ _ _ ⟨b,off,rfl,d,h⟩ (λ_ h=>h),.lf _ _ trivial⟩
theorem St.leaf(h:St G w S δ Fr){s:Nat}{a:AV}(c:(δ s).er=a)(d:C8 a=true):δ s= .lf a (δ s).A0/\Hc w S a (δ s).A0/\Ml δ a (δ s).A0:=by
 have e:=h.ok s;have f:=h.al s;cases hd:δ s with
 |lf b v=>
  rw[hd]at c e f;simp only[EY]at c;subst c;cases e with
  |lf _ _ _ ha _=>cases f with|lf _ _ d=>exact⟨ak,ha,d⟩
 |own=>rw[hd]at c;simp at c;subst c;simp[C8]at d
 |agg=>rw[hd]at c;simp at c;subst c;simp[C8]at d
 |BQ=>rw[hd]at c;simp at c;subst c;simp[C8]at d
theorem St.Ew(h:St G w S δ Fr)(g:WY y)(d:ar (λs=>(δ s).er) y= .sc v):C6 δ y=v/\GJ v=true:=by
 cases y with
 |t s=>obtain⟨_,e,_⟩:=h.leaf (s:=s) d rfl;exact⟨e.1,e.2⟩
 |c a=>
  obtain⟨D,b⟩:=g;simp only[ar]at d;subst d;simp only[Iy]at b;split at b
  . rename_i f;obtain rfl:=AAG b;exact⟨by simp[C6,Iy,f],f⟩
  . cases b
theorem Ni{a:AV}{n:Int}(h:nJ a=some n):∃k,a= .sc (.int k n):=by
 unfold nJ at h;split at h
 . simp only[AAC]at h;subst h;exact⟨_,rfl⟩
 . cases h
theorem St.node(h:St G w S δ Fr)(j:(δ n).er= .al b p){rows:dn}(hn:sub (δ b).er p=some (.own bx k rows)):
 ∃r F,Au (δ b) p=some (.own (δ n).A0 bx k r)/\r.map (·.map DV.er)=rows/\Ok w S (.own (δ n).A0 bx k r) F:=by
 obtain⟨_,_,f⟩:=h.leaf j rfl;obtain⟨l,m,a,c⟩:=f;obtain⟨D,e,d⟩:=Dt (h.ok b).Kt hn;rw[c]at e;obtain rfl:=AAG e;simp only[Eg,AV.own.injEq]at d;obtain⟨rfl,rfl,g⟩:=d;obtain⟨F,i,_⟩:=(h.ok b).Au c;exact⟨a,F,c,g,i⟩
theorem St.Xr(h:St G w S δ Fr){rows:dn}(a:(δ n).er= .own bx k rows):
 ∃c,δ n= .own (δ n).A0 bx k c/\c.map (·.map DV.er)=rows:=by
 have:=(h.ok n).Kt;cases hd:δ n with
 |own v b k' rows'=>rw[hd]at a;simp only[Eg,AV.own.injEq]at a;obtain⟨rfl,rfl,d⟩:=a;exact⟨rows',ak,d⟩
 |lf b v=>rw[hd]at a this;cases this with|lf _ _ hl=>simp at a;subst a;simp[C8]at hl
 |agg=>rw[hd]at a;simp at a
 |BQ=>rw[hd]at a;simp at a
theorem St.EE(h:St G w S δ Fr)(a:Abs.EE (λn=>(δ n).er) (.t n)=some (b,p,i,off,k)):
 ∃v bx d r F,Au (δ b) p=some (.own v bx k d)/\Sf v=some r/\(δ n).A0= .pointer (some ⟨r,i*k+off,none⟩)/\Ok w S (.own v bx k d) F/\(∀x,F x->Fr b x):=by
 simp only[Abs.EE]at a;cases hs:(δ n).er with
 |Kk r' p' i' j' o=>simp only[hs,AAC,AAQ]at a;obtain⟨rfl,rfl,rfl,rfl,rfl⟩:=a;obtain⟨_,_,u⟩:=h.leaf hs rfl;obtain⟨v,bx,rows,r,e,f,z⟩:=u;obtain⟨F,l,g⟩:=(h.ok _).Au e;exact⟨v,bx,rows,r,F,e,f,z,l,g⟩
 |own bx o rows=>
  cases bx with
  |false=>simp[hs]at a
  |true=>
   simp only[hs,AAC,AAQ]at a;obtain⟨rfl,rfl,rfl,rfl,rfl⟩:=a;obtain⟨d,hd,_⟩:=h.Xr hs;have s:=h.ok n;rw[hd]at s;generalize B:(δ n).A0=v at*;cases s with
   |own _ _ _ r c arr E Fs _ f hk D3 LJ pQ hr Lw Bg KE l=>exact⟨JT true r d.length c,true,d,r,Fr n,by simp[Au,hd],ak,by simp[JT],by rw[<- hd];exact h.ok n,λx C=>C⟩
 |al r' p'=>
  simp only[hs]at a;split at a
  . rename_i o m hn;simp only[AAC,AAQ]at a;obtain⟨rfl,rfl,rfl,rfl,rfl⟩:=a;obtain⟨d,F,e,_,l⟩:=h.node hs hn;obtain⟨q,y,g⟩:=(h.ok _).Au e;generalize B:(δ n).A0=v at*;cases y with
    |own _ _ _ r c arr E Fs _ f hk D3 LJ pQ hr Lw Bg KE XM=>exact⟨JT true r d.length c,true,d,r,q,e,ak,by simp[JT],.own true _ _ r c arr E Fs _ f hk D3 LJ pQ hr Lw Bg KE XM,g⟩
  . cases a
 |_=>simp[hs]at a
theorem K1(hn:Ga P t=some n)(d:JK P t=some bx)(f:bx=true\/n=1)(e:vs.length=n)(c:∀(j:Nat) v,vs[j]? =some v->w.cell? ⟨b,off+j,none⟩=some v):
 (loadVar t ⟨b,off,none⟩).run P w= .ok (if bx=true then .agg vs.toArray else vs.headD undef) w:=by
 cases bx with
 |true=>have:=run_loadCells_list (P:=P) w ⟨b,off,none⟩ vs (λj v h=>by rw[Addr.add_lit];exact c j v h);rw[e]at this;simp[loadVar,QN d,run_sizeOf hn,this]
 |false=>
  obtain rfl:=f.resolve_left ak
  match vs,e with
  |[v],_=>have a:=c 0 v rfl;simp only[Nat.add_zero]at a;simp[loadVar,QN d,a]
theorem gather{v:AV}(a:Ia bx n f=some v)(b:dH)(e:b.map DV.er=f)(g:∀D∈b,Ok w S D (λ_=>False))(h:∀D∈b,Dc δ D):
 f.length=n/\Lf w S δ v (if bx=true then .agg (b.map DV.A0).toArray else(b.map DV.A0).headD undef):=by
 unfold Ia at a;split at a
 . rename_i hn;refine⟨hn,?_⟩;cases bx with
   |true=>simp only[AAi,AAC]at a;subst a;exact⟨.agg b,by simp[e],ak,B4.2 (CN g),.agg _ λi d hd=>h d (AAP hd)⟩
   |false=>
    simp only[AAM,AAT]at a;split at a
    . rename_i c;simp only[AAC]at a;subst a
      match b,e with
      |[D],e=>simp only[AAU,AAm,List.cons.injEq,and_true]at e;exact⟨D,e,ak,g D ak,h D ak⟩
    . cases a
 . cases a
theorem XG{a:AV}(h:Fz w S a v):∃D:DV,D.er=JM a/\D.A0=v/\Ok w S D (λ_=>False)/\Dc δ D:=by
 cases h with
 |sc v hp=>exact⟨.lf (.sc v) v,by simp[JM],ak,.lf _ _ _ ⟨rfl,hp⟩ (λ_ h=>h),.lf _ _ trivial⟩
 |nil x k a c hx=>exact⟨.lf (.sl x k []) _,by simp[JM],ak,.lf _ _ _ (Fz.nil x k a c hx) (λ_ h=>h),.lf _ _ trivial⟩
 |sl x k rows b off c vs hx QW hS hk hc hr=>exact⟨.lf (.sl x k rows) _,by simp[JM],ak,.lf _ _ _ (Fz.sl x k rows b off c vs hx QW hS hk hc hr) (λ_ h=>h),.lf _ _ trivial⟩
 |dead=>exact⟨.lf .dead v,by simp[JM],ak,.lf _ _ _ trivial (λ_ h=>h),.lf _ _ trivial⟩
 |agg cs vs=>exact⟨.lf .dead _,by simp[JM],rfl,.lf _ _ _ trivial (λ_ h=>h),.lf _ _ trivial⟩
 |BQ cs vs=>exact⟨.lf .dead _,by simp[JM],rfl,.lf _ _ _ trivial (λ_ h=>h),.lf _ _ trivial⟩
end
variable{o:Oper}{m s:Operand}{j r:Ar}
section
variable{w w':World}{S S':de}{G:Gi}{δ:dy}{Fr:dh}{P:Program}
def Gives(P:Program)(w:World)(S:de)(δ:dy)(a:Act)(o:Oper)(v:AV):Prop:=
 ∃u,(execOp a.eval o).run P w= .ok (.value u) w/\Lf w S δ v u
theorem Sd(h:St G w S δ Fr)(k:Rd δ a)(b:o.op= .move x\/o.op= .assign x)(l:CR x y=true){v:AV}(d:valOf (.cp y) (λs=>(δ s).er)=some v):Gives P w S δ a o v:=by
 obtain⟨n,m⟩:=Am l k;refine⟨C6 δ y,by rcases b with b|b<;>simp[execOp,b,m],?_⟩;cases y with
 |t s=>simp only[valOf,AAC]at d;subst d;obtain⟨D,e,f,g,j⟩:=viewD (δ:=δ) s (h.ok s) [] (by simp[Au]) (h.al s);exact⟨D,e,f,g,j⟩
 |c c=>simp only[valOf,AAC]at d;subst d;obtain⟨D,i⟩:=n;obtain⟨e,f,g,_⟩:=Ib (w:=w) (S:=S) (δ:=δ) c D i;exact⟨D,e,by simp[C6,i],f,g⟩
theorem o0(h:St G w S δ Fr)(f:Rd δ a)(c:o.op= .pick m x s)(n:CR m y=true)(t:CR x j=true)(z:CR s r=true){v:AV}(d:valOf (.pick y j r) (λc'=>(δ c').er)=some v):Gives P w S δ a o v:=by
 obtain⟨C,i⟩:=Am n f;obtain⟨k,p⟩:=Am t f;obtain⟨l,q⟩:=Am z f;simp only[valOf]at d;split at d
 . rename_i b B;obtain⟨g,_⟩:=h.Ew C B;split at d
   . rename_i u e;simp only[AAC]at d;subst d;refine⟨u,?_,?_⟩
     . cases b with
       |true=>have:=(h.Ew k (by simpa using e)).1;simp[execOp,c,i,g,asBool,p,this]
       |false=>have:=(h.Ew l (by simpa using e)).1;simp[execOp,c,i,g,asBool,q,this]
     . cases b with
       |true=>exact Lf.sc u (h.Ew k (by simpa using e)).2
       |false=>exact Lf.sc u (h.Ew l (by simpa using e)).2
   . cases d
 . cases d
theorem p7(h:Ok w S (.own v bx k rows) F)(C:Au (δ n) p=some (.own v bx k rows))(B:Sf v=some b)(hi:rows[i]? =some row)(j r:Nat):
 ∃l:List DV,l.map DV.er=Py n p i k j (((row.map DV.er).drop j).take r)/\(∀D∈l,Ok w S D (λ_=>False))/\(∀D∈l,Dc δ D)/\(∀(m:Nat) u,(l.map DV.A0)[m]? =some u->w.cell? ⟨b,i*k+j+m,none⟩=some u):=by
 generalize z:v=v' at h;cases h with
 |nil=>simp at hi
 |own _ _ _ b' c arr E Fs _ sF hk D3 LJ hv hr hd Bg KE hF=>
  subst z;simp only[XP,AAC]at B;subst B;obtain⟨l,f,s⟩:=LB ((row.drop j).take r) (λm d D=>D.er=vC n p i (j+m) k d.er/\D.A0=d.A0/\Ok w S D (λ_=>False)/\Dc δ D/\w.cell? ⟨b',i*k+j+m,none⟩=some D.A0) (by
   intro m d o;have t:row[j+m]? =some d:=by
    rw[ABC]at o;split at o
    . simpa using o
    . cases o
   have H:=hr i (j+m) row d hi t;have g:w.cell? ⟨b',i*k+j+m,none⟩=some d.A0:=by
    simp only[World.cell?,sF]
    have:=hv i (j+m) row d hi t;rw[show i*k+j+m=i*k+(j+m)from by omega];simpa using this
   cases H with
   |lf a v _ ha o8=>
    have f:=ha.C8;cases a with
    |sc u=>exact⟨.lf (.sc u) v,by simp[vC],ak,.lf _ _ _ ha (λ_ h=>h),.lf _ _ trivial,g⟩
    |sl x k' rows'=>exact⟨.lf (.sl x k' rows') v,by simp[vC],ak,.lf _ _ _ ha (λ_ h=>h),.lf _ _ trivial,g⟩
    |own=>simp[C8]at f
    |agg=>simp[C8]at f
    |BQ=>simp[C8]at f
    |_=>exact⟨.lf .dead v,by simp[vC],ak,.lf _ _ _ trivial (λ_ h=>h),.lf _ _ trivial,by simpa using g⟩
   |nil k' _ o8=>exact⟨.lf (.al n (p++[(i,j+m,k)])) (.slice none 0 0),by simp[vC],ak,.lf _ _ _ trivial (λ_ h=>h),.lf _ _ ⟨false,k',[],by rw[IV,C];simp[Au,hi,t]⟩,by simpa using g⟩
   |own fG k' rows' b'' c' arr' E' Fs' _ g1 g2 g3 g4 g5 g6 g7 g8 g9 g10=>exact⟨.lf (.al n (p++[(i,j+m,k)])) (JT fG b'' rows'.length c'),by simp[vC],ak,.lf _ _ _ trivial (λ_ h=>h),.lf _ _ ⟨fG,k',rows',by rw[IV,C];simp[Au,hi,t]⟩,by simpa using g⟩
   |agg cs=>exact⟨.lf .dead (.agg (cs.map DV.A0).toArray),by simp[vC],ak,.lf _ _ _ trivial (λ_ h=>h),.lf _ _ trivial,by simpa using g⟩
   |BQ cs=>exact⟨.lf .dead (.tuple (cs.map DV.A0).toArray),by simp[vC],ak,.lf _ _ _ trivial (λ_ h=>h),.lf _ _ trivial,by simpa using g⟩)
  refine⟨l,?_,?_,?_,?_⟩
  . refine map_mk f s _ _ (by simp[fA]) λm d D e o=> ?_;rw[zM,<- List.map_drop,<- ABV,AAN,o];simp[e.1]
  . intro D q;obtain⟨m,y⟩:=AAd q;obtain⟨c,_,e⟩:=mem_mk f s m D y;exact e.2.2.1
  . intro D q;obtain⟨m,y⟩:=AAd q;obtain⟨c,_,e⟩:=mem_mk f s m D y;exact e.2.2.2.1
  . intro m u G;rw[AAN,AAc]at G;obtain⟨D,q,rfl⟩:=G;obtain⟨c,_,e⟩:=mem_mk f s m D q;exact e.2.2.2.2
theorem Rg(h:St G w S δ Fr)(e:(δ k).er= .agg f){agg:Bool}{v:AV}(I:Ia agg n (Mj k off ((f.drop off).take n))=some v):
 ∃vals:List Value,(δ k).A0= .agg vals.toArray/\((vals.drop off).take n).length=n/\Lf w S δ v (if agg=true then .agg ((vals.drop off).take n).toArray else((vals.drop off).take n).headD undef):=by
 obtain⟨ds,z,H⟩:∃ds,δ k= .agg ds/\ds.map DV.er=f:=by
  have:=(h.ok k).Kt;cases hd:δ k with
  |agg ds=>rw[hd]at e;simp at e;exact⟨ds,rfl,e⟩
  |lf c v=>rw[hd]at e this;cases this with|lf _ _ j=>simp at e;subst e;simp[C8]at j
  |own=>rw[hd]at e;simp at e
  |BQ=>rw[hd]at e;simp at e
 have C:=h.ok k;have q:=h.al k;rw[z]at C q;cases C with
 |agg _ Fs _ hr Lw Bg hF=>
  cases q with
  |agg _ q=>
   obtain⟨y,j,r⟩:=LB ((ds.drop off).take n) (λm d D=>D.er=vF k (off+m) d.er/\D.A0=d.A0/\Ok w S D (λ_=>False)/\Dc δ D) (by
    intro m d t;have hd:ds[off+m]? =some d:=by
     rw[ABC]at t;split at t
     . rw[List.getElem?_drop]at t;exact t
     . cases t
    have g:=hr _ d hd;have o:=q _ d hd;cases d with
    |lf a u=>
     have x:=g.Kt;cases x with
     |lf _ _ jF=>
      cases g with
      |lf _ _ _ ha XM=>refine⟨.lf a u,?_,rfl,.lf _ _ _ ha (λ_ h=>h),o⟩;simp only[EY];cases a<;>simp_all [vF,C8]
    |own u bx s rows=>refine⟨.lf (.al k [(0,off+m,0)]) u,by simp[vF],ak,.lf _ _ _ trivial (λ_ h=>h),.lf _ _ ⟨bx,s,rows,by simp[Au,z,hd]⟩⟩
    |agg l=>exact⟨.lf .dead (DV.agg l).A0,by simp[vF],ak,.lf _ _ _ trivial (λ_ h=>h),.lf _ _ trivial⟩
    |BQ l=>exact⟨.lf .dead (DV.BQ l).A0,by simp[vF],ak,.lf _ _ _ trivial (λ_ h=>h),.lf _ _ trivial⟩)
   have F:y.map DV.er=Mj k off ((f.drop off).take n):=map_mk j r _ _ (by rw[fB,<- H];simp) λi d D b hd=>(by rw[zN,<- H,<- List.map_drop,<- ABV,AAN,hd,b.1];rfl);have E:y.map DV.A0=((ds.map DV.A0).drop off).take n:=map_mk j r _ _ ak λi d D b hd=>(by rw[<- List.map_drop,<- ABV,AAN,hd,b.2.1];rfl);obtain⟨p,x⟩:=gather (w:=w) (S:=S) (δ:=δ) I y F (λD B=>by obtain⟨m,t⟩:=AAd B;obtain⟨c,_,b⟩:=mem_mk j r m D t;exact b.2.2.1)
    (λD B=>by obtain⟨m,t⟩:=AAd B;obtain⟨c,_,b⟩:=mem_mk j r m D t;exact b.2.2.2)
   refine⟨ds.map DV.A0,by rw[z];simp,?_,?_⟩
   . rw[<- E,AAo]
     have:=ABZ List.length F;rw[AAo]at this;rw[this,p]
   . rw[E]at x;exact x
theorem Se(h:St G w S δ Fr)(ha:Rd δ a)(ho:o.op= .load t x)(hn:Ga P t=some n)(hg:JK P t=some bx)(J:bx=true\/n=1)(U:CR x y=true){v:AV}(d:valOf (.ld bx n y) (λs=>(δ s).er)=some v):Gives P w S δ a o v:=by
 obtain⟨hy,he⟩:=Am U ha;cases y with
 |c c=>simp[valOf]at d
 |t s=>
  have key:∀(b off:Nat)(f:dH),(δ s).A0= .pointer (some ⟨b,off,none⟩)->Ia bx n (f.map DV.er)=some v->(∀D∈f,Ok w S D (λ_=>False))->(∀D∈f,Dc δ D)->
   (∀(m:Nat) u,(f.map DV.A0)[m]? =some u->w.cell? ⟨b,off+m,none⟩=some u)->Gives P w S δ a o v:=by
   intro b off f C T4 O Gk H;obtain⟨l,Q⟩:=gather T4 f rfl O Gk;refine⟨_,?_,Q⟩
   have:=K1 (P:=P) (w:=w) (b:=b) (off:=off) (vs:=f.map DV.A0) hn hg J (by simpa using l) H;simp only[execOp,ho,he,C6,C,Instr.loadAt,Instr.sureAddr,Sem.run_bind,Sem.run_pure,Result.andThen_ok,this]
  simp only[valOf]at d;cases hs:(δ s).er with
  |fp cs=>
   simp only[hs]at d;obtain⟨_,I,_⟩:=h.leaf hs rfl;obtain⟨b,off,C,hS,H⟩:=I;obtain⟨f,M,L⟩:=LB (cs.take n) (λm c D=>D.er=JM c/\w.cell? ⟨b,off+m,none⟩=some D.A0/\Ok w S D (λ_=>False)/\Dc δ D) (by
    intro m c B;rw[ABC]at B;split at B
    . obtain⟨u,N,hf⟩:=H m c B;obtain⟨D,E,I,R,T⟩:=XG (δ:=δ) hf;exact⟨D,E,by rw[I];exact N,R,T⟩
    . cases B)
   refine key b off f C ?_ ?_ ?_ ?_
   . rw[<- d];congr 1;exact map_mk M L _ _ ak λi c D e U=>by simp only[AAN,U,AAf,e.1]
   . intro D z;obtain⟨m,B⟩:=AAd z;obtain⟨c,_,e⟩:=mem_mk M L m D B;exact e.2.2.1
   . intro D z;obtain⟨m,B⟩:=AAd z;obtain⟨c,_,e⟩:=mem_mk M L m D B;exact e.2.2.2
   . intro m u N;rw[AAN,AAc]at N;obtain⟨D,z,rfl⟩:=N;obtain⟨c,_,e⟩:=mem_mk M L m D z;exact e.2.1
  |vb q off us=>
   simp only[hs]at d;obtain⟨_,⟨b,C,hS,H⟩,Dh⟩:=h.leaf hs rfl;split at d
   . rename_i cs hq;obtain⟨vals,X,l,Q⟩:=Rg h hq d;have W:vals=us:=by
      have E:(δ q).A0= .agg us.toArray:=Dh;rw[X,Value.agg.injEq]at E
      have:=ABZ Array.toList E;simpa using this
     subst W;refine⟨_,?_,Q⟩
     have:=K1 (P:=P) (w:=w) (b:=b) (off:=off) (vs:=(vals.drop off).take n) hn hg J l (λj v K=>by
      rw[ABC]at K;split at K
      . rw[List.getElem?_drop]at K;exact H _ v K
      . cases K)
     simp only[execOp,ho,he,C6,C,Instr.loadAt,Instr.sureAddr,Sem.run_bind,Sem.run_pure,Result.andThen_ok,this]
   . cases d
  |_=>
   simp only[hs]at d;split at d
   . rename_i r p i j k VW;obtain⟨vh,g,Ao,b,F,Z,hb,C,O,_⟩:=h.EE VW;split at d
     . rename_i fG k' rows xA;obtain⟨D,z,FP⟩:=Dt (h.ok r).Kt xA;rw[Z]at z;obtain rfl:=AAG z;simp only[Eg,AV.own.injEq]at FP;obtain⟨rfl,rfl,rfl⟩:=FP;split at d
       . rename_i row D1;rw[AAN,AAc]at D1;obtain⟨Im,V,rfl⟩:=D1;obtain⟨f,E,I,R,T⟩:=p7 O Z hb V j n;exact key b (i*k+j) f C (by rw[E];exact d) I R T
       . cases d
     . cases d
   . cases d
end
variable{E:Array Field}{e:TypeId}{O:ff}{op:BinOp}{K M:IntKind}
section
variable{w w':World}{S S':de}{G:Gi}{δ:dy}{Fr:dh}{P:Program}
theorem Md{a:Field}(g:P.underlying t=some (.struct E))(e:E[k]? =some a)(hn:Ga P a.type=some n)(d:n≠0)(b off:Nat)(w:World):
 (Instr.fieldAt t (.pointer (some ⟨b,off,none⟩)) k).run P w= .ok (.pointer (some ⟨b,off+a.offset,none⟩)) w:=by
 simp[Instr.fieldAt,underlying,g,e,Instr.sureAddr,fieldPlace,run_sizeOf hn,d,Addr.add_lit]
theorem aB(h:St G w S δ Fr)(N:Rd δ a)(C:o.op= .fieldAddr t x k){e:Field}(D:P.underlying t=some (.struct E))(B:E[k]? =some e)(K:e.offset=off)(hn:Ga P e.type=some n)(m:n≠0)(Q:CR x y=true){v:AV}(d:valOf (.Ul off y) (λs=>(δ s).er)=some v):Gives P w S δ a o v:=by
 obtain⟨U,z⟩:=Am Q N;subst K;cases y with
 |c c=>simp[valOf]at d
 |t s=>
  simp only[valOf]at d;cases hs:(δ s).er with
  |fp cs=>
   simp only[hs,AAC]at d;subst d;obtain⟨_,M,_⟩:=h.leaf hs rfl;obtain⟨b,off,g,u,l⟩:=M;refine⟨.pointer (some ⟨b,off+e.offset,none⟩),?_,Lf.fp u λj a H=> ?_⟩
   . simp only[execOp,C,z,C6,g,Sem.run_bind,Md D B hn m,Result.andThen_ok,Sem.run_pure]
   . rw[List.getElem?_drop]at H;rw[show off+e.offset+j=off+(e.offset+j)from by omega];exact l _ a H
  |vb q o us=>simp only[hs,AAC]at d;subst d;obtain⟨_,⟨b,g,u,l⟩,J⟩:=h.leaf hs rfl;refine⟨.pointer (some ⟨b,o+e.offset,none⟩),?_,⟨.lf (.vb q (o+e.offset) us) _,ak,ak,.lf _ _ _ ⟨b,rfl,u,l⟩ (λ_ h=>h),.lf _ _ J⟩⟩;simp only[execOp,C,z,C6,g,Sem.run_bind,Md D B hn m,Result.andThen_ok,Sem.run_pure]
  |_=>
   simp only[hs]at d;split at d
   . rename_i r p i j f L;simp only[AAC]at d;subst d;obtain⟨V,bx,R,b,F,I,O,g,T,_⟩:=h.EE L;refine⟨.pointer (some ⟨b,i*f+(j+e.offset),none⟩),?_,Lf.Kk I O⟩;simp only[execOp,C,z,C6,g,Sem.run_bind,Md D B hn m,Result.andThen_ok,Sem.run_pure,Nat.add_assoc]
   . cases d
theorem run_indexAt_slice(g:P.underlying t=some (.slice e))(f:Ga P e=some k){h:IntKind}{len:Int}(a:0<=len)(d:len<n)(w:World):
 (Instr.indexAt t (.slice (some ⟨b,off,none⟩) n i) (.int h len)).run P w= .ok (.pointer (some ⟨b,off+len.toNat*k,none⟩)) w:=by
 simp[Instr.indexAt,asIntOf,underlying,g,a,d,run_sizeOf f,Addr.add_lit]
theorem St.sI(h:St G w S δ Fr)(C:WY y){n:AV}(d:hd (λs=>(δ s).er) y=some (n,O)):
 (∀b k rows,n= .own b k rows->∃g F,g.map (·.map DV.er)=rows/\Ok w S (.own (C6 δ y) b k g) F/\∀r p,O=some (r,p)->Au (δ r) p=some (.own (C6 δ y) b k g))/\
 (∀e k rows,n= .sl e k rows->(∃s,y= .t s/\(δ s).er= .sl e k rows)->Fz w S (.sl e k rows) (C6 δ y)):=by
 cases y with
 |c c=>
  obtain⟨D,q⟩:=C;obtain⟨f,j,o,_⟩:=Ib (w:=w) (S:=S) (δ:=δ) c D q;constructor
  . rintro b k rows rfl;simp only[hd]at d;split at d
    . simp only[AAC,AAQ,AV.own.injEq]at d;obtain⟨⟨rfl,rfl,rfl⟩,rfl⟩:=d;cases D with
      |own v b' k'' g=>simp only[Eg,AV.own.injEq]at f;obtain⟨rfl,rfl,l⟩:=f;exact⟨g,_,l,by simpa[C6,q]using j,ak⟩
      |lf a v=>simp only[EY]at f;subst f;cases j with|lf _ _ _ ha _=>exact ha.elim
      |agg=>simp at f
      |BQ=>simp at f
    . cases d
  . rintro e k rows rfl ⟨s,i,_⟩;cases i
 |t s=>
  simp only[hd]at d;constructor
  . rintro b k rows rfl;cases i:(δ s).er with
    |al r p=>
     simp only[i]at d;split at d
     . rename_i E hn;simp only[AAC,AAQ]at d;obtain⟨rfl,rfl⟩:=d;obtain⟨g,F,f,j,o⟩:=h.node i hn;exact⟨g,F,j,o,by rintro H p' ⟨⟩;exact f⟩
     . cases d
    |own b' k' rows'=>
     simp only[i,AAC,AAQ]at d;obtain⟨f,rfl⟩:=d;obtain⟨g,m,B⟩:=h.Xr (i.trans f);refine⟨g,Fr s,B,?_,?_⟩
     . have:=h.ok s;rw[m]at this;simpa[C6]using this
     . rintro r p ⟨⟩;simpa[Au,C6]using m
    |sl e' k' rows'=>simp only[i,AAC,AAQ]at d;exact absurd d.1 ak
    |_=>simp[i]at d
  . rintro e k rows rfl ⟨I,x,z⟩;cases x;exact(h.leaf z rfl).2.1
theorem aC(h:St G w S δ Fr)(O:Rd δ a)(U:o.op= .indexAddr t x m)(V:P.underlying t=some (.slice e))(T:Ga P e=some k)(hc:CR x y=true)(Mo:CR m j=true){v:AV}(g:valOf (.WX k y j) (λs=>(δ s).er)=some v):Gives P w S δ a o v:=by
 obtain⟨L,Q⟩:=Am hc O;obtain⟨R,q⟩:=Am Mo O;simp only[valOf]at g;split at g
 . rename_i l rows r p n d hn;split at g
   . rename_i B;obtain⟨rfl,H,I⟩:=B;simp only[AAC]at g;subst g;obtain⟨kk,hn⟩:=Ni hn;obtain⟨C,_⟩:=h.Ew R hn;obtain⟨N,F,z,X,UI⟩:=(h.sI L d).1 _ _ _ rfl;have W:=UI r p rfl;generalize C6 δ y=vh at*;have f:N.length=rows.length:=(by rw[<- z];simp);cases X with
     |nil=>simp at f;rw[<- f]at I;simp at I;omega
     |own _ _ _ b c arr E Fs _ hb fH D3 LJ pQ hr Lw Bg KE hF=>refine⟨.pointer (some ⟨b,n.toNat*l+0,none⟩),?_,Lf.Kk W ak⟩;simp only[execOp,U,Q,q,C,JT,Sem.run_bind,AAM,AAT,run_indexAt_slice V T H (show n<(N.length:Nat)by rw[f];exact I),Result.andThen_ok,Sem.run_pure];simp
   . cases g
 . rename_i ee l rows pl n d hn;split at g
   . rename_i B;obtain⟨rfl,H⟩:=B;obtain⟨kk,hn⟩:=Ni hn;obtain⟨C,_⟩:=h.Ew R hn;rw[AAc]at g;obtain⟨row,u,rfl⟩:=g;have K:∃s,y= .t s/\(δ s).er= .sl ee l rows:=by
      cases y with
      |c c=>
       obtain⟨D,J⟩:=L;simp only[hd]at d;split at d
       . simp at d
       . cases d
      |t s=>
       refine⟨s,rfl,?_⟩;simp only[hd]at d;cases hs:(δ s).er with
       |sl e2 k2 Iu=>simp only[hs,AAC,AAQ]at d;exact d.1
       |al r p=>
        simp only[hs]at d;split at d
        . rename_i n' xA;simp only[AAC,AAQ]at d;obtain⟨rfl,_⟩:=d
          -- an alias names a node
          obtain⟨_,_,Gk⟩:=h.leaf hs rfl;obtain⟨fG,k2,M,hl⟩:=Gk;obtain⟨D,J,Z⟩:=Dt (h.ok r).Kt xA;rw[hl]at J;obtain rfl:=AAG J;simp at Z
        . cases d
       |own=>simp[hs]at d
       |_=>simp[hs]at d
     have Nc:=(h.sI L d).2 _ _ _ rfl K;have Dz:n.toNat<rows.length:=(AAE.1 u).1;generalize C6 δ y=vh at*;cases Nc with
     |nil=>simp at u
     |sl _ _ _ b off c vs hx QW hS fH Bp hr=>
      refine⟨.pointer (some ⟨b,off+n.toNat*l,none⟩),?_,Lf.fp hS λi a z=> ?_⟩
      . simp only[execOp,U,Q,q,C,Sem.run_bind,run_indexAt_slice V T H (show n<(rows.length:Nat)by omega),Result.andThen_ok,Sem.run_pure]
      . refine⟨vs n.toNat i,?_,hr _ _ _ _ u z⟩
        have:=Bp _ _ _ _ u z;rw[show off+n.toNat*l+i=off+(n.toNat*l+i)from by omega];exact this
   . cases g
 . cases g
theorem wJ(h:St G w S δ Fr)(z:Rd δ a)(p:o.op= .binOp op t x m e)(H:CR x y=true)(F:CR m j=true){v:AV}(b:valOf (.bin op y j) (λs=>(δ s).er)=some v):Gives P w S δ a o v:=by
 obtain⟨B,g⟩:=Am H z;obtain⟨C,i⟩:=Am F z;simp only[valOf]at b;unfold binF at b;split at b
 . rename_i k n K D E l;obtain⟨d,_⟩:=h.Ew B E;obtain⟨u,_⟩:=h.Ew C l;split at b
   . rename_i I;subst I;rw[AAc]at b;obtain⟨q,c,rfl⟩:=b;have f:(eqGuard op t x m (.int k n) (.int k D)).run P w= .ok () w:=(by cases op<;>simp[eqGuard]);have J:(binOp op t (.int k n) (.int k D)).run P w= .ok q w:=by
      cases op<;>simp[binI]at c<;>first
       | (subst c;simp[binOp,Op.intArith,Op.intCmp];done)
       | (obtain⟨r,rfl⟩:=c;simp[binOp,Op.intDiv,r];done)
     refine⟨q,?_,Lf.sc q ?_⟩
     . simp only[execOp,p,g,i,d,u,Sem.run_bind,f,J,Result.andThen_ok,Sem.run_pure]
     . cases op<;>simp[binI]at c<;>first
        | (subst c;rfl)
        | (obtain⟨r,rfl⟩:=c;rfl)
   . cases b
 . rename_i n D E l;obtain⟨d,_⟩:=h.Ew B E;obtain⟨u,_⟩:=h.Ew C l;have f:∀op,(eqGuard op t x m (.string n) (.string D)).run P w= .ok () w:=(by intro op;cases op<;>simp[eqGuard]);split at b
   . simp only[AAC]at b;subst b;refine⟨_,?_,Lf.sc _ rfl⟩;simp only[execOp,p,g,i,d,u,Sem.run_bind,f,Result.andThen_ok];simp[binOp,Op.stringOp]
   . simp only[AAC]at b;subst b;refine⟨_,?_,Lf.sc _ rfl⟩;simp only[execOp,p,g,i,d,u,Sem.run_bind,f,Result.andThen_ok];simp[binOp,Op.stringOp]
   . cases b
 . cases b
theorem wI(h:St G w S δ Fr)(j:Rd δ a)(l:o.op= .binOp op t x m e)(d:op=if bx=true then .neq else .eql)(p:P.underlying t=some .bool)(D:CR x y=true)(z:CR m r=true){v:AV}(c:valOf (.beq bx y r) (λs=>(δ s).er)=some v):Gives P w S δ a o v:=by
 obtain⟨E,g⟩:=Am D j;obtain⟨F,i⟩:=Am z j;simp only[valOf]at c;split at c
 . rename_i n q B C;obtain⟨u,_⟩:=h.Ew E B;obtain⟨f,_⟩:=h.Ew F C;simp only[AAC]at c;subst c;refine⟨_,?_,Lf.sc _ rfl⟩;have k:∀op,(eqGuard op t x m (.bool n) (.bool q)).run P w= .ok () w:=(by intro op;cases op<;>simp[eqGuard]);cases bx with
   |true=>simp only[AAi]at d;subst d;simp only[execOp,l,g,i,u,f,Sem.run_bind,k,Result.andThen_ok,run_neq_bool w t n q p,Sem.run_pure,AAi]
   |false=>simp only[AAM,AAT]at d;subst d;simp only[execOp,l,g,i,u,f,Sem.run_bind,k,Result.andThen_ok,run_eql_bool w t n q p,Sem.run_pure,AAM,AAT]
 . cases c
theorem gives_un(h:St G w S δ Fr)(j:Rd δ a){op:UnOp}(f:o.op= .unOp op t x)(l:CR x y=true){v:AV}(b:valOf (.un op y) (λs=>(δ s).er)=some v):Gives P w S δ a o v:=by
 obtain⟨g,e⟩:=Am l j;simp only[valOf]at b;unfold unF at b;split at b
 . rename_i n d;obtain⟨c,_⟩:=h.Ew g d;split at b
   . simp only[AAC]at b;subst b;exact⟨_,by simp[execOp,f,e,c,Op.unary],Lf.sc _ rfl⟩
   . cases b
 . rename_i k n d;obtain⟨c,_⟩:=h.Ew g d;split at b
   . simp only[AAC]at b;subst b;exact⟨.int k (k.wrap (0-n)),by simp[execOp,f,e,c,Op.unary,Op.intArith],Lf.sc _ rfl⟩
   . cases b
 . cases b
theorem wK(h:St G w S δ Fr)(i:Rd δ a)(l:o.op= .convert t e x)(m:P.underlying t=some (.int M))(hd:P.underlying e=some (.int K))(j:CR x y=true){v:AV}(b:valOf (.cvt K y) (λt=>(δ t).er)=some v):Gives P w S δ a o v:=by
 obtain⟨p,f⟩:=Am j i;simp only[valOf]at b;split at b
 . rename_i r n g;obtain⟨d,_⟩:=h.Ew p g;simp only[AAC]at b;subst b;exact⟨.int K (K.wrap n),by simp[execOp,l,f,d,convert,underlying,m,hd,Conv.intToInt],Lf.sc _ rfl⟩
 . cases b
end
variable{c:Call}{T:eu}{Q R:Array Operand}
section
variable{w w':World}{S S':de}{G:Gi}{δ:dy}{Fr:dh}{P:Program}
theorem bD(h:Ok w S (.own v false k rows) F):∃a c,v= .slice a rows.length c:=by
 cases h with
 |nil=>simp_all
 |own _ _ _ b c=>exact⟨some ⟨b,0,none⟩,c,by simp[JT]⟩
theorem PD{rows:dn}(h:Fz w S (.sl bx k rows) v):∃a c,v= .slice a rows.length c:=by
 cases h with
 |nil _ _ a c=>simp_all
 |sl _ _ _ b off c=>simp_all
theorem St.hdSl(h:St G w S δ Fr)(j:WY y){rows:dn}(a:hd (λs=>(δ s).er) y=some (.sl bx k rows,O)):
 ∃s,y= .t s/\(δ s).er= .sl bx k rows:=by
 cases y with
 |c c=>obtain⟨D,b⟩:=j;simp only[hd]at a;grind
 |t s=>
  refine⟨s,rfl,?_⟩;simp only[hd]at a;cases hs:(δ s).er with
  |sl e2 l Iu=>simp_all
  |al r p=>
   simp only[hs]at a;split at a
   . rename_i q n;simp only[AAC,AAQ]at a;obtain⟨rfl,_⟩:=a;obtain⟨_,_,g⟩:=h.leaf hs rfl;obtain⟨o,l,d,i⟩:=g;obtain⟨D,b,f⟩:=Dt (h.ok r).Kt n;rw[i]at b;obtain rfl:=AAG b;simp at f
   . cases a
  |own=>simp_all
  |_=>simp_all
theorem run_len_slice(a:ABd Addr)(n c:Nat)(d:∃e,P.underlying t=some (.slice e))(ty:TypeId)(w:World):
 (Builtin.len_ #[t] ty #[.slice a n c]).run P w= .ok (.int .i64 n) w:=by
 obtain⟨e,b⟩:=d;simp[Builtin.len_,underlying,b,goInt]
theorem wR(h:St G w S δ Fr)(B:Rd δ a)(D:o.op= .call c)(q:c.callee= .builtin .len)(p:c.args.toList=[x])(i:c.argTypes.toList=[t])(H:(∃e,P.underlying t=some (.slice e)))(C:CR x y=true){v:AV}(d:valOf (.len y) (λs=>(δ s).er)=some v):Gives P w S δ a o v:=by
 obtain⟨j,z⟩:=Am C B;have u:c.args= #[x]:=by apply ABT;simpa using p
 have l:c.argTypes= #[t]:=by apply ABT;simpa using i
 have key:∀(b:ABd Addr)(n cc:Nat),C6 δ y= .slice b n cc->v= .sc (.int .i64 n)->Gives P w S δ a o v:=by
  rintro b n cc g rfl;refine⟨.int .i64 n,?_,Lf.sc _ rfl⟩
  have:=run_len_slice (P:=P) b n cc H o.type w;simp only[execOp,D,resolve,q,u,l,invoke,builtin,Sem.run_bind,Sem.run_pure,Result.andThen_ok,List.map_toArray,AAU,AAm,z,g,this]
 simp only[valOf]at d;split at d
 . rename_i k rows I f;simp only[AAC]at d;obtain⟨J,F,K,m,_⟩:=(h.sI j f).1 _ _ _ rfl;obtain⟨b,cc,E⟩:=bD m;grind
 . rename_i e k rows I f;simp only[AAC]at d;have r:=(h.sI j f).2 _ _ _ rfl (h.hdSl j f);obtain⟨b,cc,E⟩:=PD r;simp_all
 . cases d
theorem o6(h:St G w S δ Fr)(m:Rd δ a)(p:o.op= .call c)(g:c.callee= .builtin .len)(f:c.args.toList=[x])(d:c.argTypes.toList=[t])(r:P.underlying t=some .string)(n:CR x y=true){v:AV}(b:valOf (.Zc y) (λs=>(δ s).er)=some v):Gives P w S δ a o v:=by
 obtain⟨u,l⟩:=Am n m;have i:c.args= #[x]:=by apply ABT;simpa using f
 have j:c.argTypes= #[t]:=by apply ABT;simpa using d
 simp only[valOf]at b;split at b
 . rename_i s q;simp only[AAC]at b;subst b;obtain⟨k,_⟩:=h.Ew u q;refine⟨.int .i64 s.size,?_,Lf.sc _ rfl⟩;simp only[execOp,p,resolve,g,i,j,invoke,builtin,Sem.run_bind,Sem.run_pure,Result.andThen_ok,List.map_toArray,AAU,AAm,l,k];simp[Builtin.len_,underlying,r,goInt]
 . cases b
theorem wM(h:St G w S δ Fr)(y:Rd δ a)(C:o.op= .extract x i)(z:CR x j=true){v:AV}(b:valOf (.ext j i) (λs=>(δ s).er)=some v):Gives P w S δ a o v:=by
 obtain⟨E,n⟩:=Am z y;cases j with
 |c c=>simp[valOf]at b
 |t s=>
  simp only[valOf]at b;split at b
  . rename_i m g;split at b
    . rename_i c l;simp only[AAC]at b;subst b;obtain⟨ds,f,B⟩:∃ds,δ s= .BQ ds/\ds.map DV.er=m:=by
       have:=(h.ok s).Kt;cases hd:δ s with
       |BQ ds=>simp_all
       |lf c v=>rw[hd]at g this;cases this with|lf _ _ hl=>simp at g;subst g;simp[C8]at hl
       |own=>simp_all
       |agg=>simp_all
      rw[<- B,AAN,AAc]at l;obtain⟨d,hd,rfl⟩:=l;have k:=h.ok s;have e:=h.al s;rw[f]at k e;cases k with
      |BQ _ Fs _ hr Lw Bg hF=>
       cases e with
       |BQ _ e=>obtain⟨D,p,q,r,u⟩:=viewD (δ:=δ) s (hr i d hd) [(0,i,0)] (by simp[Au,f,hd]) (e i d hd);refine⟨d.A0,?_,D,p,q,r,u⟩;have:(ds.map DV.A0).toArray[i]? =some d.A0:=(by simp[hd]);simp only[execOp,C,n,C6,f,LF,Instr.extract,Sem.run_bind,this,Sem.run_pure,Result.andThen_ok]
    . cases b
  . cases b
theorem run_indexAt_array(f:P.underlying t=some (.array n e))(d:Ga P e=some k){len:Int}(a:0<=len)(c:len<n)(w:World):
 (Instr.indexAt t (.pointer (some ⟨b,off,none⟩)) (.int K len)).run P w= .ok (.pointer (some ⟨b,off+len.toNat*k,none⟩)) w:=by
 simp[Instr.indexAt,asIntOf,underlying,f,a,c,run_sizeOf d,Addr.add_lit,Instr.sureAddr]
theorem wH(h:St G w S δ Fr)(z:Rd δ a)(D:o.op= .indexAddr t x m)(E:P.underlying t=some (.array n e))(C:Ga P e=some k)(Q:CR x y=true)(J:CR m j=true){v:AV}(d:valOf (.aad n k y j) (λs=>(δ s).er)=some v):Gives P w S δ a o v:=by
 obtain⟨Z,B⟩:=Am Q z;obtain⟨R,f⟩:=Am J z;cases y with
 |c c=>simp[valOf]at d
 |t s=>
  simp only[valOf]at d;split at d
  . rename_i s' len g hn;simp only[Ar.t.injEq]at g;subst g;split at d
    . rename_i I;obtain⟨q,u⟩:=I;obtain⟨kk,hn⟩:=Ni hn;obtain⟨L,_⟩:=h.Ew R hn;rw[L]at f;cases hs:(δ s).er with
      |fp cs=>
       simp only[hs,AAC]at d;subst d;obtain⟨_,M,_⟩:=h.leaf hs rfl;obtain⟨b,off,l,N,V⟩:=M;refine⟨.pointer (some ⟨b,off+len.toNat*k,none⟩),?_,Lf.fp N λi a X=> ?_⟩
       . simp only[execOp,D,B,f,C6,l,Sem.run_bind,run_indexAt_array E C q u,Result.andThen_ok,Sem.run_pure]
       grind
      |_=>
       simp only[hs]at d;split at d
       . rename_i r p m j T K;simp only[AAC]at d;subst d;obtain⟨vh,bx,U,b,F,H,O,l,W,_⟩:=h.EE K;refine⟨.pointer (some ⟨b,m*T+(j+len.toNat*k),none⟩),?_,Lf.Kk H O⟩;simp only[execOp,D,B,f,C6,l,Sem.run_bind,run_indexAt_array E C q u,Result.andThen_ok,Sem.run_pure,Nat.add_assoc]
       . cases d
    . cases d
  . cases d
theorem YU{vals:List Value}(hn:Ga P t=some n)(b:JK P t=some bx)(c:bx=true\/n=1)(a:((vals.drop off).take n).length=n):
 (part t vals.toArray off).run P w= .ok (if bx=true then .agg ((vals.drop off).take n).toArray else((vals.drop off).take n).headD undef) w:=by
 cases bx with
 |true=>
  have e:vals.toArray.extract off (off+n)=((vals.drop off).take n).toArray:=by apply ABT;simp[List.extract_eq_take_drop]
  simp[part,QN b,run_sizeOf hn,e]
 |false=>
  obtain rfl:=c.resolve_left ak
  match hd:(vals.drop off).take 1,a with
  |[v],_=>have d:vals[off]? =some v:=(by have:((vals.drop off).take 1)[0]? =some v:=(by rw[hd];rfl);simpa using this);simp[part,QN b,d]
theorem wN(h:St G w S δ Fr)(m:Rd δ a){e:Field}(z:o.op= .field t x k)(C:P.underlying t=some (.struct E))(r:E[k]? =some e)(j:e.offset=off)(hn:Ga P e.type=some n)(u:JK P e.type=some bx)(l:bx=true\/n=1)(p:CR x y=true){v:AV}(d:valOf (.fld bx off n y) (λs=>(δ s).er)=some v):Gives P w S δ a o v:=by
 obtain⟨i,q⟩:=Am p m;cases y with
 |c c=>simp[valOf]at d
 |t s=>
  simp only[valOf]at d;split at d
  . rename_i D B;obtain⟨vals,g,b,f⟩:=Rg h B d;refine⟨_,?_,f⟩
    have:=YU (w:=w) hn u l b;simp only[execOp,z,q,C6,g,Instr.field,run_underlying C,r,asAgg,j,Sem.run_bind,Sem.run_pure,Result.andThen_ok,this]
  . cases d
theorem wQ(h:St G w S δ Fr)(i:Rd δ a)(H:o.op= .index t x m)(J:P.underlying t=some (.array n e))(p:Ga P e=some k)(E:JK P e=some bx)(B:bx=true\/k=1)(C:CR x y=true)(r:CR m j=true){v:AV}(b:valOf (.idx bx n k y j) (λs=>(δ s).er)=some v):Gives P w S δ a o v:=by
 obtain⟨L,D⟩:=Am C i;obtain⟨F,d⟩:=Am r i;cases y with
 |c c=>simp[valOf]at b
 |t s=>
  simp only[valOf]at b;split at b
  . rename_i N len f hn;simp only[Ar.t.injEq]at f;subst f;split at b
    . rename_i q;obtain⟨M,hn⟩:=Ni hn;obtain⟨u,_⟩:=h.Ew F hn;rw[u]at d;split at b
      . rename_i K I;obtain⟨vals,l,g,z⟩:=Rg h I b;refine⟨_,?_,z⟩
        have:=YU (w:=w) p E B g;simp only[execOp,H,D,d,C6,l,Instr.index,asIntOf,run_underlying J,q,and_self,AAi,run_sizeOf p,Sem.run_bind,Sem.run_pure,Result.andThen_ok,this]
      . cases b
    . cases b
  . cases b
theorem o5(h:St G w S δ Fr)(e:Rd δ a)(u:o.op= .index t x m)(B:P.underlying t=some .string)(p:CR x y=true)(f:CR m j=true){v:AV}(c:valOf (.lS y j) (λs=>(δ s).er)=some v):Gives P w S δ a o v:=by
 obtain⟨C,q⟩:=Am p e;obtain⟨r,d⟩:=Am f e;simp only[valOf]at c;split at c
 . rename_i s n z hn;obtain⟨D,hn⟩:=Ni hn;obtain⟨g,_⟩:=h.Ew r hn;obtain⟨k,_⟩:=h.Ew C z;split at c
   . rename_i l;rw[AAc]at c;obtain⟨b,i,rfl⟩:=c;refine⟨.int .u8 b.toNat,?_,Lf.sc _ rfl⟩;simp only[execOp,u,q,d,g,k,Instr.index,asIntOf,run_underlying B,l,AAi,i,Sem.run_bind,Sem.run_pure,Result.andThen_ok]
   . cases c
 . cases c
theorem St.argAgg(h:St G w S δ Fr)(n:WY y)(g:ar (λs=>(δ s).er) y= .agg f):∃vals:List Value,C6 δ y= .agg vals.toArray/\∀(j:Nat) u,f[j]? =some (.sc u)->vals[j]? =some u:=by
 obtain⟨D,F,e,o,i⟩:∃(D:DV)(F:de),D.er= .agg f/\D.A0=C6 δ y/\Ok w S D F:=by
  cases y with
  |t s=>exact⟨δ s,Fr s,g,rfl,h.ok s⟩
  |c c=>obtain⟨k,l⟩:=n;obtain⟨m,g2,p,_⟩:=Ib (w:=w) (S:=S) (δ:=δ) c k l;simp only[ar]at g;exact⟨k,_,m.trans g,by simp[C6,l],g2⟩
 obtain⟨ds,rfl⟩:∃ds,D= .agg ds:=by
  have:=i.Kt;cases D with
  |agg ds=>simp_all
  |lf c v=>cases this with|lf _ _ hl=>simp at e;subst e;simp[C8]at hl
  |own=>simp at e
  |BQ=>simp at e
 refine⟨ds.map DV.A0,am,λj u b=> ?_⟩;simp only[HM,AV.agg.injEq]at e;subst e;simp only[AAN]at b |-;cases hd:ds[j]? with
 |none=>simp_all
 |some d=>
  simp only[hd,AAf,AAC]at b |-;cases i with
  |agg _ Fs _ hr _ _ _=>
   have:=hr j d hd;cases this with
   |lf a v _ hl _=>simp only[EY]at b;subst b;simpa using hl.1
   |nil=>simp at b
   |own=>simp at b
   |agg=>simp at b
   |BQ=>simp at b
def kdOf:TypeDesc->ABd Nat
 | .bool=>some 0
 | .int _=>some 1
 | .string=>some 2
 |_=>none
def QB(P:Program):Nat->List Field->List Nat->Bool
 |_,[],[]=>true
 |i,f::fs,k::ks=>f.name != "_" &&f.offset==i&&Ga P f.type==some 1&&JK P f.type==some false&&((P.underlying f.type).bind kdOf==some k)&&QB P (i+1) fs ks
 |_,_,_=>false
def oJ(P:Program)(t:TypeId)(kd:dF):Bool:=match P.underlying t with
 |some (.struct fs)=> !P.stoodInHeld t&& !P.eqGuardType P.depth t&&QB P 0 fs.toList kd
 |_=>false
theorem eqSc_run(d:Nat)(a:(P.underlying t).bind kdOf=some k)(h:wC k u v=some bx):(Op.equalIn (d+1) t u v).run P w= .ok bx w:=by
 cases hu:P.underlying t with
 |none=>simp_all
 |some T=>
  simp only[hu,AAB]at a;cases T<;>simp only[kdOf,AAC,reduceCtorEq]at a<;>subst a
  . cases u<;>cases v<;>simp only[wC,AAC,reduceCtorEq]at h;subst h;exact run_equalIn_bool' w d t _ _ hu
  . cases u<;>cases v<;>simp only[wC,reduceCtorEq]at h;split at h
    . rename_i e;subst e;simp only[AAC]at h;subst h;exact run_equalIn_int w d t _ _ _ _ hu
    . cases h
  . cases u<;>cases v<;>simp only[wC,AAC,reduceCtorEq]at h;subst h;exact run_equalIn_string w d t _ _ hu
theorem cW(d:Nat)(q r:List Value)(p:List Field):∀(h:dF)(i:Nat)(c g:dm)(b:Bool),QB P i p h=true->QC h c g=some b->
 (∀(j:Nat) u,c[j]? =some (.sc u)->q[i+j]? =some u)->(∀(j:Nat) u,g[j]? =some (.sc u)->r[i+j]? =some u)->(Op.eqFields (d+1) q.toArray r.toArray p).run P w= .ok b w:=by
 induction p with
 |nil=>
  intro h i c g b m e _ _;cases h with
  |cons=>simp[QB]at m
  |nil=>cases c<;>cases g<;>simp only[QC,AAC,reduceCtorEq]at e;subst e;simp[Op.eqFields]
 |cons f p ih=>
  intro h i c g b m e n o;cases h with
  |nil=>simp[QB]at m
  |cons k ks=>
   simp only[QB,AAD,AAR,bne_iff_ne]at m;obtain⟨⟨⟨⟨⟨D,E⟩,F⟩,G⟩,H⟩,I⟩:=m
   match c,g,e with
   | .sc u::c,.sc v::g,e=>
    simp only[QC]at e;split at e
    . rename_i a B C g2;simp only[AAC]at e;have t:q[i]? =some u:=(by have:=n 0 u rfl;simpa using this);have x:r[i]? =some v:=(by have:=o 0 v rfl;simpa using this);have one:∀(l:List Value)(u:Value),l[i]? =some u->(part f.type l.toArray i).run P w= .ok u w:=by
       intro l u J;have K:(l.drop i).take 1=[u]:=by obtain⟨z,rfl⟩:=AAE.1 J;rw[AA7 z];rfl
       have:=YU (w:=w) (off:=i) (vals:=l) F G (.inr rfl) bg;rw[this,K];rfl
      have y:=ih ks (i+1) c g B I g2 (λj u s=>by have:=n (j+1) u s;grind) (λj u s=>by have:=o (j+1) u s;grind);simp only[Op.eqFields,D,ne_eq,not_false_eq_true,AAi,E,Sem.run_bind,one q u t,one r v x,Result.andThen_ok,eqSc_run d H C];cases a with
      |true=>simp_all
      |false=>simp_all
    . cases e
theorem o4(h:St G w S δ Fr)(C:Rd δ a)(E:o.op= .binOp op t x m e)(f:op=if bx=true then .neq else .eql)(d:oJ P t L=true)(Q:CR x y=true)(I:CR m j=true){v:AV}(u:valOf (.lR bx L y j) (λs=>(δ s).er)=some v):Gives P w S δ a o v:=by
 obtain⟨U,r⟩:=Am Q C;obtain⟨V,z⟩:=Am I C;simp only[valOf]at u;split at u
 . rename_i g J M N;obtain⟨l,p,f1⟩:=h.argAgg U M;obtain⟨F,q,f2⟩:=h.argAgg V N;rw[AAc]at u;obtain⟨b,O,rfl⟩:=u;refine⟨_,?_,Lf.sc _ rfl⟩;unfold oJ at d;split at d
   . rename_i B T;simp only[AAD,ABP]at d;obtain⟨⟨K,g2⟩,k⟩:=d;have i:P.fieldsOf t=B:=(by simp[Program.fieldsOf,T]);have n:(Op.equalIn 10000 t (.agg l.toArray) (.agg F.toArray)).run P w= .ok b w:=(by rw[run_equalIn_struct w 9999 t _ _ (by simp_all) K,i];exact cW 9998 l F B.toList L 0 g J b k O (λH e R=>by simp_all) (λH e R=>by simp_all));have D:∀op,(eqGuard op t x m (.agg l.toArray) (.agg F.toArray)).run P w= .ok () w:=λop=>run_eqGuard_agg w op t x m _ _ g2;cases bx with
     |true=>simp only[AAi]at f;subst f;simp only[execOp,E,r,z,p,q,Sem.run_bind,D,Result.andThen_ok,run_neq_struct,n,Sem.run_pure,AAi]
     |false=>simp only[AAM,AAT]at f;subst f;simp only[execOp,E,r,z,p,q,Sem.run_bind,D,Result.andThen_ok,run_eql_struct,n,Sem.run_pure,AAM,AAT]
   . cases d
 . cases u
theorem gives_mm(h:St G w S δ Fr)(i:Rd δ a)(p:o.op= .call c)(d:c.callee= .builtin (if bx=true then .max else .min))(q:c.args.toList=[x,m])(u:CR x y=true)(r:CR m j=true){v:AV}(b:valOf (.mm bx y j) (λs=>(δ s).er)=some v):Gives P w S δ a o v:=by
 obtain⟨B,f⟩:=Am u i;obtain⟨C,g⟩:=Am r i;have e:c.args= #[x,m]:=by apply ABT;simpa using q
 simp only[valOf]at b;split at b
 . rename_i k n D l t g2;obtain⟨f1,_⟩:=h.Ew B t;obtain⟨f2,_⟩:=h.Ew C g2;split at b
   . rename_i z;subst z;simp only[AAC]at b;subst b;refine⟨_,?_,Lf.sc _ rfl⟩;cases bx with
     |true=>simp only[AAi]at d;simp only[execOp,p,resolve,d,e,invoke,builtin,Sem.run_bind,Sem.run_pure,Result.andThen_ok,List.map_toArray,AAU,AAm,f,g,f1,f2,run_max_int2,AAi]
     |false=>simp only[AAM,AAT]at d;simp only[execOp,p,resolve,d,e,invoke,builtin,Sem.run_bind,Sem.run_pure,Result.andThen_ok,List.map_toArray,AAU,AAm,f,g,f1,f2,run_min_int2,AAM,AAT]
   . cases b
 . cases b
theorem s7(h:Ok w S (.own v true k rows) F):∃b,v= .pointer (some ⟨b,0,none⟩):=by
 cases h with
 |own _ _ _ b c arr E Fs _=>exact⟨b,by simp[JT]⟩
theorem oZ(h:St G w S δ Fr)(F:Rd δ a)(l:o.op= .nilCheck x)(H:CR x y=true){v:AV}(d:valOf (.Jp y) (λs=>(δ s).er)=some v):Gives P w S δ a o v:=by
 obtain⟨I,f⟩:=Am H F;cases y with
 |c c=>
  obtain⟨K,J⟩:=I;simp only[valOf,ar]at d;cases c<;>first
   | (simp[Iy]at J;done)
   |grind
   |grind
 |t s=>
  simp only[valOf,ar]at d;cases hs:(δ s).er with
  |Kk r p i j k=>rw[hs]at d;simp only[AAC]at d;subst d;obtain⟨B,_,g,bx,rows,b,m,g2,n⟩:=h.leaf hs rfl;exact⟨_,by simp only[execOp,l,f,C6,n,Sem.run_pure],Lf.Kk m g2⟩
  |fp cs=>rw[hs]at d;simp only[AAC]at d;subst d;obtain⟨B,⟨b,off,m,g2,n⟩,_⟩:=h.leaf hs rfl;exact⟨_,by simp only[execOp,l,f,C6,m,Sem.run_pure],Lf.fp g2 n⟩
  |own b k rows=>
   rw[hs]at d;cases b with
   |false=>simp at d
   |true=>simp only[AAC]at d;subst d;obtain⟨E,hd,L⟩:=h.Xr hs;have e:=h.ok s;rw[hd]at e;obtain⟨b,g⟩:=s7 e;refine⟨(δ s).A0,?_,Lf.al (r:=s) (p:=[]) (bx:=true) (k:=k) (rows:=E) (by simp[Au];exact hd)⟩;simp only[execOp,l,f,C6];rw[g];simp only[Sem.run_pure]
  |al r p=>
   rw[hs]at d;simp only at d;split at d
   . rename_i k rows hn;simp only[AAC]at d;subst d;obtain⟨B,_,bx,M,u,q⟩:=h.leaf hs rfl;obtain⟨D,C,z⟩:=Dt (h.ok r).Kt hn;rw[q]at C;obtain rfl:=AAG C;simp only[Eg,AV.own.injEq]at z;obtain⟨rfl,rfl,_⟩:=z;obtain⟨F',e,_⟩:=(h.ok r).Au q;obtain⟨b,g⟩:=s7 e;refine⟨(δ s).A0,?_,Lf.al q⟩;simp only[execOp,l,f,C6];rw[g];simp only[Sem.run_pure]
   . cases d
  |_=>simp_all
theorem nX(h:St G w S δ Fr)(F:Rd δ a)(j:ek):∀{d:List Operand}{rs:eu},Gj d j=true->SP (λs=>(δ s).er) j=some rs->
 d.length=rs.length/\∀(i:Nat) r p u,rs[i]? =some (r,p)->(d.map a.eval)[i]? =some u->∃bx k rows,Au (δ r) p=some (.own u bx k rows):=by
 induction j with
 |nil=>
  intro d rs f b;cases d with
  |cons=>simp[Gj]at f
  |nil=>simp only[SP,AAC]at b;subst b;exact⟨rfl,ak⟩
 |cons y j ih=>
  intro d rs f b;cases d with
  |nil=>simp[Gj]at f
  |cons x d=>
   simp only[Gj,AAD]at f;obtain⟨I,z⟩:=Am f.1 F;cases y with
   |c=>simp[SP]at b
   |t s=>
    simp only[SP]at b;have step:∀v o l,SP (λs=>(δ s).er) j=some l->rs=(v,o)::l->(∃bx k rows,Au (δ v) o=some (.own (a.eval x) bx k rows))->(x::d).length=rs.length/\∀(i:Nat) r p u,rs[i]? =some (r,p)->((x::d).map a.eval)[i]? =some u->∃bx k rows,Au (δ r) p=some (.own u bx k rows):=by
     rintro v o l g rfl E;obtain⟨D,g2⟩:=ih f.2 g;refine⟨by simp[D],λi r p u hi n=> ?_⟩;cases i with
     |zero=>simp only[AAt,AAC,AAQ,AAU]at hi n;obtain⟨rfl,rfl⟩:=hi;subst n;exact E
     |succ i=>exact g2 i r p u (by simpa using hi) (by simpa using n)
    split at b
    . rename_i k rows l m g;simp only[AAC]at b;obtain⟨B,hd,_⟩:=h.Xr m;exact step s [] l g b.symm ⟨true,k,B,by rw[z];simp[Au,C6];exact hd⟩
    . rename_i q p l m g;split at b
      . rename_i k rows hn;simp only[AAC]at b;obtain⟨_,_,bx,H,e,C⟩:=h.leaf m rfl;exact step q p l g b.symm ⟨bx,H,e,by rw[z];exact C⟩
      . cases b
    . cases b
def Lf.cl(a:vs.length=T.length)(b:∀(i:Nat) r p u,T[i]? =some (r,p)->vs[i]? =some u->∃bx f rows,Au (δ r) p=some (.own u bx f rows)):Lf w S δ (.cl k T) (.func (.func k) #[] vs.toArray):=
 ⟨.lf (.cl k T) _,ak,ak,.lf _ _ _ trivial (λ_ h=>h),.lf _ _ ⟨vs,rfl,a,b⟩⟩
theorem aD(h:St G w S δ Fr)(g:Rd δ a){c:ek}(f:o.op= .makeFunc (.func k) Q R)(j:Q= #[])(i:Gj R.toList c=true){v:AV}(d:valOf (.mkf k c) (λs=>(δ s).er)=some v):Gives P w S δ a o v:=by
 simp only[valOf,AAc]at d;obtain⟨rs,l,rfl⟩:=d;obtain⟨m,g2⟩:=nX h g c i l;refine⟨.func (.func k) #[] (R.toList.map a.eval).toArray,?_,Lf.cl am g2⟩;subst j;have e:R.map a.eval=(R.toList.map a.eval).toArray:=by apply ABT;simp
 simp[execOp,f,Instr.makeFunc,e]
end
variable{l:dH}{N:Array Value}
section
variable{w w':World}{S S':de}{G:Gi}{δ:dy}{Fr:dh}{P:Program}
theorem Ko{rows:List (List α)}{row:List α}{x:α}(b:∀row∈rows,row.length=k)(a:rows[i]? =some row)(d:row[n]? =some x):rows.flatten[i*k+n]? =some x:=by
 induction rows generalizing i with
 |nil=>simp at a
 |cons r rs ih=>
  have e:=b r ak;have g:=Rt b a d;cases i with
  |zero=>simp only[AAt,AAC]at a;subst a;simp only[List.flatten_cons,Nat.zero_mul,ABM];rw[AAg ah];exact d
  |succ i=>simp only[AAu]at a;simp only[List.flatten_cons];rw[AAa (by rw[e,ABF];omega),e,show(i+1)*k+n-k=i*k+n from by rw[ABF];omega];exact ih (λrow f=>b row (by simp[f])) a
theorem Dl{rows:List (List α)}(a:∀row∈rows,row.length=k):rows.flatten.length=rows.length*k:=by
 induction rows with
 |nil=>simp
 |cons r rs ih=>simp only[List.flatten_cons,AAr,AA8,a r ak,ih (λrow b=>a row (by simp[b])),ABF];omega
theorem LX(k:JQ w S row F)(n:JQ w S l U)(hd:∀x,F x->¬U x):JQ w S (row++l) (λx=>F x\/U x):=by
 induction row generalizing F with
 |nil=>have:(λx=>F x\/U x)=U:=funext λx=>propext ⟨λh=>h.elim (λh=>absurd h (k x)) id,.inr⟩;rw[this];exact n
 |cons d m ih=>
  obtain⟨i,j,o,p,f,e⟩:=k;refine⟨i,λx=>j x\/U x,o,ih p (λx c=>hd x ((e x).2 (.inr c))),?_,λx=> ?_⟩
  . rintro x c (h|h)
    . exact f x c h
    . exact hd x ((e x).2 (.inl c)) h
  . show F x\/U x↔i x\/j x\/U x;rw[e x];exact or_assoc
theorem JQ.congr(h:JQ w S l F)(a:∀x,U x↔F x):JQ w S l U:=by have:U=F:=funext λx=>propext (a x);exact this▸h
theorem qB(B:w.heap[b]? =some (.cells N t (0,0)))(e:∀row∈rows,row.length=k)(o:if bx then rows.length=1/\N.size=k else n*k=N.size/\rows.length<=n)(y:¬S b)(m:JQ w S rows.flatten F)(r:¬F b)(z:∀(c:Nat) d,rows.flatten[c]? =some d->N[c]? =some d.A0):
 Ok w S (.own (JT bx b rows.length n) bx k rows) (λx=>x=b\/F x):=by
 obtain⟨p,E,u,v,f⟩:=Je.1 m;refine .own bx k rows b n N t (λi j x=>(∃row d,rows[i]? =some row/\row[j]? =some d)/\p (i*k+j) x) _ B e o y ?_ ?_ ?_ ?_ ?_ ?_
 . intro i j row d hi a;exact z _ d (Ko e hi a)
 . intro i j row d hi a;refine(E _ d (Ko e hi a)).congr λx=>⟨λh=>h.2,λh=>⟨⟨row,d,hi,a⟩,h⟩⟩
 . rintro i j H I x ⟨⟨row,d,hi,a⟩,C⟩ ⟨⟨l,G,hi',s⟩,q⟩;exact sS (Rt e hi a) (Rt e hi' s) (u _ _ x C q)
 . rintro i j x ⟨h,_⟩;exact h
 . rintro i j ⟨_,h⟩;exact r ((f b).2 ⟨_,h⟩)
 . intro x;constructor
   . rintro(h|h)
     . exact .inl h
     . obtain⟨c,hn⟩:=(f x).1 h;obtain⟨d,hd⟩:=v c x hn;have g:c<rows.length*k:=(by rw[<- Dl e];exact(AAE.1 hd).1);have D:0<k:=(Nat.eq_zero_or_pos k).elim (λh=>by subst h;simp at g) id;have hi:c/k<rows.length:=Nat.div_lt_of_lt_mul (by rw[AA6];exact g);have a:c%k<(rows[c/k]).length:=(by rw[e _ (AAS hi)];exact Nat.mod_lt _ D);refine .inr ⟨c/k,c%k,⟨_,_,AAJ hi,AAJ a⟩,?_⟩;rw[AA6,Nat.div_add_mod];exact hn
   . rintro(h|⟨i,j,_,h⟩)
     . exact .inl h
     . exact .inr ((f x).2 ⟨_,h⟩)
theorem bB(h:Ok w S (.own v bx k rows) F):
 (v= .slice none 0 0/\bx=false/\rows=[]/\∀x,¬F x)\/
 ∃b c arr E o,v=JT bx b rows.length c/\w.heap[b]? =some (.cells arr E (0,0))/\(∀row∈rows,row.length=k)/\(if bx then rows.length=1/\arr.size=k else c*k=arr.size/\rows.length<=c)/\¬S b/\JQ w S rows.flatten o/\¬o b/\
  (∀x,F x↔x=b\/o x)/\(∀(n:Nat) d,rows.flatten[n]? =some d->arr[n]? =some d.A0):=by
 cases h with
 |nil k _ hF=>exact .inl ⟨rfl,rfl,rfl,hF⟩
 |own _ _ _ b c arr E Fs _ hb hk D3 LJ hv hr hd Bg KE hF=>
  refine .inr ⟨b,c,arr,E,λx=>∃i j,Fs i j x,rfl,hb,hk,D3,LJ,?_,λ⟨i,j,h⟩=>KE i j h,hF,?_⟩
  . refine Je.2 ⟨λn x=>n<rows.length*k/\Fs (n/k) (n%k) x,?_,?_,?_,?_⟩
    . intro n d f;have e:n<rows.length*k:=(by rw[<- Dl hk];exact(AAE.1 f).1);have m:0<k:=(Nat.eq_zero_or_pos k).elim (λh=>by subst h;simp at e) id;have hi:n/k<rows.length:=Nat.div_lt_of_lt_mul (by rw[AA6];exact e);have g:n%k<(rows[n/k]).length:=(by rw[hk _ (AAS hi)];exact Nat.mod_lt _ m);have a:=Ko hk (AAJ hi) (AAJ g);rw[AA6,Nat.div_add_mod,f]at a;obtain rfl:=AAG a;exact(hr _ _ _ _ (AAJ hi) (AAJ g)).congr λx=>⟨λh=>h.2,λh=>⟨e,h⟩⟩
    . rintro n t x ⟨a,p⟩ ⟨u,s⟩
      have:=hd _ _ _ _ x p s;rw[<- Nat.div_add_mod n k,<- Nat.div_add_mod t k,this.1,this.2]
    . rintro n x ⟨a,_⟩;exact⟨_,AAJ (by rw[Dl hk];exact a)⟩
    . intro x;constructor
      . rintro⟨i,j,h⟩;obtain⟨row,d,a,p⟩:=Bg i j x h;have l:=Rt hk a p;have hi:=(AAE.1 a).1;have m:0<k:=ah;refine⟨i*k+j,?_,?_⟩
        . calc i*k+j<i*k+k:=ah
           _=(i+1)*k:=by rw[ABF]
           _<=rows.length*k:=AAw _ hi
        . have q:(i*k+j)/k=i:=(by rw[AA6,Nat.mul_add_div m,Nat.div_eq_of_lt l];rfl);have r:(i*k+j)%k=j:=(by rw[AA6,Nat.mul_add_mod];exact Nat.mod_eq_of_lt l);rw[q,r];exact h
      . rintro⟨n,_,h⟩;exact⟨_,_,h⟩
  . intro n d f;have e:n<rows.length*k:=(by rw[<- Dl hk];exact(AAE.1 f).1);have m:0<k:=(Nat.eq_zero_or_pos k).elim (λh=>by subst h;simp at e) id;have hi:n/k<rows.length:=Nat.div_lt_of_lt_mul (by rw[AA6];exact e);have g:n%k<(rows[n/k]).length:=(by rw[hk _ (AAS hi)];exact Nat.mod_lt _ m);have a:=Ko hk (AAJ hi) (AAJ g);rw[AA6,Nat.div_add_mod,f]at a;obtain rfl:=AAG a
    have:=hv _ _ _ _ (AAJ hi) (AAJ g);rw[AA6,Nat.div_add_mod]at this;exact this
theorem Kh(h:Ok w S d F)(f:FN d.er=true):GJ d.A0=true:=by
 cases h with
 |lf a v _ ha _=>
  cases a with
  |sc u=>rw[KN,ha.1];exact ha.2
  |sl e k rows=>obtain⟨i,c,g⟩:=PD (w:=w) (S:=S) ha;rw[KN,g];rfl
  |own=>exact ha.elim
  |_=>simp[FN]at f
 |nil=>rfl
 |own bx k rows b c=>cases bx<;>simp[JT,GJ]
 |agg=>simp[FN]at f
 |BQ=>simp[FN]at f
def cellsD:DV->List DV
 | .agg cs=>cs
 |d=>[d]
theorem LR(d:DV)(b:Zn d):(cellsD d).map DV.er=cellsOf d.er:=by
 cases d with
 |agg cs=>simp[cellsD,cellsOf]
 |lf a v=>cases b with|lf _ _ h=>cases a<;>simp_all [cellsD,cellsOf,C8]
 |own=>simp[cellsD,cellsOf]
 |BQ=>simp[cellsD,cellsOf]
theorem Uj(h:GJ v=true):v.cells= #[v]:=by cases v<;>simp_all [GJ,Value.cells]
theorem LZ(h:Ok w S d F)(c:(cellsOf d.er).all FN=true):d.A0.cells=((cellsD d).map DV.A0).toArray:=by
 cases hd:d with
 |agg cs=>simp[cellsD,Value.cells]
 |lf a v=>
  subst hd;have e:=h.Kt;rw[<- LR _ e]at c;simp only[cellsD,AAU,AAm,AAy,List.all_nil,Bool.and_true]at c
  have:=Kh h c;simp only[cellsD,AAU,AAm];exact Uj this
 |own hh b k rows=>
  subst hd
  have:=Kh h (by simp[FN]);simp only[cellsD,AAU,AAm];exact Uj this
 |BQ cs=>subst hd;simp[cellsOf,FN]at c
theorem NB(h:Ok w S d F):JQ w S (cellsD d) F:=by
 have b:JQ w S [d] F:=⟨F,λ_=>False,h,λ_ h=>h,λ_ _ h=>h,λx=>ak⟩;cases d with
 |agg cs=>exact B4.1 h
 |lf a v=>exact b
 |own=>exact b
 |BQ=>exact b
theorem Ik(a:Act)(d:Nat)(v:Value)(h:d<a.tmps.size)(s:Nat):(a.put (some d) v).tmps.getD s undef=if s=d then v else a.tmps.getD s undef:=by
 simp only[Act.put,AAZ,ABB];by_cases b:d=s
 . subst b;simp[h]
 . have:¬s=d:=λe=>b e.symm;simp[b,this]
def QS(P:Program)(G:Gi)(w:World)(S:de)(Fr:dh)(a:Act)(o:Oper)(σ':Sg):Prop:=
 ∃(n:Next)(v:Value)(w':World)(S':de)(δ':dy)(F':dh),(execOp a.eval o).run P w= .ok n w'/\(n= .value v\/n= .skip/\v=undef)/\Rd δ' (a.put o.dst v)/\(λs=>(δ' s).er)=σ'/\
  St G w' S' δ' F'/\Nx w S (BJ Fr) w' S' (BJ F')
def I5(G:Gi)(a:Act)(o:Oper)(d:dD):Prop:=
 match d with
 |none=>o.dst=none
 |some d=>o.dst=some d.d/\d.kl=G.OM d.d/\d.rs=G.Gv d.d/\d.d<a.tmps.size
theorem KC{e:dh}(h:St G w S1 g e)(B:Rd g a)(hd:I5 G a o (some dst))(E:(execOp a.eval o).run P w= .ok (.value D.A0) w')(F:∀b,S1 b->w'.heap[b]? =w.heap[b]?)(C:∀s x,e s x->w'.heap[x]? =w.heap[x]?)(p:∀b,S1 b->S' b)(r:∀s x,e s x->¬S' x)(z:Ok w' S' D Ff)(c:∀s x,e s x->¬Ff x)(m:Dc g D)(q:wr dst D.er (λs=>(g s).er)=some σ')(l:Nx w S (BJ Fr) w' S' (λx=>BJ e x\/Ff x)):QS P G w S Fr a o σ':=by
 obtain⟨t,u,v,y⟩:=hd;obtain⟨f,F',i,n,k,j⟩:=h.wr u v F C p r z c m q;refine⟨_,D.A0,w',S',f,F',E,.inl rfl,?_,n,i,l.trans (Nx.less j)⟩;intro s;rw[t,Ik a dst.d D.A0 y s,k s];split
 . rfl
 . exact B s
theorem ZZ{v:AV}(h:St G w S δ Fr)(g:Rd δ a)(hd:I5 G a o (some dst))(i:Gives P w S δ a o v)(f:wr dst v (λs=>(δ s).er)=some σ'):QS P G w S Fr a o σ':=by obtain⟨u,j,D,rfl,rfl,c,e⟩:=i;exact KC h g hd j (λ_ _=>rfl) (λ_ _ _=>rfl) (λ_ h=>h) (λs x b=>(h.ok s).Et x b) c (λ_ _ _ h=>h) e f (Nx.less λx b=>b.elim id False.elim)
end
section
variable{w w':World}{S S':de}{G:Gi}{δ:dy}{Fr:dh}{P:Program}
theorem alloc_old(w:World)(o:Obj)(b:Nat)(h:b<w.heap.size):(w.alloc o).heap[b]? =w.heap[b]? :=by show(w.heap.push o)[b]? =_;rw[Array.getElem?_push,AAK ah]
theorem Zr(w:World)(o:Obj):(w.alloc o).heap[w.heap.size]? =some o:=by show(w.heap.push o)[w.heap.size]? =_;simp
theorem Nx.alloc(w:World)(S U c:de)(o:Obj)(h:∀x,c x->U x\/x=w.heap.size):Nx w S U (w.alloc o) S c:=
 ⟨rfl,rfl,rfl,ak,λb a _=>alloc_old w o b a,λ_ h=>h,λ_ h=>.inl h,λd b a=>by have:=d b a;simp;omega,λx f=>(h x f).imp id (λe=>ah)⟩
def Nx.JH{w:World}{S:de}(h:∀x,F x\/S1 x->U x)(e:∀x,S1 x->x<w.heap.size):Nx w S U w (λx=>S x\/S1 x) F:=
 ⟨rfl,rfl,rfl,AAe _,λ_ _ _=>rfl,λ_ h=>.inl h,λx c=>c.imp id λg=>.inl (h x (.inr g)),λi b f=>f.elim (i b) (e b),λx c=>.inl (h x (.inl c))⟩
theorem runs_mv(h:St G w S δ Fr)(e:Rd δ a)(hd:I5 G a o (some dst))(l:o.op= .assign x)(k:CR x y=true)(c:GO G (.mv y) (some dst) (λs=>(δ s).er)=some σ'):QS P G w S Fr a o σ':=by
 obtain⟨p,i⟩:=Am k e;simp only[GO]at c;split at c
 . rename_i v τ m;obtain⟨q,r,D,Ff,b,g,f,j⟩:=h.tk p m;subst g;subst f;exact KC b.st (λs=>(e s).trans (b.A0 s).symm) hd (by simp[execOp,l,i,j]) (λ_ _=>rfl) (λ_ _ _=>rfl) (λ_ h=>h) (λs x n=>(b.st.ok s).Et x n) b.ok b.Lu b.al c (Nx.less b.own)
 . cases c
theorem YW{l:dh}{c:Nat}{Fd:de}{arr:Array Value}{E:TypeId}(h:St G w S g l)(i:∀b,S b->b<w.heap.size)(y:Rd g a)(hd:I5 G a o (some dst))(B:(execOp a.eval o).run P w= .ok (.value (JT bx w.heap.size rows.length c)) (w.alloc (.cells arr E)))(j:JQ w S rows.flatten Fd)(t:∀s x,l s x->¬Fd x)(z:∀row∈rows,row.length=k)(u:if bx then rows.length=1/\arr.size=k else c*k=arr.size/\rows.length<=c)(C:∀(n:Nat) dst,rows.flatten[n]? =some dst->arr[n]? =some dst.A0)(v:wr dst (.own bx k (rows.map (·.map DV.er))) (λs=>(g s).er)=some σ')(q:∀x,BJ l x\/Fd x->BJ Fr x):QS P G w S Fr a o σ':=by
 have r:=(B4.2 j).lt;have m:=(B4.2 j).Et;have hold:∀b,b<w.heap.size->(w.alloc (.cells arr E)).heap[b]? =w.heap[b]? :=λb f=>alloc_old _ _ _ f;have F:Ok (w.alloc (.cells arr E)) S (.own (JT bx w.heap.size rows.length c) bx k rows) (λx=>x=w.heap.size\/Fd x):=by refine qB (Zr w _) z u (λp=>by have:=i _ p;omega) ?_ (λp=>by have:=r _ p;omega) C;exact j.mono (λb f=>hold b (i b f)) (λb f=>hold b (r b f)) (λ_ h=>h) m
 refine KC (D:=.own (JT bx w.heap.size rows.length c) bx k rows) h y hd (by simpa using B) (λb f=>hold b (i b f)) (λs x e=>hold x ((h.ok s).lt x e)) (λ_ h=>h) (λs x e=>(h.ok s).Et x e) F ?_ (.own _ _ _ _) (by simpa using v) ?_
 . rintro s x e (rfl|hf)
   . have:=(h.ok s).lt _ e;omega
   . exact t s x e hf
 . refine Nx.alloc _ _ _ _ _ ?_;rintro x (e|rfl|e)
   . exact .inl (q x (.inl e))
   . exact .inr rfl
   . exact .inl (q x (.inr e))
theorem tJ(h:St G w S δ Fr)(r:∀b,S b->b<w.heap.size)(C:Rd δ a)(hd:I5 G a o (some dst))(I:WY y)(F:(execOp a.eval o).run P w= .ok (.value (.pointer (some ⟨w.heap.size,0,none⟩))) (w.alloc (.cells (C6 δ y).cells t)))(g:GO G (.bx n y) (some dst) (λs=>(δ s).er)=some σ'):QS P G w S Fr a o σ':=by
 simp only[GO]at g;split at g
 . rename_i v τ H;split at g
   . rename_i x;obtain⟨hn,q⟩:=x;obtain⟨J,K,D,Ff,f,z,u,B⟩:=h.tk I H;subst z;subst u;have p:=LR D f.ok.Kt;have l:(cellsD D).length=n:=(by rw[<- hn,<- p];simp);have j:=LZ f.ok q;rw[B]at j;refine YW (bx:=true) (k:=n) (c:=0) (rows:=[cellsD D]) (Fd:=Ff) (arr:=(C6 δ y).cells) (E:=t) f.st r (λs=>(C s).trans (f.A0 s).symm) hd (by rw[F];simp[JT]) (by simpa using NB f.ok) f.Lu (by simpa using l) ?_ ?_ ?_ f.own
     . simp[j,l]
     . intro m e i;simp only[List.flatten_cons,List.flatten_nil,ABc]at i;simp[j,i]
     . simp only[AAU,AAm,p];exact g
   . cases g
 . cases g
theorem tH{P:Program}(t:TypeId)(v:Value)(w:World):(Instr.box t v).run P w= .ok (.pointer (some ⟨w.heap.size,0,none⟩)) (w.alloc (.cells v.cells t)):=by simp[Instr.box,newVar,newRow]
theorem yV{P:Program}(t:TypeId)(i:TypeInfo)(z:Value)(hi:P.info? t=some i)(a:i.zero=some z)(w:World):(Instr.alloc t true (.tuple #[])).run P w= .ok (.pointer (some ⟨w.heap.size,0,none⟩)) (w.alloc (.cells z.cells t)):=by simp[Instr.alloc,zeroValue,typeInfo,hi,a,newVar,newRow]
theorem Wf(off:Nat)(z:JQ w S l F)(B:JQ w S row U)(hd:∀x,F x->¬U x)(G:off+row.length<=l.length):
 ∃n,JQ w S (l.take off++row++l.drop (off+row.length)) n/\∀x,n x->F x\/U x:=by
 obtain⟨g,q,g2,s,p⟩:=Je.1 z;obtain⟨Fr,C,D,E,u⟩:=Je.1 B;have d:∀i,(l.take off++row++l.drop (off+row.length))[i]? =if i<off then l[i]? else if i<off+row.length then row[i-off]? else l[i]? :=by
  intro i;have j:(l.take off).length=off:=an
  by_cases b:i<off
  . rw[ABG,AAg ah,ABC,AAL b,AAL b]
  . by_cases c:i<off+row.length
    . rw[AAg an,AAa ah,j,AAK b,AAL c]
    . rw[AAa an,List.getElem?_drop,AAK b,AAK c];congr 1;simp;omega
 refine⟨λx=>∃i,(if i<off then g i x else if i<off+row.length then Fr (i-off) x else g i x),Je.2 ⟨λi x=>if i<off then g i x else if i<off+row.length then Fr (i-off) x else g i x,?_,?_,?_,λx=>ABb⟩,?_⟩
 . intro i e f;rw[d]at f;by_cases b:i<off
   . simp only[b,AAi]at f |-;exact q i e f
   . by_cases c:i<off+row.length
     . simp only[b,c,AAi,AAT]at f |-;exact C _ e f
     . simp only[b,c,AAT]at f |-;exact q i e f
 . intro i t x a k;have out:∀i,g i x->F x:=λi h=>(p x).2 ⟨i,h⟩;have m:∀i,Fr i x->U x:=λi h=>(u x).2 ⟨i,h⟩;by_cases b:i<off<;>by_cases c:t<off<;>by_cases v:i<off+row.length<;>by_cases y:t<off+row.length<;>simp only[b,c,v,y,AAi,AAT]at a k<;>
    first
     |exact g2 _ _ x a k
     |exact absurd (m _ k) (hd x (out _ a))
     |exact absurd (m _ a) (hd x (out _ k))
     | (have:=D _ _ x a k;omega)
     |omega
 . intro i x a;rw[d];by_cases b:i<off
   . simp only[b,AAi]at a |-;exact s i x a
   . by_cases c:i<off+row.length
     . simp only[b,c,AAi,AAT]at a |-;exact E _ x a
     . simp only[b,c,AAT]at a |-;exact s i x a
 . rintro x ⟨i,a⟩;by_cases b:i<off
   . simp only[b,AAi]at a;exact .inl ((p x).2 ⟨i,a⟩)
   . by_cases c:i<off+row.length
     . simp only[b,c,AAi,AAT]at a;exact .inr ((u x).2 ⟨_,a⟩)
     . simp only[b,c,AAT]at a;exact .inl ((p x).2 ⟨i,a⟩)
theorem qX(ds r:dH)(off:Nat):(ds.take off++r++ds.drop (off+r.length)).map DV.er=eR (ds.map DV.er) off (r.map DV.er):=by simp[eR,ABV,List.map_drop]
theorem fold_set(vs:List Value)(off:Nat)(a:Array Value)(h:off+vs.length<=a.size)(m:Nat):
 ((vs.zipIdx m).foldl (λe (x:Value×Nat)=>e.setIfInBounds (off+x.2) x.1) a).toList=a.toList.take (off+m)++vs++a.toList.drop (off+m+vs.length)\/off+m+vs.length>a.size:=by
 induction vs generalizing a m with
 |nil=>left;simp
 |cons v vs ih=>
  by_cases c:off+m+(v::vs).length>a.size
  . exact .inr c
  . left
    simp only[List.zipIdx_cons,List.foldl_cons];have b:=ih (a.setIfInBounds (off+m) v) (by simp at h |-;omega) (m+1);simp only[Array.size_setIfInBounds]at b;rcases b with b|b
    . rw[b];have d:off+m<a.toList.length:=(by simp at c |-;omega);simp only[Array.toList_setIfInBounds];rw[List.take_set,List.drop_set_of_lt ah];rw[show off+(m+1)=off+m+1 from by omega,List.take_succ_eq_append_getElem d,List.set_append_right _ _ an];simp only[List.length_take,Nat.min_eq_left (Nat.le_of_lt d),Nat.sub_self,List.set_cons_zero,ABG,AAx,AA8,List.nil_append];rw[show off+m+1+vs.length=off+m+(vs.length+1)from by omega]
    . simp at b c;omega
end
end Go.Abs
