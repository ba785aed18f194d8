/- A calculus of abstract states of Go memory, and that it is sound. -/
import Derived.Orders
import Derived.Deep.LoopGhost
import Derived.Laws.Cells
import Derived.Laws.Small
import Derived.Laws.AppendOwn
import Derived.Laws.CopyRow
import Derived.Laws.StructEq
set_option linter.unusedSimpArgs false
set_option linter.unusedVariables false
set_option linter.defProp false
namespace Go.Abs
def AA0:=@List.length_map
def AA1:=@List.map_nil
def AA2:=@Bool.or_eq_true
def AA3:=@List.map_append
def AA4:=@List.length_cons
def AA5:=@Array.getElem?_eq_some_iff
def AA6:=@List.cons_append
def AA7:=@List.getElem?_cons_zero
def AA8:=@Bool.true_and
def AA9:=@List.take_of_length_le
def AAP:=@Option.bind_some
def AAQ:=@Option.some.injEq
def AAR:=@Bool.and_eq_true
def AAS:=@List.getElem?_eq_some_iff
def AAT:=@List.getElem?_set_self
def AAU:=@Option.some.inj
def AAV:=@List.getElem?_eq_getElem
def AAW:=@List.getElem?_set_ne
def AAX:=@List.all_eq_true
def AAY:=@Bool.false_eq_true
def AAZ:=@if_neg
def AAa:=@if_pos
def AAb:=@List.getElem?_map
def AAc:=@of_decide_eq_true
def AAd:=@if_false
def AAe:=@List.mem_of_getElem?
def AAf:=@Prod.mk.injEq
def AAg:=@beq_iff_eq
def AAh:=@List.mem_append
def AAi:=@List.map_cons
def AAj:=@List.mem_singleton
def AAk:=@decide_eq_true_eq
def AAl:=@List.getElem_mem
def AAm:=@List.take_append_getElem
def AAn:=@List.contains_iff_mem
def AAo:=@Array.getD_eq_getD_getElem?
def AAp:=@List.mem_cons
def AAq:=@if_true
def AAr:=@List.getElem?_append_left
def AAs:=@List.mem_or_eq_of_mem_set
def AAt:=@Option.map_eq_some_iff
def AAu:=@List.getElem?_of_mem
def AAv:=@Nat.le_refl
def AAw:=@Option.map_some
def AAx:=@List.drop_zero
def AAy:=@List.getElem?_append_right
def AAz:=@List.length_append
def ABA:=@Bool.not_eq_true'
def ABB:=@List.append_assoc
def ABC:=@beq_self_eq_true
def ABD:=@or_false
def ABE:=@List.eq_nil_iff_forall_not_mem
def ABF:=@Nat.mul_le_mul_right
def ABG:=@List.not_mem_nil
def ABH:=@List.getElem?_cons_succ
def ABI:=@Option.isNone_iff_eq_none
def ABJ:=@List.map_set
def ABK:=@Nat.le_trans
def ABL:=@List.all_cons
def ABM:=@List.length_nil
def ABN:=@List.nil_append
def ABO:=@Int.toNat_natCast
def ABP:=@List.mem_cons_self
def ABQ:=@List.drop_eq_getElem_cons
def ABR:=@List.all_map
def ABS:=@List.eq_of_mem_replicate
def ABT:=@Nat.mul_comm
def ABU:=@Array.getElem?_setIfInBounds
def ABV:=@List.getElem?_take
def ABW:=@Nat.lt_of_lt_of_le
def ABX:=@Nat.zero_add
def ABY:=@List.mem_map_of_mem
def ABZ:=@beq_eq_false_iff_ne
def ABa:=@List.map_eq_singleton_iff
def ABb:=@List.length_replicate
def ABc:=@List.eq_nil_of_length_eq_zero
def ABd:=@List.ext_getElem?
def ABe:=@Array.ext'
def ABf:=@List.getElem?_eq_none
def ABg:=@List.length_filter_le
def ABh:=@List.map_take
def ABi:=@List.mem_map
def ABj:=@List.take_append_drop
def ABk:=@Nat.succ_mul
def ABl:=@congrArg
def ABm:=@List.mem_of_find?_eq_some
def ABn:=@or_true
def ABo:=@true_or
def ABp:=@List.mem_of_mem_take
def ABq:=@List.replicate_succ'
abbrev ABr (a:Type _):=Option a
abbrev ABs:=ByteArray
abbrev Step:=Nat×Nat×Nat
inductive AV where
 |sc (v:Value)
 |sl (x:Bool) (k:Nat) (rows:List (List AV))
 |own (b:Bool) (k:Nat) (rows:List (List AV))
 |agg (cs:List AV)
 |BI (cs:List AV)
 |al (r:Nat) (p:List Step)
 |Kn (r:Nat) (p:List Step) (i j k:Nat)
 |fp (cs:List AV)
 |dead
 |un
 |cl (f:Nat) (rs:List (Nat×List Step))
 |vb (s off:Nat) (us:List Value)
 |mG (f:Nat) (V1:List (List AV))
 deriving Inhabited
abbrev Sg:=Nat->AV
def DR {α:Type} (σ:Nat->α) (d:Nat) (v:α):Nat->α:=λs=>if s=d then v else σ s
theorem BD {a:Type} (σ:Nat->a) (d:Nat) (v:a):DR σ d v d=v:=by simp[DR]
theorem BT {a:Type} (σ:Nat->a) {d s:Nat} (v:a) (h:s≠d):DR σ d v s=σ s:=by simp[DR,h]
def sub:AV->List Step->ABr AV
 |a,[]=>some a
 | .own _ _ rows,(i,j,_)::p=>match rows[i]? with
  |some row=>match row[j]? with
   |some c=>sub c p
   |none=>none
  |none=>none
 | .agg cs,(_,j,_)::p=>match cs[j]? with
  |some c=>sub c p
  |none=>none
 | .BI cs,(_,j,_)::p=>match cs[j]? with
  |some c=>sub c p
  |none=>none
 |_,_::_=>none
def put:AV->List Step->AV->ABr AV
 |_,[],x=>some x
 | .own b k rows,(i,j,_)::p,x=>match rows[i]? with
  |some row=>match row[j]? with
   |some c=>match put c p x with
    |some c'=>some (.own b k (rows.set i (row.set j c')))
    |none=>none
   |none=>none
  |none=>none
 | .agg cs,(_,j,_)::p,x=>match cs[j]? with
  |some c=>match put c p x with
   |some c'=>some (.agg (cs.set j c'))
   |none=>none
  |none=>none
 | .BI cs,(_,j,_)::p,x=>match cs[j]? with
  |some c=>match put c p x with
   |some c'=>some (.BI (cs.set j c'))
   |none=>none
  |none=>none
 |_,_::_,_=>none
inductive DV where
 |lf (a:AV) (v:Value)
 |own (h:Value) (b:Bool) (k:Nat) (rows:List (List DV))
 |agg (cs:List DV)
 |BI (cs:List DV)
 deriving Inhabited
mutual
def DV.er:DV->AV
 | .lf a _=>a
 | .own _ b k rows=>.own b k (erR rows)
 | .agg cs=>.agg (erL cs)
 | .BI cs=>.BI (erL cs)
def erL:List DV->List AV
 |[]=>[]
 |d::r=>d.er::erL r
def erR:List (List DV)->List (List AV)
 |[]=>[]
 |d::r=>erL d::erR r
end
theorem mF (l:List DV):erL l=l.map DV.er:=by
 induction l with
 |nil=>rfl
 |cons d r ih=>simp[erL,ih]
theorem erR_eq (l:List (List DV)):erR l=l.map (·.map DV.er):=by
 induction l with
 |nil=>rfl
 |cons d r ih=>simp[erR,ih,mF]
mutual
def DV.Aw:DV->Value
 | .lf _ v=>v
 | .own h _ _ _=>h
 | .agg cs=>.agg (x7 cs).toArray
 | .BI cs=>.tuple (x7 cs).toArray
def x7:List DV->List Value
 |[]=>[]
 |d::r=>d.Aw::x7 r
end
theorem oU (l:List DV):x7 l=l.map DV.Aw:=by
 induction l with
 |nil=>rfl
 |cons d r ih=>simp[x7,ih]
@[simp]theorem EU (a:AV) (v:Value):(DV.lf a v).er=a:=by simp[DV.er]
@[simp]theorem Ee (h:Value) (b:Bool) (k:Nat) (rows:List (List DV)):(DV.own h b k rows).er= .own b k (rows.map (·.map DV.er)):=by simp[DV.er,erR_eq]
@[simp]theorem HU (a:List DV):(DV.agg a).er= .agg (a.map DV.er):=by simp[DV.er,mF]
@[simp]theorem JL (a:List DV):(DV.BI a).er= .BI (a.map DV.er):=by simp[DV.er,mF]
@[simp]theorem KP (a:AV) (v:Value):(DV.lf a v).Aw=v:=by simp[DV.Aw]
@[simp]theorem Kh (h:Value) (b:Bool) (k:Nat) (rows:List (List DV)):(DV.own h b k rows).Aw=h:=by simp[DV.Aw]
@[simp]theorem Jk (a:List DV):(DV.agg a).Aw= .agg (a.map DV.Aw).toArray:=by simp[DV.Aw,oU]
@[simp]theorem LJ (a:List DV):(DV.BI a).Aw= .tuple (a.map DV.Aw).toArray:=by simp[DV.Aw,oU]
def Aq:DV->List Step->Option DV
 |a,[]=>some a
 | .own _ _ _ rows,(i,j,_)::p=>match rows[i]? with
  |some row=>match row[j]? with
   |some c=>Aq c p
   |none=>none
  |none=>none
 | .agg cs,(_,j,_)::p=>match cs[j]? with
  |some c=>Aq c p
  |none=>none
 | .BI cs,(_,j,_)::p=>match cs[j]? with
  |some c=>Aq c p
  |none=>none
 |_,_::_=>none
def Da:DV->List Step->DV->Option DV
 |_,[],x=>some x
 | .own h b k rows,(i,j,_)::p,x=>match rows[i]? with
  |some row=>match row[j]? with
   |some c=>match Da c p x with
    |some c'=>some (.own h b k (rows.set i (row.set j c')))
    |none=>none
   |none=>none
  |none=>none
 | .agg cs,(_,j,_)::p,x=>match cs[j]? with
  |some c=>match Da c p x with
   |some c'=>some (.agg (cs.set j c'))
   |none=>none
  |none=>none
 | .BI cs,(_,j,_)::p,x=>match cs[j]? with
  |some c=>match Da c p x with
   |some c'=>some (.BI (cs.set j c'))
   |none=>none
  |none=>none
 |_,_::_,_=>none
def C0:AV->Bool
 | .own .. | .agg _| .BI _=>false
 |_=>true
inductive ZU:DV->Prop
 |lf (a v) (h:C0 a=true):ZU (.lf a v)
 |own (h b k rows) (hr:∀(i j:Nat) row d,rows[i]? =some row->row[j]? =some d->ZU d):ZU (.own h b k rows)
 |agg (cs) (hr:∀(i:Nat) d,cs[i]? =some d->ZU d):ZU (.agg cs)
 |BI (cs) (hr:∀(i:Nat) d,cs[i]? =some d->ZU d):ZU (.BI cs)
theorem ZU.Aq {d x:DV} {p:List Step} (h:ZU d) (e:Aq d p=some x):ZU x:=by
 induction p generalizing d with
 |nil=>simp only[Abs.Aq,Option.some.injEq]at e;exact e▸h
 |cons s p ih=>
  obtain⟨i,j,k⟩:=s;cases h with
  |lf a v h=>simp[Abs.Aq]at e
  |own hh b k' rows hr=>
   simp only[Abs.Aq]at e;split at e
   . split at e
     . rename_i g l _ c f;exact ih (hr i j g c l f) e
     . cases e
   . cases e
  |agg cs hr=>
   simp only[Abs.Aq]at e;split at e
   . rename_i c f;exact ih (hr j c f) e
   . cases e
  |BI cs hr=>
   simp only[Abs.Aq]at e;split at e
   . rename_i c f;exact ih (hr j c f) e
   . cases e
theorem Dj {d:DV} {p:List Step} {a:AV} (h:ZU d) (e:sub d.er p=some a):∃x,Aq d p=some x/\x.er=a:=by
 induction p generalizing d with
 |nil=>simp only[sub,Option.some.injEq]at e;exact⟨d,rfl,e⟩
 |cons s p ih=>
  obtain⟨i,j,k⟩:=s;cases h with
  |lf b v h=>cases b<;>simp_all [sub,C0]
  |own hh b k' rows hr=>
   simp only[Ee,sub,List.getElem?_map]at e;cases hi:rows[i]? with
   |none=>simp[hi]at e
   |some row=>
    simp only[hi,Option.map_some,List.getElem?_map]at e;cases hj:row[j]? with
    |none=>simp[hj]at e
    |some c=>simp only[hj,Option.map_some]at e;obtain⟨x,g,f⟩:=ih (hr i j row c hi hj) e;exact⟨x,by simp[Aq,hi,hj,g],f⟩
  |agg cs hr=>
   simp only[HU,sub,List.getElem?_map]at e;cases hj:cs[j]? with
   |none=>simp[hj]at e
   |some c=>simp only[hj,Option.map_some]at e;obtain⟨x,g,f⟩:=ih (hr j c hj) e;exact⟨x,by simp[Aq,hj,g],f⟩
  |BI cs hr=>
   simp only[JL,sub,List.getElem?_map]at e;cases hj:cs[j]? with
   |none=>simp[hj]at e
   |some c=>simp only[hj,Option.map_some]at e;obtain⟨x,g,f⟩:=ih (hr j c hj) e;exact⟨x,by simp[Aq,hj,g],f⟩
theorem HA {d:DV} {p:List Step} {a:AV} (x:DV) (h:ZU d) (e:put d.er p x.er=some a):∃t,Da d p x=some t/\t.er=a:=by
 induction p generalizing d a with
 |nil=>simp only[put,Option.some.injEq]at e;exact⟨x,rfl,e⟩
 |cons s p ih=>
  obtain⟨i,j,k⟩:=s;cases h with
  |lf b v h=>cases b<;>simp_all [put,C0]
  |own hh b k' rows hr=>
   simp only[Ee,put,List.getElem?_map]at e;cases hi:rows[i]? with
   |none=>simp[hi]at e
   |some row=>
    simp only[hi,Option.map_some,List.getElem?_map]at e;cases hj:row[j]? with
    |none=>simp[hj]at e
    |some c=>
     simp only[hj,Option.map_some]at e;cases hp:put c.er p x.er with
     |none=>simp[hp]at e
     |some c'=>simp only[hp,Option.some.injEq]at e;obtain⟨t,g,f⟩:=ih (hr i j row c hi hj) hp;refine⟨.own hh b k' (rows.set i (row.set j t)),by simp[Da,hi,hj,g],?_⟩;rw[← e,← f];simp[List.map_set]
  |agg cs hr=>
   simp only[HU,put,List.getElem?_map]at e;cases hj:cs[j]? with
   |none=>simp[hj]at e
   |some c=>
    simp only[hj,Option.map_some]at e;cases hp:put c.er p x.er with
    |none=>simp[hp]at e
    |some c'=>simp only[hp,Option.some.injEq]at e;obtain⟨t,g,f⟩:=ih (hr j c hj) hp;refine⟨.agg (cs.set j t),by simp[Da,hj,g],?_⟩;rw[← e,← f];simp[List.map_set]
  |BI cs hr=>
   simp only[JL,put,List.getElem?_map]at e;cases hj:cs[j]? with
   |none=>simp[hj]at e
   |some c=>
    simp only[hj,Option.map_some]at e;cases hp:put c.er p x.er with
    |none=>simp[hp]at e
    |some c'=>simp only[hp,Option.some.injEq]at e;obtain⟨t,g,f⟩:=ih (hr j c hj) hp;refine⟨.BI (cs.set j t),by simp[Da,hj,g],?_⟩;rw[← e,← f];simp[List.map_set]
end Go.Abs
namespace Go.Abs
def GM:Value->Bool
 | .agg _| .tuple _=>false
 |_=>true
def JW (bx:Bool) (b n c:Nat):Value:=if bx then .pointer (some ⟨b,0,none⟩)else .slice (some ⟨b,0,none⟩) n c
inductive Fz (w:World) (S:Nat->Prop):AV->Value->Prop
 |sc (v:Value) (hp:GM v=true):Fz w S (.sc v) v
 |dead (v:Value):Fz w S .dead v
 |nil (x:Bool) (k:Nat) (a:ABr Addr) (c:Nat) (hx:x=true->c=0):Fz w S (.sl x k []) (.slice a 0 c)
 |sl (x:Bool) (k:Nat) (rows:List (List AV)) (b off c:Nat) (vs:Nat->Nat->Value) (hx:x=true->c=rows.length) (QS:rows.length≤c) (hS:S b)
  (hk:∀row∈rows,row.length=k)
  (hc:∀i j row a,rows[i]? =some row->row[j]? =some a->w.cell? ⟨b,off+(i*k+j),none⟩=some (vs i j))
  (hr:∀i j row a,rows[i]? =some row->row[j]? =some a->Fz w S a (vs i j)):Fz w S (.sl x k rows) (.slice (some ⟨b,off,none⟩) rows.length c)
 |agg (cs:List AV) (vs:List Value) (hs:vs.length=cs.length) (h:∀(i:Nat) a v,cs[i]? =some a->vs[i]? =some v->Fz w S a v):Fz w S (.agg cs) (.agg vs.toArray)
 |BI (cs:List AV) (vs:List Value) (hs:vs.length=cs.length) (h:∀(i:Nat) a v,cs[i]? =some a->vs[i]? =some v->Fz w S a v):Fz w S (.BI cs) (.tuple vs.toArray)
theorem Fz.mono {w w':World} {S S':Nat->Prop} {a:AV} {v:Value} (h:Fz w S a v) (l:∀b,S b->w'.heap[b]? =w.heap[b]?) (g:∀b,S b->S' b):Fz w' S' a v:=by
 induction h with
 |sc v hp=>exact .sc v hp
 |dead v=>exact .dead v
 |nil x k a c hx=>exact .nil x k a c hx
 |sl x k rows b off c vs hx QS hb hk hc hr ih=>refine .sl x k rows b off c vs hx QS (g b hb) hk (λi j d a e f=> ?_) (λi j d a e f=>ih i j d a e f);rw[← hc i j d a e f];simp only[World.cell?,l b hb]
 |agg cs vs hs h ih=>exact .agg cs vs hs ih
 |BI cs vs hs h ih=>exact .BI cs vs hs ih
def xN (w:World) (S:Nat->Prop) (cs:List AV) (v:Value):Prop:=∃b off,v= .pointer (some ⟨b,off,none⟩)/\S b/\∀(j:Nat) a,cs[j]? =some a->∃u,w.cell? ⟨b,off+j,none⟩=some u/\Fz w S a u
theorem xN.mono {w w':World} {S S':Nat->Prop} {c:List AV} {v:Value} (h:xN w S c v) (f:∀b,S b->w'.heap[b]? =w.heap[b]?) (d:∀b,S b->S' b):xN w' S' c v:=by obtain⟨b,off,rfl,e,g⟩:=h;refine⟨b,off,rfl,d b e,λj a k=> ?_⟩;obtain⟨u,l,i⟩:=g j a k;refine⟨u,?_,i.mono f d⟩;rw[← l];simp only[World.cell?,f b e]
def Hg (w:World) (S:Nat->Prop):AV->Value->Prop
 | .sc u,v=>v=u/\GM u=true
 | .sl x k rows,v=>Fz w S (.sl x k rows) v
 | .fp cs,v=>∃b off,v= .pointer (some ⟨b,off,none⟩)/\S b/\∀(j:Nat) a,cs[j]? =some a->∃u,w.cell? ⟨b,off+j,none⟩=some u/\Fz w S a u
 | .un,v=>v=undef
 | .al ..,_=>True
 | .Kn ..,_=>True
 | .dead,_=>True
 | .cl ..,_=>True
 | .mG f V1,v=>∃vs:List Value,v= .func (.func f) #[] vs.toArray/\vs.length=V1.length/\∀(i:Nat) cs u,V1[i]? =some cs->vs[i]? =some u->xN w S cs u
 | .vb _ off us,v=>∃b,v= .pointer (some ⟨b,off,none⟩)/\S b/\∀(j:Nat) u,us[j]? =some u->w.cell? ⟨b,j,none⟩=some u
 |_,_=>False
theorem Hg.C0 {w:World} {S:Nat->Prop} {a:AV} {v:Value} (h:Hg w S a v):C0 a=true:=by cases a<;>simp_all [Hg,Abs.C0]
theorem Hg.mono {w w':World} {S S':Nat->Prop} {a:AV} {v:Value} (h:Hg w S a v) (e:∀b,S b->w'.heap[b]? =w.heap[b]?) (c:∀b,S b->S' b):Hg w' S' a v:=by
 cases a with
 |sl x k rows=>exact Fz.mono h e c
 |fp n=>obtain⟨b,off,rfl,d,g⟩:=h;refine⟨b,off,rfl,c b d,λj a l=> ?_⟩;obtain⟨u,m,r⟩:=g j a l;refine⟨u,?_,r.mono e c⟩;rw[← m];simp only[World.cell?,e b d]
 |sc u=>exact h
 |own=>exact h
 |agg=>exact h
 |BI=>exact h
 |al=>exact h
 |Kn=>exact h
 |dead=>exact h
 |un=>exact h
 |cl=>exact h
 |mG f V1=>obtain⟨vs,o,p,q⟩:=h;exact⟨vs,o,p,λi n u hi m=>(q i n u hi m).mono e c⟩
 |vb s off us=>obtain⟨b,rfl,d,g⟩:=h;refine⟨b,rfl,c b d,λj u l=> ?_⟩;rw[← g j u l];simp only[World.cell?,e b d]
inductive Ok (w:World) (S:Nat->Prop):DV->(Nat->Prop)->Prop
 |lf (a:AV) (v:Value) (F:Nat->Prop) (ha:Hg w S a v) (hF:∀x,¬F x):Ok w S (.lf a v) F
 |nil (k:Nat) (F:Nat->Prop) (hF:∀x,¬F x):Ok w S (.own (.slice none 0 0) false k []) F
 |own (bx:Bool) (k:Nat) (rows:List (List DV)) (b c:Nat) (arr:Array Value) (E:TypeId) (Fs:Nat->Nat->Nat->Prop) (F:Nat->Prop)
  (hb:w.heap[b]? =some (.cells arr E (0,0))) (hk:∀row∈rows,row.length=k)
  (Dv:if bx then rows.length=1/\arr.size=k else c*k=arr.size/\rows.length≤c) (hS:¬S b)
  (hv:∀(i j:Nat) row d,rows[i]? =some row->row[j]? =some d->arr[i*k+j]? =some d.Aw)
  (hr:∀(i j:Nat) row d,rows[i]? =some row->row[j]? =some d->Ok w S d (Fs i j))
  (hd:∀i j i' j' x,Fs i j x->Fs i' j' x->i=i'/\j=j')
  (Ba:∀i j x,Fs i j x->∃row d,rows[i]? =some row/\row[j]? =some d) (KG:∀i j,¬Fs i j b)
  (hF:∀x,F x↔x=b∨∃i j,Fs i j x):Ok w S (.own (JW bx b rows.length c) bx k rows) F
 |agg (cs:List DV) (Fs:Nat->Nat->Prop) (F:Nat->Prop) (hr:∀(i:Nat) d,cs[i]? =some d->Ok w S d (Fs i))
  (hd:∀i i' x,Fs i x->Fs i' x->i=i') (Ba:∀i x,Fs i x->∃d,cs[i]? =some d) (hF:∀x,F x↔∃i,Fs i x):Ok w S (.agg cs) F
 |BI (cs:List DV) (Fs:Nat->Nat->Prop) (F:Nat->Prop) (hr:∀(i:Nat) d,cs[i]? =some d->Ok w S d (Fs i))
  (hd:∀i i' x,Fs i x->Fs i' x->i=i') (Ba:∀i x,Fs i x->∃d,cs[i]? =some d) (hF:∀x,F x↔∃i,Fs i x):Ok w S (.BI cs) F
variable {w w':World} {S S':Nat->Prop} {d:DV} {F F':Nat->Prop}
theorem Ok.Kw (h:Ok w S d F):ZU d:=by
 induction h with
 |lf a v F ha hF=>exact .lf a v ha.C0
 |nil k F hF=>exact .own _ _ _ _ (by simp)
 |own bx k rows b c arr E Fs F hb hk Dv hS hv hr hd Ba KG hF ih=>exact .own _ _ _ _ ih
 |agg cs Fs F hr hd Ba hF ih=>exact .agg cs ih
 |BI cs Fs F hr hd Ba hF ih=>exact .BI cs ih
theorem Ok.Et (h:Ok w S d F):∀x,F x->¬S x:=by
 induction h with
 |lf a v F ha hF=>exactλx e=>absurd e (hF x)
 |nil k F hF=>exactλx e=>absurd e (hF x)
 |own bx k rows b c arr E Fs F hb hk Dv hS hv hr hd Ba KG hF ih=>
  intro x e;rcases(hF x).1 e with rfl|⟨i,j,h⟩
  . exact hS
  . obtain⟨g,d,f,l⟩:=Ba i j x h;exact ih i j g d f l x h
 |agg cs Fs F hr hd Ba hF ih=>intro x e;obtain⟨i,h⟩:=(hF x).1 e;obtain⟨d,f⟩:=Ba i x h;exact ih i d f x h
 |BI cs Fs F hr hd Ba hF ih=>intro x e;obtain⟨i,h⟩:=(hF x).1 e;obtain⟨d,f⟩:=Ba i x h;exact ih i d f x h
theorem Ok.lt (h:Ok w S d F):∀x,F x->x<w.heap.size:=by
 induction h with
 |lf a v F ha hF=>exactλx e=>absurd e (hF x)
 |nil k F hF=>exactλx e=>absurd e (hF x)
 |own bx k rows b c arr E Fs F hb hk Dv hS hv hr hd Ba KG hF ih=>
  intro x e;rcases(hF x).1 e with rfl|⟨i,j,h⟩
  . exact(AA5.1 hb).1
  . obtain⟨g,d,f,l⟩:=Ba i j x h;exact ih i j g d f l x h
 |agg cs Fs F hr hd Ba hF ih=>intro x e;obtain⟨i,h⟩:=(hF x).1 e;obtain⟨d,f⟩:=Ba i x h;exact ih i d f x h
 |BI cs Fs F hr hd Ba hF ih=>intro x e;obtain⟨i,h⟩:=(hF x).1 e;obtain⟨d,f⟩:=Ba i x h;exact ih i d f x h
theorem Ok.congr (h:Ok w S d F) (a:∀x,F' x↔F x):Ok w S d F':=by have:F'=F:=funext λx=>propext (a x);exact this▸h
theorem Ok.mono (h:Ok w S d F) (o:∀b,S b->w'.heap[b]? =w.heap[b]?) (g:∀b,F b->w'.heap[b]? =w.heap[b]?) (n:∀b,S b->S' b) (hn:∀x,F x->¬S' x):Ok w' S' d F:=by
 induction h with
 |lf a v F ha hF=>exact .lf a v F (ha.mono o n) hF
 |nil k F hF=>exact .nil k F hF
 |own bx k rows b c arr E Fs F hb hk Dv LO hv hr hd Ba KG hF ih=>
  refine .own bx k rows b c arr E Fs F ?_ hk Dv (hn b ((hF b).2 (.inl rfl))) hv (λi j l d f m=>ih i j l d f m ?_ ?_) hd Ba KG hF
  . rw[g b ((hF b).2 (.inl rfl))];exact hb
  . exactλx e=>g x ((hF x).2 (.inr ⟨i,j,e⟩))
  . exactλx e=>hn x ((hF x).2 (.inr ⟨i,j,e⟩))
 |agg cs Fs F hr hd Ba hF ih=>exact .agg cs Fs F (λi d f=>ih i d f (λx e=>g x ((hF x).2 ⟨i,e⟩)) (λx e=>hn x ((hF x).2 ⟨i,e⟩))) hd Ba hF
 |BI cs Fs F hr hd Ba hF ih=>exact .BI cs Fs F (λi d f=>ih i d f (λx e=>g x ((hF x).2 ⟨i,e⟩)) (λx e=>hn x ((hF x).2 ⟨i,e⟩))) hd Ba hF
theorem Ok.Aq {x:DV} {p:List Step} (h:Ok w S d F) (f:Aq d p=some x):∃F',Ok w S x F'/\∀y,F' y->F y:=by
 induction p generalizing d F with
 |nil=>simp only[Abs.Aq,AAQ]at f;exact⟨F,f▸h,λ_ h=>h⟩
 |cons s p ih=>
  obtain⟨i,j,k⟩:=s;cases h with
  |lf a v _ ha hF=>simp[Abs.Aq]at f
  |nil k _ hF=>simp[Abs.Aq]at f
  |own bx k rows b c arr E Fs _ hb hk Dv LO hv hr hd Ba KG hF=>
   simp only[Abs.Aq]at f;split at f
   . split at f
     . rename_i o q _ e m;obtain⟨F',g,l⟩:=ih (hr i j o e q m) f;exact⟨F',g,λy n=>(hF y).2 (.inr ⟨i,j,l y n⟩)⟩
     . cases f
   . cases f
  |agg cs Fs _ hr hd Ba hF=>
   simp only[Abs.Aq]at f;split at f
   . rename_i e m;obtain⟨F',g,l⟩:=ih (hr j e m) f;exact⟨F',g,λy n=>(hF y).2 ⟨j,l y n⟩⟩
   . cases f
  |BI cs Fs _ hr hd Ba hF=>
   simp only[Abs.Aq]at f;split at f
   . rename_i e m;obtain⟨F',g,l⟩:=ih (hr j e m) f;exact⟨F',g,λy n=>(hF y).2 ⟨j,l y n⟩⟩
   . cases f
mutual
def JM:AV->AV
 | .own false k rows=>.sl false k (Oe rows)
 | .own true _ _=>.dead
 | .agg cs=>.agg (Yt cs)
 | .BI cs=>.BI (Yt cs)
 | .sc v=>.sc v
 | .sl x k rows=>.sl x k rows
 |_=>.dead
def Yt:List AV->List AV
 |[]=>[]
 |a::r=>JM a::Yt r
def Oe:List (List AV)->List (List AV)
 |[]=>[]
 |a::r=>Yt a::Oe r
end
theorem V4 (l:List AV):Yt l=l.map JM:=by
 induction l with
 |nil=>rfl
 |cons d r ih=>simp[Yt,ih]
theorem V5 (l:List (List AV)):Oe l=l.map (·.map JM):=by
 induction l with
 |nil=>rfl
 |cons d r ih=>simp[Oe,ih,V4]
@[simp]theorem Nj (k:Nat) (rows:List (List AV)):JM (.own false k rows)= .sl false k (rows.map (·.map JM)):=by simp[JM,V5]
@[simp]theorem pU (k:Nat) (rows:List (List AV)):JM (.own true k rows)= .dead:=by simp[JM]
@[simp]theorem pS (a:List AV):JM (.agg a)= .agg (a.map JM):=by simp[JM,V4]
@[simp]theorem pV (a:List AV):JM (.BI a)= .BI (a.map JM):=by simp[JM,V4]
@[simp]theorem frz_sc (v:Value):JM (.sc v)= .sc v:=by simp[JM]
@[simp]theorem AAE (x:Bool) (k:Nat) (rows:List (List AV)):JM (.sl x k rows)= .sl x k rows:=by simp[JM]
theorem AAD {a:AV} {v:Value} (h:Hg w S a v):Fz w S (JM a) v:=by
 cases a with
 |sc u=>obtain⟨rfl,b⟩:=h;simpa using Fz.sc v b
 |sl x k rows=>rw[AAE];exact h
 |_=>first|exact h.elim| (simp only[JM];exact .dead v)
theorem Ok.freeze (h:Ok w S d F):Fz w (λx=>S x∨F x) (JM d.er) d.Aw:=by
 induction h with
 |lf a v F ha hF=>simp only[EU,KP];exact(AAD ha).mono (λ_ _=>rfl) (λ_ h=>.inl h)
 |nil k F hF=>simpa using Fz.nil false k none 0 (by simp)
 |own bx k rows b c arr E Fs F hb hk Dv LO hv hr hd Ba KG hF ih=>
  cases bx with
  |true=>simp only[Ee,pU];exact .dead _
  |false=>
   simp only[Ee,Nj,Kh,JW,List.map_map];have g:((rows.map ((λx=>x.map JM) ∘ λx=>x.map DV.er))).length=rows.length:=(by simp);rw[show(Value.slice (some ⟨b,0,none⟩) rows.length c)=Value.slice (some ⟨b,0,none⟩) (rows.map ((λx=>x.map JM) ∘ λx=>x.map DV.er)).length c from by rw[g]];refine Fz.sl false k _ b 0 c (λi j=>(arr[i*k+j]?).getD undef) (by simp) (by rw[g];simp at Dv;exact Dv.2) (.inr ((hF b).2 (.inl rfl))) ?_ ?_ ?_
   . intro n q;obtain⟨m,l,rfl⟩:=List.mem_map.1 q;simpa using hk m l
   . intro i j n a e f;simp only[List.getElem?_map,Option.map_eq_some_iff]at e;obtain⟨m,l,rfl⟩:=e;simp only[Function.comp,List.map_map,List.getElem?_map,Option.map_eq_some_iff]at f;obtain⟨d0,o,rfl⟩:=f;simp[World.cell?,hb,hv i j m d0 l o]
   . intro i j n a e f;simp only[List.getElem?_map,Option.map_eq_some_iff]at e;obtain⟨m,l,rfl⟩:=e;simp only[Function.comp,List.map_map,List.getElem?_map,Option.map_eq_some_iff]at f;obtain⟨d0,o,rfl⟩:=f;simp only[hv i j m d0 l o,Option.getD_some];refine(ih i j m d0 l o).mono (λ_ _=>rfl) ?_;rintro x (h|h)
     . exact .inl h
     . exact .inr ((hF x).2 (.inr ⟨i,j,h⟩))
 |agg cs Fs F hr hd Ba hF ih=>
  simp only[HU,pS,Jk];refine Fz.agg _ _ (by simp) ?_;intro i a v e f;simp only[List.map_map,List.getElem?_map,Option.map_eq_some_iff]at e f;obtain⟨d1,e,rfl⟩:=e;obtain⟨p,f,rfl⟩:=f;obtain rfl:d1=p:=by rw[e]at f;exact Option.some.inj f
  refine(ih i d1 e).mono (λ_ _=>rfl) ?_;rintro x (h|h)
  . exact .inl h
  . exact .inr ((hF x).2 ⟨i,h⟩)
 |BI cs Fs F hr hd Ba hF ih=>
  simp only[JL,pV,LJ];refine Fz.BI _ _ (by simp) ?_;intro i a v e f;simp only[List.map_map,List.getElem?_map,Option.map_eq_some_iff]at e f;obtain⟨d1,e,rfl⟩:=e;obtain⟨p,f,rfl⟩:=f;obtain rfl:d1=p:=by rw[e]at f;exact Option.some.inj f
  refine(ih i d1 e).mono (λ_ _=>rfl) ?_;rintro x (h|h)
  . exact .inl h
  . exact .inr ((hF x).2 ⟨i,h⟩)
end Go.Abs
namespace Go.Abs
variable {w w':World} {S S':Nat->Prop} {d:DV} {F F':Nat->Prop}
def Sd:Value->ABr Nat
 | .slice (some a) _ _=>some a.block
 | .pointer (some a)=>some a.block
 |_=>none
@[simp]theorem XD (bx:Bool) (b n c:Nat):Sd (JW bx b n c)=some b:=by cases bx<;>rfl
theorem qG {k i j a b:Nat} (l:j<k) (c:b<k) (h:i*k+j=a*k+b):i=a/\j=b:=by
 have d:0<k:=by omega
 have e:(i*k+j)/k=i:=by rw[ABT,Nat.mul_add_div d,Nat.div_eq_of_lt l];rfl
 have f:(a*k+b)/k=a:=by rw[ABT,Nat.mul_add_div d,Nat.div_eq_of_lt c];rfl
 have g:i=a:=by rw[← e,← f,h]
 subst g;exact⟨rfl,by omega⟩
theorem Qz (w:World) (b o:Nat) (v:Value) (arr:Array Value) (E:TypeId) (fz:Nat×Nat) (a:w.heap[b]? =some (.cells arr E fz)):
 (w.setCell ⟨b,o,none⟩ v).heap[b]? =some (.cells (arr.setIfInBounds o v) E fz):=by
 simp[World.setCell,Array.getElem?_modify,a]
theorem DC (w:World) (b o x:Nat) (v:Value) (h:x≠b):(w.setCell ⟨b,o,none⟩ v).heap[x]? =w.heap[x]? :=by simp only[World.setCell,Array.getElem?_modify];rw[AAZ (by omega)]
theorem Rl {b:Type} {rows:List (List b)} {k i j:Nat} {a:List b} {x:b} (e:∀a∈rows,a.length=k) (c:rows[i]? =some a) (d:a[j]? =some x):j<k:=by
 have:=e a (AAe c)
 have:=(AAS.1 d).1;omega
theorem Ok.store {new:DV} {Fn:Nat->Prop} {k i j:Nat} {bx:Bool} {rows:List (List DV)} {u:List DV} {X:DV} {K:Value} {b:Nat} (p:List Step)
 (h:Ok w S d F) (z:Abs.Aq d p=some (.own K bx k rows)) (L:rows[i]? =some u) (Z:u[j]? =some X) (hb:Sd K=some b)
 (hn:Ok (w.setCell ⟨b,i*k+j,none⟩ new.Aw) S new Fn) (G:∀x,Fn x->¬F x):
 ∃t F',Da d (p++[(i,j,k)]) new=some t/\Ok (w.setCell ⟨b,i*k+j,none⟩ new.Aw) S t F'/\(∀x,F' x->F x∨Fn x)/\t.Aw=d.Aw/\F b:=by
 induction p generalizing d F with
 |nil=>
  simp only[Abs.Aq,AAQ]at z;subst z;generalize hvv:K=mY at h;cases h with
  |nil k _ hF=>simp at L
  |own _ _ _ b' c arr E Fs _ p5 hk Dv LO K hr hd Ba KG hF=>
   subst hvv;simp only[XD,AAQ]at hb;subst hb;have hjk:=Rl hk L Z;have J:=(AAS.1 L).1;have D:=(AAS.1 Z).1;have Ul:i*k+j<arr.size:=(by have:=K i j u X L Z;exact(AA5.1 this).1);refine⟨.own (JW bx b' rows.length c) bx k (rows.set i (u.set j new)),λx=>x=b'∨∃g o,(if g=i/\o=j then Fn else Fs g o) x,?_,?_,?_,by simp,(hF b').2 (.inl rfl)⟩
   . simp[Da,L,Z]
   . rw[show(JW bx b' rows.length c)=JW bx b' (rows.set i (u.set j new)).length c from by simp];refine Ok.own bx k _ b' c (arr.setIfInBounds (i*k+j) new.Aw) E (λg o=>if g=i/\o=j then Fn else Fs g o) _ (Qz _ _ _ _ _ _ _ p5) ?_ ?_ LO ?_ ?_ ?_ ?_ ?_ (λx=>Iff.rfl)
     . intro r Yd;rcases AAs Yd with h|rfl
       . exact hk r h
       . simp[hk u (AAe L)]
     . simpa using Dv
     . intro g o r e m l;by_cases hi:g=i
       . subst hi;rw[AAT J]at m;obtain rfl:=AAU m;by_cases Q:o=j
         . subst Q;rw[AAT D]at l;obtain rfl:=AAU l;simp[Ul]
         . rw[AAW (by omega)]at l;rw[Array.getElem?_setIfInBounds_ne (by have:=Rl hk L l;omega)];exact K g o u e L l
       . rw[AAW (by omega)]at m;rw[Array.getElem?_setIfInBounds_ne]
         . exact K g o r e m l
         . intro he;exact hi (qG (Rl hk m l) hjk he.symm).1
     . intro g o r e m l;by_cases y:g=i/\o=j
       . obtain⟨rfl,rfl⟩:=y;rw[AAT J]at m;obtain rfl:=AAU m;rw[AAT D]at l;obtain rfl:=AAU l;simpa using hn
       . simp only[y,AAd];have C:Ok w S e (Fs g o):=by
          by_cases hi:g=i
          . subst hi;have Q:o≠j:=λe=>y ⟨rfl,e⟩;rw[AAT J]at m;obtain rfl:=AAU m;rw[AAW (by omega)]at l;exact hr g o u e L l
          . rw[AAW (by omega)]at m;exact hr g o r e m l
         refine C.mono (λx f=>DC _ _ _ _ _ ?_) (λx f=>DC _ _ _ _ _ ?_) (λ_ h=>h) C.Et
         . rintro rfl;exact LO f
         . rintro rfl;exact KG _ _ f
     . intro i1 j1 i2 j2 x f q;split at f<;>split at q
       . rename_i a b;omega
       . exact absurd ((hF x).2 (.inr ⟨i2,j2,q⟩)) (G x f)
       . exact absurd ((hF x).2 (.inr ⟨i1,j1,f⟩)) (G x q)
       . exact hd _ _ _ _ x f q
     . intro i1 j1 x f;split at f
       . rename_i y;obtain⟨rfl,rfl⟩:=y;exact⟨_,new,AAT J,AAT D⟩
       . obtain⟨r,e,m,l⟩:=Ba i1 j1 x f;by_cases hi:i1=i
         . subst hi;rename_i U;have Q:j1≠j:=λe=>U ⟨rfl,e⟩;obtain rfl:u=r:=(by rw[L]at m;exact AAU m);exact⟨_,e,AAT J,by rw[AAW (by omega)];exact l⟩
         . exact⟨r,e,by rw[AAW (by omega)];exact m,l⟩
     . intro i1 j1 f;split at f
       . exact G b' f ((hF b').2 (.inl rfl))
       . exact KG _ _ f
   . rintro x (rfl|⟨i1,j1,f⟩)
     . exact .inl ((hF x).2 (.inl rfl))
     . split at f
       . exact .inr f
       . exact .inl ((hF x).2 (.inr ⟨i1,j1,f⟩))
 |cons s p ih=>
  obtain⟨i0,j0,k0⟩:=s;cases h with
  |lf a v _ ha hF=>simp[Abs.Aq]at z
  |nil k _ hF=>simp[Abs.Aq]at z
  |own zE k1 K2 b0 c arr E Fs _ p5 hk Dv LO K hr hd Ba KG hF=>
   simp only[Abs.Aq]at z;split at z
   . split at z
     . rename_i N M _ O B;obtain⟨t,P,W,R,H,T,I⟩:=ih (hr i0 j0 N O M B) z (λx f V=>G x f ((hF x).2 (.inr ⟨i0,j0,V⟩)));have U:b0≠b:=(by rintro rfl;exact KG _ _ I);have J:=(AAS.1 M).1;have D:=(AAS.1 B).1;refine⟨.own (JW zE b0 K2.length c) zE k1 (K2.set i0 (N.set j0 t)),λx=>x=b0∨∃g o,(if g=i0/\o=j0 then P else Fs g o) x,?_,?_,?_,by simp,(hF b).2 (.inr ⟨i0,j0,I⟩)⟩
       . simp[Da,M,B,W]
       . rw[show(JW zE b0 K2.length c)=JW zE b0 (K2.set i0 (N.set j0 t)).length c from by simp];refine Ok.own zE k1 _ b0 c arr E (λg o=>if g=i0/\o=j0 then P else Fs g o) _ (by rw[DC _ _ _ _ _ U];exact p5) ?_ (by simpa using Dv) LO ?_ ?_ ?_ ?_ ?_ (λx=>Iff.rfl)
         . intro r Yd;rcases AAs Yd with h|rfl
           . exact hk r h
           . simp[hk N (AAe M)]
         . intro g o r e m l;by_cases hi:g=i0
           . subst hi;rw[AAT J]at m;obtain rfl:=AAU m;by_cases Q:o=j0
             . subst Q;rw[AAT D]at l;obtain rfl:=AAU l;rw[T];exact K g o N O M B
             . rw[AAW (by omega)]at l;exact K g o N e M l
           . rw[AAW (by omega)]at m;exact K g o r e m l
         . intro g o r e m l;by_cases y:g=i0/\o=j0
           . obtain⟨rfl,rfl⟩:=y;rw[AAT J]at m;obtain rfl:=AAU m;rw[AAT D]at l;obtain rfl:=AAU l;simpa using R
           . simp only[y,AAd];have C:Ok w S e (Fs g o):=by
              by_cases hi:g=i0
              . subst hi;have Q:o≠j0:=λe=>y ⟨rfl,e⟩;rw[AAT J]at m;obtain rfl:=AAU m;rw[AAW (by omega)]at l;exact hr g o N e M l
              . rw[AAW (by omega)]at m;exact hr g o r e m l
             refine C.mono (λx f=>DC _ _ _ _ _ ?_) (λx f=>DC _ _ _ _ _ ?_) (λ_ h=>h) C.Et
             . rintro rfl;exact(hr i0 j0 N O M B).Et x I f
             . rintro rfl;exact y (hd _ _ _ _ x f I)
         . intro i1 j1 i2 j2 x f q;split at f<;>split at q
           . rename_i a b;omega
           . rename_i a b;rcases H x f with h|h
             . exact absurd (hd _ _ _ _ x q h) b
             . exact absurd ((hF x).2 (.inr ⟨i2,j2,q⟩)) (G x h)
           . rename_i a b;rcases H x q with h|h
             . exact absurd (hd _ _ _ _ x f h) a
             . exact absurd ((hF x).2 (.inr ⟨i1,j1,f⟩)) (G x h)
           . exact hd _ _ _ _ x f q
         . intro i1 j1 x f;split at f
           . rename_i y;obtain⟨rfl,rfl⟩:=y;exact⟨_,t,AAT J,AAT D⟩
           . obtain⟨r,e,m,l⟩:=Ba i1 j1 x f;by_cases hi:i1=i0
             . subst hi;rename_i U;have Q:j1≠j0:=λe=>U ⟨rfl,e⟩;obtain rfl:N=r:=(by rw[M]at m;exact AAU m);exact⟨_,e,AAT J,by rw[AAW (by omega)];exact l⟩
             . exact⟨r,e,by rw[AAW (by omega)];exact m,l⟩
         . intro i1 j1 f;split at f
           . rcases H b0 f with h|h
             . exact KG _ _ h
             . exact G b0 h ((hF b0).2 (.inl rfl))
           . exact KG _ _ f
       . rintro x (rfl|⟨i1,j1,f⟩)
         . exact .inl ((hF x).2 (.inl rfl))
         . split at f
           . rcases H x f with h|h
             . exact .inl ((hF x).2 (.inr ⟨i0,j0,h⟩))
             . exact .inr h
           . exact .inl ((hF x).2 (.inr ⟨i1,j1,f⟩))
     . cases z
   . cases z
  |agg cs Fs _ hr hd Ba hF=>
   simp only[Abs.Aq]at z;split at z
   . rename_i O B;obtain⟨t,P,W,R,H,T,I⟩:=ih (hr j0 O B) z (λx f V=>G x f ((hF x).2 ⟨j0,V⟩));have D:=(AAS.1 B).1;refine⟨.agg (cs.set j0 t),λx=>∃g,(if g=j0 then P else Fs g) x,by simp[Da,B,W],?_,?_,?_,(hF b).2 ⟨j0,I⟩⟩
     . refine Ok.agg _ (λg=>if g=j0 then P else Fs g) _ ?_ ?_ ?_ (λx=>Iff.rfl)
       . intro g e l;by_cases hi:g=j0
         . subst hi;rw[AAT D]at l;obtain rfl:=AAU l;simpa using R
         . simp only[hi,AAd];rw[AAW (by omega)]at l;refine(hr g e l).mono (λx f=>DC _ _ _ _ _ ?_) (λx f=>DC _ _ _ _ _ ?_) (λ_ h=>h) (hr g e l).Et
           . rintro rfl;exact(hr j0 O B).Et x I f
           . rintro rfl;exact hi (hd _ _ x f I)
       . intro i1 i2 x f q;split at f<;>split at q
         . omega
         . rename_i a b;rcases H x f with h|h
           . exact absurd (hd _ _ x q h) b
           . exact absurd ((hF x).2 ⟨i2,q⟩) (G x h)
         . rename_i a b;rcases H x q with h|h
           . exact absurd (hd _ _ x f h) a
           . exact absurd ((hF x).2 ⟨i1,f⟩) (G x h)
         . exact hd _ _ x f q
       . intro i1 x f;split at f
         . rename_i y;subst y;exact⟨t,AAT D⟩
         . rename_i y;obtain⟨e,m⟩:=Ba i1 x f;exact⟨e,by rw[AAW (by omega)];exact m⟩
     . rintro x ⟨i1,f⟩;split at f
       . rcases H x f with h|h
         . exact .inl ((hF x).2 ⟨j0,h⟩)
         . exact .inr h
       . exact .inl ((hF x).2 ⟨i1,f⟩)
     . simp only[Jk,ABJ,T];congr 2;apply ABd;intro n;by_cases hn:n=j0
       . subst hn;rw[AAT (by simpa using D)];simp[B]
       . rw[AAW (by omega)]
   . cases z
  |BI cs Fs _ hr hd Ba hF=>
   simp only[Abs.Aq]at z;split at z
   . rename_i O B;obtain⟨t,P,W,R,H,T,I⟩:=ih (hr j0 O B) z (λx f V=>G x f ((hF x).2 ⟨j0,V⟩));have D:=(AAS.1 B).1;refine⟨.BI (cs.set j0 t),λx=>∃g,(if g=j0 then P else Fs g) x,by simp[Da,B,W],?_,?_,?_,(hF b).2 ⟨j0,I⟩⟩
     . refine Ok.BI _ (λg=>if g=j0 then P else Fs g) _ ?_ ?_ ?_ (λx=>Iff.rfl)
       . intro g e l;by_cases hi:g=j0
         . subst hi;rw[AAT D]at l;obtain rfl:=AAU l;simpa using R
         . simp only[hi,AAd];rw[AAW (by omega)]at l;refine(hr g e l).mono (λx f=>DC _ _ _ _ _ ?_) (λx f=>DC _ _ _ _ _ ?_) (λ_ h=>h) (hr g e l).Et
           . rintro rfl;exact(hr j0 O B).Et x I f
           . rintro rfl;exact hi (hd _ _ x f I)
       . intro i1 i2 x f q;split at f<;>split at q
         . omega
         . rename_i a b;rcases H x f with h|h
           . exact absurd (hd _ _ x q h) b
           . exact absurd ((hF x).2 ⟨i2,q⟩) (G x h)
         . rename_i a b;rcases H x q with h|h
           . exact absurd (hd _ _ x f h) a
           . exact absurd ((hF x).2 ⟨i1,f⟩) (G x h)
         . exact hd _ _ x f q
       . intro i1 x f;split at f
         . rename_i y;subst y;exact⟨t,AAT D⟩
         . rename_i y;obtain⟨e,m⟩:=Ba i1 x f;exact⟨e,by rw[AAW (by omega)];exact m⟩
     . rintro x ⟨i1,f⟩;split at f
       . rcases H x f with h|h
         . exact .inl ((hF x).2 ⟨j0,h⟩)
         . exact .inr h
       . exact .inl ((hF x).2 ⟨i1,f⟩)
     . simp only[LJ,ABJ,T];congr 2;apply ABd;intro n;by_cases hn:n=j0
       . subst hn;rw[AAT (by simpa using D)];simp[B]
       . rw[AAW (by omega)]
   . cases z
end Go.Abs
namespace Go.Abs
structure Gi where
 rt:List (Nat×List Nat)
def Gi.Gy (G:Gi) (s:Nat):List Nat:=match G.rt.find? (·.1==s)with
 |some x=>x.2
 |none=>[]
def Gi.OB (G:Gi) (d:Nat):List Nat:=(G.rt.filter (λx=>x.2.contains d)).map (·.1)
theorem Gi.qK {G:Gi} {s d:Nat} (h:d∈G.Gy s):s∈G.OB d:=by
 unfold Gi.Gy at h;split at h
 . rename_i x b;have a:=List.find?_some b;have c:=ABm b;simp only[AAg]at a;subst a;simp only[Gi.OB,ABi,List.mem_filter];exact⟨x,⟨c,by simpa using h⟩,rfl⟩
 . cases h
mutual
def Fh (L:List Nat):AV->Bool
 | .al r _=>L.contains r
 | .Kn r _ _ _ _=>L.contains r
 | .cl _ rs=>rs.all λx=>L.contains x.1
 | .vb s _ _=>L.contains s
 | .agg cs=>Pl L cs
 | .BI cs=>Pl L cs
 |_=>true
def Pl (L:List Nat):List AV->Bool
 |[]=>true
 |a::r=>Fh L a&&Pl L r
end
theorem V9 (L:List Nat) (l:List AV):Pl L l=l.all (Fh L):=by
 induction l with
 |nil=>rfl
 |cons d r ih=>simp[Pl,ih]
mutual
def Fg (d:Nat):AV->Bool
 | .al r _=>r != d
 | .Kn r _ _ _ _=>r != d
 | .cl _ rs=>rs.all λx=>x.1 != d
 | .vb s _ _=>s != d
 | .agg cs=>Nq d cs
 | .BI cs=>Nq d cs
 |_=>true
def Nq (d:Nat):List AV->Bool
 |[]=>true
 |a::r=>Fg d a&&Nq d r
end
theorem Z9 (d:Nat) (l:List AV):Nq d l=l.all (Fg d):=by
 induction l with
 |nil=>rfl
 |cons a r ih=>simp[Nq,ih]
mutual
def DX (d:Nat):AV->AV
 | .al r p=>if r=d then .dead else .al r p
 | .Kn r p i j k=>if r=d then .dead else .Kn r p i j k
 | .cl f rs=>if(rs.all λx=>x.1 != d)=true then .cl f rs else .dead
 | .vb s o us=>if s=d then .dead else .vb s o us
 | .agg cs=>.agg (PM d cs)
 | .BI cs=>.BI (PM d cs)
 |a=>a
def PM (d:Nat):List AV->List AV
 |[]=>[]
 |a::r=>DX d a::PM d r
end
theorem Z1 (d:Nat) (l:List AV):PM d l=l.map (DX d):=by
 induction l with
 |nil=>rfl
 |cons a r ih=>simp[PM,ih]
@[simp]theorem rin_sc (L:List Nat) (v:Value):Fh L (.sc v)=true:=by simp[Fh]
@[simp]theorem rin_sl (L:List Nat) (x:Bool) (k:Nat) (rows:List (List AV)):Fh L (.sl x k rows)=true:=by simp[Fh]
@[simp]theorem rin_own (L:List Nat) (x:Bool) (k:Nat) (rows:List (List AV)):Fh L (.own x k rows)=true:=by simp[Fh]
@[simp]theorem rin_fp (L:List Nat) (a:List AV):Fh L (.fp a)=true:=by simp[Fh]
@[simp]theorem rin_dead (L:List Nat):Fh L .dead=true:=by simp[Fh]
@[simp]theorem rin_un (L:List Nat):Fh L .un=true:=by simp[Fh]
@[simp]theorem KA (L:List Nat) (r:Nat) (p:List Step):Fh L (.al r p)=L.contains r:=by simp[Fh]
@[simp]theorem WA (L:List Nat) (r:Nat) (p:List Step) (i j k:Nat):Fh L (.Kn r p i j k)=L.contains r:=by simp[Fh]
@[simp]theorem Jz (L:List Nat) (a:List AV):Fh L (.agg a)=a.all (Fh L):=by simp[Fh,V9]
@[simp]theorem N0 (L:List Nat) (a:List AV):Fh L (.BI a)=a.all (Fh L):=by simp[Fh,V9]
@[simp]theorem killr_sc (d:Nat) (v:Value):DX d (.sc v)= .sc v:=by simp[DX]
@[simp]theorem killr_sl (d:Nat) (x:Bool) (k:Nat) (rows:List (List AV)):DX d (.sl x k rows)= .sl x k rows:=by simp[DX]
@[simp]theorem killr_own (d:Nat) (x:Bool) (k:Nat) (rows:List (List AV)):DX d (.own x k rows)= .own x k rows:=by simp[DX]
@[simp]theorem killr_fp (d:Nat) (a:List AV):DX d (.fp a)= .fp a:=by simp[DX]
@[simp]theorem killr_dead (d:Nat):DX d .dead= .dead:=by simp[DX]
@[simp]theorem killr_un (d:Nat):DX d .un= .un:=by simp[DX]
@[simp]theorem XU (d r:Nat) (p:List Step):DX d (.al r p)=if r=d then .dead else .al r p:=by simp[DX]
@[simp]theorem UF (d r:Nat) (p:List Step) (i j k:Nat):DX d (.Kn r p i j k)=if r=d then .dead else .Kn r p i j k:=by simp[DX]
@[simp]theorem Z2 (d:Nat) (a:List AV):DX d (.agg a)= .agg (a.map (DX d)):=by simp[DX,Z1]
@[simp]theorem Z3 (d:Nat) (a:List AV):DX d (.BI a)= .BI (a.map (DX d)):=by simp[DX,Z1]
@[simp]theorem rin_fcl (L:List Nat) (f:Nat) (a:List (List AV)):Fh L (.mG f a)=true:=by simp[Fh]
@[simp]theorem killr_fcl (d f:Nat) (a:List (List AV)):DX d (.mG f a)= .mG f a:=by simp[DX]
@[simp]theorem rin_vb (L:List Nat) (s o:Nat) (a:List Value):Fh L (.vb s o a)=L.contains s:=by simp[Fh]
@[simp]theorem XV (d s o:Nat) (a:List Value):DX d (.vb s o a)=if s=d then .dead else .vb s o a:=by simp[DX]
@[simp]theorem nroot_vb (d s o:Nat) (a:List Value):Fg d (.vb s o a)=(s != d):=by simp[Fg]
@[simp]theorem nW (L:List Nat) (f:Nat) (rs:List (Nat×List Step)):Fh L (.cl f rs)=rs.all λx=>L.contains x.1:=by simp[Fh]
@[simp]theorem Sm (d f:Nat) (rs:List (Nat×List Step)):DX d (.cl f rs)=if(rs.all λx=>x.1 != d)=true then .cl f rs else .dead:=by simp[DX]
@[simp]theorem nroot_cl (d f:Nat) (rs:List (Nat×List Step)):Fg d (.cl f rs)=rs.all λx=>x.1 != d:=by simp[Fg]
@[simp]theorem uW (d:Nat) (a:List AV):Fg d (.agg a)=a.all (Fg d):=by simp[Fg,Z9]
@[simp]theorem uY (d:Nat) (a:List AV):Fg d (.BI a)=a.all (Fg d):=by simp[Fg,Z9]
@[simp]theorem nroot_al (d r:Nat) (p:List Step):Fg d (.al r p)=(r != d):=by simp[Fg]
@[simp]theorem nroot_adr (d r:Nat) (p:List Step) (i j k:Nat):Fg d (.Kn r p i j k)=(r != d):=by simp[Fg]
mutual
def HM (d:Nat):DV->DV
 | .lf a v=>.lf (DX d a) v
 | .own h b k rows=>.own h b k rows
 | .agg cs=>.agg (XN d cs)
 | .BI cs=>.BI (XN d cs)
def XN (d:Nat):List DV->List DV
 |[]=>[]
 |a::r=>HM d a::XN d r
end
theorem Zw (d:Nat) (l:List DV):XN d l=l.map (HM d):=by
 induction l with
 |nil=>rfl
 |cons a r ih=>simp[XN,ih]
@[simp]theorem XO (d:Nat) (a:AV) (v:Value):HM d (.lf a v)= .lf (DX d a) v:=by simp[HM]
@[simp]theorem NK (d:Nat) (h:Value) (b:Bool) (k:Nat) (rows:List (List DV)):HM d (.own h b k rows)= .own h b k rows:=by simp[HM]
@[simp]theorem KW (d:Nat) (a:List DV):HM d (.agg a)= .agg (a.map (HM d)):=by simp[HM,Zw]
@[simp]theorem KX (d:Nat) (a:List DV):HM d (.BI a)= .BI (a.map (HM d)):=by simp[HM,Zw]
variable {w w':World} {S S':Nat->Prop} {x:DV} {F F':Nat->Prop}
theorem Kv (d:Nat) (h:Ok w S x F):(HM d x).er=DX d x.er/\(HM d x).Aw=x.Aw/\Ok w S (HM d x) F/\Fg d (HM d x).er=true:=by
 induction h with
 |lf a v F ha hF=>
  refine⟨by simp,by simp,?_,?_⟩
  . rw[XO];refine .lf _ v F ?_ hF;cases a with
    |al r p=>rw[XU];by_cases h:r=d<;>simp[h,Hg]
    |Kn r p i j k=>rw[UF];by_cases h:r=d<;>simp[h,Hg]
    |cl f rs=>rw[Sm];split<;>trivial
    |vb s o us=>rw[XV];split<;>first|trivial|exact ha
    |agg cs=>exact ha.elim
    |BI cs=>exact ha.elim
    |own=>exact ha.elim
    |_=>simpa using ha
  . have:=ha.C0;cases a with
    |al r p=>by_cases h:r=d<;>simp[h,Fg]
    |Kn r p i j k=>by_cases h:r=d<;>simp[h,Fg]
    |vb s o us=>by_cases h:s=d<;>simp[h,Fg]
    |cl f rs=>
     simp only[XO,EU,Sm];split
     . rename_i h;simpa using h
     . simp[Fg]
    |agg cs=>exact ha.elim
    |BI cs=>exact ha.elim
    |own=>exact ha.elim
    |_=>simp[Fg]
 |nil k F hF=>exact⟨by simp,by simp,by rw[NK];exact .nil k F hF,by simp[Fg]⟩
 |own bx k rows b c arr E Fs F hb hk Dv LO hv hr hd Ba KG hF ih=>exact⟨by simp,by simp,by rw[NK];exact .own bx k rows b c arr E Fs F hb hk Dv LO hv hr hd Ba KG hF,by simp[Fg]⟩
 |agg cs Fs F hr hd Ba hF ih=>
  have key:∀e∈cs,(HM d e).er=DX d e.er/\(HM d e).Aw=e.Aw/\Fg d (HM d e).er=true:=by intro e g;obtain⟨i,hi⟩:=List.getElem?_of_mem g;exact⟨(ih i e hi).1,(ih i e hi).2.1,(ih i e hi).2.2.2⟩
  refine⟨?_,?_,?_,?_⟩
  . simp only[KW,HU,Z2,List.map_map,AV.agg.injEq];exact List.map_congr_left λe g=>(key e g).1
  . simp only[KW,Jk,List.map_map];congr 2;exact List.map_congr_left λe g=>(key e g).2.1
  . rw[KW];refine .agg _ Fs F ?_ hd ?_ hF
    . intro i e l;simp only[List.getElem?_map,Option.map_eq_some_iff]at l;obtain⟨m,n,rfl⟩:=l;exact(ih i m n).2.2.1
    . intro i x q;obtain⟨e,l⟩:=Ba i x q;exact⟨HM d e,by simp[l]⟩
  . simp only[KW,HU,uW,List.map_map,List.all_map,List.all_eq_true];exactλe g=>(key e g).2.2
 |BI cs Fs F hr hd Ba hF ih=>
  have key:∀e∈cs,(HM d e).er=DX d e.er/\(HM d e).Aw=e.Aw/\Fg d (HM d e).er=true:=by intro e g;obtain⟨i,hi⟩:=List.getElem?_of_mem g;exact⟨(ih i e hi).1,(ih i e hi).2.1,(ih i e hi).2.2.2⟩
  refine⟨?_,?_,?_,?_⟩
  . simp only[KX,JL,Z3,List.map_map,AV.BI.injEq];exact List.map_congr_left λe g=>(key e g).1
  . simp only[KX,LJ,List.map_map];congr 2;exact List.map_congr_left λe g=>(key e g).2.1
  . rw[KX];refine .BI _ Fs F ?_ hd ?_ hF
    . intro i e l;simp only[List.getElem?_map,Option.map_eq_some_iff]at l;obtain⟨m,n,rfl⟩:=l;exact(ih i m n).2.2.1
    . intro i x q;obtain⟨e,l⟩:=Ba i x q;exact⟨HM d e,by simp[l]⟩
  . simp only[KX,JL,uY,List.map_map,List.all_map,List.all_eq_true];exactλe g=>(key e g).2.2
def Mn (δ:Nat->DV):AV->Value->Prop
 | .al r p,v=>∃bx k rows,Aq (δ r) p=some (.own v bx k rows)
 | .Kn r p i j k,v=>∃h bx rows b,Aq (δ r) p=some (.own h bx k rows)/\Sd h=some b/\v= .pointer (some ⟨b,i*k+j,none⟩)
 | .vb s _ us,_=>(δ s).Aw= .agg us.toArray
 | .cl f rs,v=>∃vs:List Value,v= .func (.func f) #[] vs.toArray/\vs.length=rs.length/\∀(i:Nat) r p u,rs[i]? =some (r,p)->vs[i]? =some u->∃bx k rows,Aq (δ r) p=some (.own u bx k rows)
 |_,_=>True
inductive DU (δ:Nat->DV):DV->Prop
 |lf (a v) (h:Mn δ a v):DU δ (.lf a v)
 |own (h b k rows):DU δ (.own h b k rows)
 |agg (cs) (hr:∀(i:Nat) d,cs[i]? =some d->DU δ d):DU δ (.agg cs)
 |BI (cs) (hr:∀(i:Nat) d,cs[i]? =some d->DU δ d):DU δ (.BI cs)
theorem DU.mono {δ g:Nat->DV} {L:List Nat} (h:DU δ x) (e:Fh L x.er=true)
 (m:∀r∈L,∀p v bx k rows,Aq (δ r) p=some (.own v bx k rows)->∃c,Aq (g r) p=some (.own v bx k c)) (q:∀r∈L,(g r).Aw=(δ r).Aw):DU g x:=by
 induction h with
 |lf a v h=>
  refine .lf a v ?_;cases a with
  |al r p=>obtain⟨bx,k,rows,h⟩:=h;obtain⟨c,l⟩:=m r (by simpa using e) p v bx k rows h;exact⟨bx,k,c,l⟩
  |Kn r p i j k=>obtain⟨n,bx,rows,b,h,z,rfl⟩:=h;obtain⟨c,l⟩:=m r (by simpa using e) p n bx k rows h;exact⟨n,bx,c,b,l,z,rfl⟩
  |vb s o us=>exact(q s (by simpa using e)).trans h
  |cl f rs=>obtain⟨vs,t,w,y⟩:=h;refine⟨vs,t,w,λi r p u hi C=> ?_⟩;obtain⟨bx,k,rows,B⟩:=y i r p u hi C;simp only[EU,nW,List.all_eq_true]at e;obtain⟨c,l⟩:=m r (by simpa using e _ (List.mem_of_getElem? hi)) p u bx k rows B;exact⟨bx,k,c,l⟩
  |_=>trivial
 |own=>exact .own _ _ _ _
 |agg cs _ ih=>refine .agg cs λi d hd=>ih i d hd ?_;simp only[HU,Jz,List.all_map,List.all_eq_true]at e;exact e d (List.mem_of_getElem? hd)
 |BI cs _ ih=>refine .BI cs λi d hd=>ih i d hd ?_;simp only[JL,N0,List.all_map,List.all_eq_true]at e;exact e d (List.mem_of_getElem? hd)
theorem vK {L:List Nat} {d:Nat} {a:AV}:Fh L a=true->d∉L->Fg d a=true:=by
 refine AV.rec (motive_1:=λa=>Fh L a=true->d∉L->Fg d a=true) (motive_2:=λ_=>True) (motive_3:=λl=>Pl L l=true->d∉L->Nq d l=true)
  ?_ ?_ ?_ ?_ ?_ ?_ ?_ ?_ ?_ ?_ ?_ ?_ ?_ ?_ ?_ ?_ ?_ a
 all_goals intros
 all_goals first|trivial|simp[Fg];done|skip
 all_goals simp_all [Fh,Pl,Nq,Fg]
 all_goals first
  | (rintro rfl;simp_all;done)
  | (rename_i c f;intro a b g e;subst e;exact f (c _ b g))
theorem uJ {L:List Nat} {d:Nat} {a:AV}:Fh L a=true->Fh L (DX d a)=true:=by
 refine AV.rec (motive_1:=λa=>Fh L a=true->Fh L (DX d a)=true) (motive_2:=λ_=>True) (motive_3:=λl=>Pl L l=true->Pl L (PM d l)=true)
  ?_ ?_ ?_ ?_ ?_ ?_ ?_ ?_ ?_ ?_ ?_ ?_ ?_ ?_ ?_ ?_ ?_ a
 all_goals intros
 all_goals first|trivial| (simp_all [Fh,Pl,DX,PM];done)|skip
 all_goals first
  | (simp only[DX];split<;>simp_all [Fh];done)
  | (simp only[DX];split<;>first|assumption|simp[Fh])
  | (rename_i b h;simp only[DX,Fh]at h ⊢;exact b h)
end Go.Abs
namespace Go.Abs
variable {w w':World} {S S':Nat->Prop} {d:DV} {F F':Nat->Prop}
theorem Ok.replace {n:DV} (p:List Step) (h:Ok w S d F) (C:Abs.Aq d p=some n):
 ∃q,Ok w S n q/\(∀x,q x->F x)/\∀(w':World) (S':Nat->Prop) (new:DV) (Fn:Nat->Prop),new.Aw=n.Aw->Ok w' S' new Fn->
  (∀x,Fn x->F x->q x)->(∀b,S b->w'.heap[b]? =w.heap[b]?)->(∀b,F b->¬q b->w'.heap[b]? =w.heap[b]?)->(∀b,S b->S' b)->(∀b,F b->¬q b->¬S' b)->
  ∃t F',Da d p new=some t/\Ok w' S' t F'/\(∀x,F' x↔(F x/\¬q x)∨Fn x)/\t.Aw=d.Aw:=by
 induction p generalizing d F with
 |nil=>
  simp only[Abs.Aq,AAQ]at C;subst C;refine⟨F,h,λ_ h=>h,λw' S' new Fn Z hn _ _ _ _ _=>⟨new,Fn,rfl,hn,λx=>⟨.inr,?_⟩,Z⟩⟩;rintro(⟨y,K⟩|h)
  . exact absurd y K
  . exact h
 |cons s p ih=>
  obtain⟨i0,j0,k0⟩:=s;cases h with
  |lf a v _ Z hF=>simp[Abs.Aq]at C
  |nil k _ hF=>simp[Abs.Aq]at C
  |own zE k1 K2 b0 c arr E Fs _ p5 hk Dv LO hv hr hd Ba KG hF=>
   simp only[Abs.Aq]at C;split at C
   . split at C
     . rename_i W U _ e0 H;obtain⟨q,ho,Q,Ms⟩:=ih (hr i0 j0 W e0 U H) C;have O:∀x,q x->F x:=λx f=>(hF x).2 (.inr ⟨i0,j0,Q x f⟩);refine⟨q,ho,O,?_⟩;intro w' S' new Fn Z hn z X T V R;have Dq:=(AAS.1 U).1;have N:=(AAS.1 H).1;obtain⟨t,L,ht,CZ,G,DZ⟩:=Ms w' S' new Fn Z hn (λx f u=>z x f ((hF x).2 (.inr ⟨i0,j0,u⟩))) X
        (λb P=>T b ((hF b).2 (.inr ⟨i0,j0,P⟩))) V (λb P=>R b ((hF b).2 (.inr ⟨i0,j0,P⟩)))
       have tS:¬q b0:=λh=>KG _ _ (Q _ h);have J:F b0:=(hF b0).2 (.inl rfl);have M:∀i j,¬(i=i0/\j=j0)->∀x,Fs i j x->¬q x:=λi j l x f mU=>l (hd _ _ _ _ x f (Q x mU));refine⟨.own (JW zE b0 K2.length c) zE k1 (K2.set i0 (W.set j0 t)),λx=>x=b0∨∃g B,(if g=i0/\B=j0 then L else Fs g B) x,?_,?_,?_,by simp⟩
       . simp[Da,U,H,ht]
       . rw[show(JW zE b0 K2.length c)=JW zE b0 (K2.set i0 (W.set j0 t)).length c from by simp];refine Ok.own zE k1 _ b0 c arr E (λg B=>if g=i0/\B=j0 then L else Fs g B) _ (by rw[T b0 J tS];exact p5) ?_ (by simpa using Dv) (R b0 J tS) ?_ ?_ ?_ ?_ ?_ (λx=>Iff.rfl)
         . intro r Yd;rcases AAs Yd with h|rfl
           . exact hk r h
           . simp[hk W (AAe U)]
         . intro g B r e m o;by_cases hi:g=i0
           . subst hi;rw[AAT Dq]at m;obtain rfl:=AAU m;by_cases hj:B=j0
             . subst hj;rw[AAT N]at o;obtain rfl:=AAU o;rw[DZ];exact hv g B W e0 U H
             . rw[AAW (by omega)]at o;exact hv g B W e U o
           . rw[AAW (by omega)]at m;exact hv g B r e m o
         . intro g B r e m o;by_cases l:g=i0/\B=j0
           . obtain⟨rfl,rfl⟩:=l;rw[AAT Dq]at m;obtain rfl:=AAU m;rw[AAT N]at o;obtain rfl:=AAU o;simpa using CZ
           . simp only[l,AAd];have hold:Ok w S e (Fs g B):=by
              by_cases hi:g=i0
              . subst hi;have hj:B≠j0:=λe=>l ⟨rfl,e⟩;rw[AAT Dq]at m;obtain rfl:=AAU m;rw[AAW (by omega)]at o;exact hr g B W e U o
              . rw[AAW (by omega)]at m;exact hr g B r e m o
             have I:∀x,Fs g B x->F x/\¬q x:=λx f=>⟨(hF x).2 (.inr ⟨g,B,f⟩),M g B l x f⟩;exact hold.mono X (λx f=>T x (I x f).1 (I x f).2) V (λx f=>R x (I x f).1 (I x f).2)
         . intro i1 j1 i2 j2 x f u;have D:∀i j,¬(i=i0/\j=j0)->Fs i j x->¬L x:=by
            intro i j l y K;rcases(G x).1 K with⟨m,o⟩|m
            . exact l (hd _ _ _ _ x y m)
            . exact M i j l x y (z x m ((hF x).2 (.inr ⟨i,j,y⟩)))
           split at f<;>split at u
           . rename_i a b;omega
           . rename_i a b;exact absurd f (D _ _ b u)
           . rename_i a b;exact absurd u (D _ _ a f)
           . exact hd _ _ _ _ x f u
         . intro i1 j1 x f;split at f
           . rename_i l;obtain⟨rfl,rfl⟩:=l;exact⟨_,t,AAT Dq,AAT N⟩
           . obtain⟨r,e,m,o⟩:=Ba i1 j1 x f;by_cases hi:i1=i0
             . subst hi;rename_i Nl;have hj:j1≠j0:=λe=>Nl ⟨rfl,e⟩;obtain rfl:W=r:=(by rw[U]at m;exact AAU m);exact⟨_,e,AAT Dq,by rw[AAW (by omega)];exact o⟩
             . exact⟨r,e,by rw[AAW (by omega)];exact m,o⟩
         . intro i1 j1 f;split at f
           . rcases(G b0).1 f with h|h
             . exact KG _ _ h.1
             . exact tS (z b0 h J)
           . exact KG _ _ f
       . intro x;constructor
         . rintro(rfl|⟨i1,j1,f⟩)
           . exact .inl ⟨J,tS⟩
           . split at f
             . rcases(G x).1 f with h|h
               . exact .inl ⟨(hF x).2 (.inr ⟨i0,j0,h.1⟩),h.2⟩
               . exact .inr h
             . rename_i l;exact .inl ⟨(hF x).2 (.inr ⟨i1,j1,f⟩),M _ _ l x f⟩
         . rintro(⟨y,K⟩|h)
           . rcases(hF x).1 y with rfl|⟨i1,j1,m⟩
             . exact .inl rfl
             . by_cases l:i1=i0/\j1=j0
               . obtain⟨rfl,rfl⟩:=l;exact .inr ⟨i1,j1,by simp;exact(G x).2 (.inl ⟨m,K⟩)⟩
               . exact .inr ⟨i1,j1,by simp only[l,AAd];exact m⟩
           . exact .inr ⟨i0,j0,by simp;exact(G x).2 (.inr h)⟩
     . cases C
   . cases C
  |agg cs Fs _ hr hd Ba hF=>
   simp only[Abs.Aq]at C;split at C
   . rename_i e0 H;obtain⟨q,ho,Q,Ms⟩:=ih (hr j0 e0 H) C;have O:∀x,q x->F x:=λx f=>(hF x).2 ⟨j0,Q x f⟩;refine⟨q,ho,O,?_⟩;intro w' S' new Fn Z hn z X T V R;have N:=(AAS.1 H).1;obtain⟨t,L,ht,CZ,G,DZ⟩:=Ms w' S' new Fn Z hn (λx f u=>z x f ((hF x).2 ⟨j0,u⟩)) X
      (λb P=>T b ((hF b).2 ⟨j0,P⟩)) V (λb P=>R b ((hF b).2 ⟨j0,P⟩))
     have M:∀i,¬i=j0->∀x,Fs i x->¬q x:=λi l x f mU=>l (hd _ _ x f (Q x mU));refine⟨.agg (cs.set j0 t),λx=>∃g,(if g=j0 then L else Fs g) x,by simp[Da,H,ht],?_,?_,?_⟩
     . refine Ok.agg _ (λg=>if g=j0 then L else Fs g) _ ?_ ?_ ?_ (λx=>Iff.rfl)
       . intro g e o;by_cases hi:g=j0
         . subst hi;rw[AAT N]at o;obtain rfl:=AAU o;simpa using CZ
         . simp only[hi,AAd];rw[AAW (by omega)]at o;have I:∀x,Fs g x->F x/\¬q x:=λx f=>⟨(hF x).2 ⟨g,f⟩,M g hi x f⟩;exact(hr g e o).mono X (λx f=>T x (I x f).1 (I x f).2) V (λx f=>R x (I x f).1 (I x f).2)
       . intro i1 i2 x f u;have D:∀i,¬i=j0->Fs i x->¬L x:=by
          intro i l y K;rcases(G x).1 K with⟨m,o⟩|m
          . exact l (hd _ _ x y m)
          . exact M i l x y (z x m ((hF x).2 ⟨i,y⟩))
         split at f<;>split at u
         . omega
         . rename_i a b;exact absurd f (D _ b u)
         . rename_i a b;exact absurd u (D _ a f)
         . exact hd _ _ x f u
       . intro i1 x f;split at f
         . rename_i l;subst l;exact⟨t,AAT N⟩
         . rename_i l;obtain⟨e,m⟩:=Ba i1 x f;exact⟨e,by rw[AAW (by omega)];exact m⟩
     . intro x;constructor
       . rintro⟨i1,f⟩;split at f
         . rcases(G x).1 f with h|h
           . exact .inl ⟨(hF x).2 ⟨j0,h.1⟩,h.2⟩
           . exact .inr h
         . rename_i l;exact .inl ⟨(hF x).2 ⟨i1,f⟩,M _ l x f⟩
       . rintro(⟨y,K⟩|h)
         . obtain⟨i1,m⟩:=(hF x).1 y;by_cases l:i1=j0
           . subst l;exact⟨i1,by simp;exact(G x).2 (.inl ⟨m,K⟩)⟩
           . exact⟨i1,by simp only[l,AAd];exact m⟩
         . exact⟨j0,by simp;exact(G x).2 (.inr h)⟩
     . simp only[Jk,ABJ,DZ];congr 2;apply ABd;intro n;by_cases hn:n=j0
       . subst hn;rw[AAT (by simpa using N)];simp[H]
       . rw[AAW (by omega)]
   . cases C
  |BI cs Fs _ hr hd Ba hF=>
   simp only[Abs.Aq]at C;split at C
   . rename_i e0 H;obtain⟨q,ho,Q,Ms⟩:=ih (hr j0 e0 H) C;have O:∀x,q x->F x:=λx f=>(hF x).2 ⟨j0,Q x f⟩;refine⟨q,ho,O,?_⟩;intro w' S' new Fn Z hn z X T V R;have N:=(AAS.1 H).1;obtain⟨t,L,ht,CZ,G,DZ⟩:=Ms w' S' new Fn Z hn (λx f u=>z x f ((hF x).2 ⟨j0,u⟩)) X
      (λb P=>T b ((hF b).2 ⟨j0,P⟩)) V (λb P=>R b ((hF b).2 ⟨j0,P⟩))
     have M:∀i,¬i=j0->∀x,Fs i x->¬q x:=λi l x f mU=>l (hd _ _ x f (Q x mU));refine⟨.BI (cs.set j0 t),λx=>∃g,(if g=j0 then L else Fs g) x,by simp[Da,H,ht],?_,?_,?_⟩
     . refine Ok.BI _ (λg=>if g=j0 then L else Fs g) _ ?_ ?_ ?_ (λx=>Iff.rfl)
       . intro g e o;by_cases hi:g=j0
         . subst hi;rw[AAT N]at o;obtain rfl:=AAU o;simpa using CZ
         . simp only[hi,AAd];rw[AAW (by omega)]at o;have I:∀x,Fs g x->F x/\¬q x:=λx f=>⟨(hF x).2 ⟨g,f⟩,M g hi x f⟩;exact(hr g e o).mono X (λx f=>T x (I x f).1 (I x f).2) V (λx f=>R x (I x f).1 (I x f).2)
       . intro i1 i2 x f u;have D:∀i,¬i=j0->Fs i x->¬L x:=by
          intro i l y K;rcases(G x).1 K with⟨m,o⟩|m
          . exact l (hd _ _ x y m)
          . exact M i l x y (z x m ((hF x).2 ⟨i,y⟩))
         split at f<;>split at u
         . omega
         . rename_i a b;exact absurd f (D _ b u)
         . rename_i a b;exact absurd u (D _ a f)
         . exact hd _ _ x f u
       . intro i1 x f;split at f
         . rename_i l;subst l;exact⟨t,AAT N⟩
         . rename_i l;obtain⟨e,m⟩:=Ba i1 x f;exact⟨e,by rw[AAW (by omega)];exact m⟩
     . intro x;constructor
       . rintro⟨i1,f⟩;split at f
         . rcases(G x).1 f with h|h
           . exact .inl ⟨(hF x).2 ⟨j0,h.1⟩,h.2⟩
           . exact .inr h
         . rename_i l;exact .inl ⟨(hF x).2 ⟨i1,f⟩,M _ l x f⟩
       . rintro(⟨y,K⟩|h)
         . obtain⟨i1,m⟩:=(hF x).1 y;by_cases l:i1=j0
           . subst l;exact⟨i1,by simp;exact(G x).2 (.inl ⟨m,K⟩)⟩
           . exact⟨i1,by simp only[l,AAd];exact m⟩
         . exact⟨j0,by simp;exact(G x).2 (.inr h)⟩
     . simp only[LJ,ABJ,DZ];congr 2;apply ABd;intro n;by_cases hn:n=j0
       . subst hn;rw[AAT (by simpa using N)];simp[H]
       . rw[AAW (by omega)]
   . cases C
theorem Q0 {t x new l:DV} (m:List Step) (d:Da t m new=some x) (f:Abs.Aq t m=some l) (y:∀h b k rows,l≠ .own h b k rows) (u:∀g,l≠ .agg g) (w:∀g,l≠ .BI g)
 (q:List Step) (v:Value) (bx:Bool) (k:Nat) (rows:List (List DV)) (e:Abs.Aq t q=some (.own v bx k rows)):∃n,Abs.Aq x q=some (.own v bx k n):=by
 induction m generalizing t x q with
 |nil=>
  simp only[Abs.Aq,AAQ]at f;subst f;cases q with
  |nil=>simp only[Abs.Aq,AAQ]at e;exact absurd e (y _ _ _ _)
  |cons s q=>
   cases t with
   |lf a v=>simp[Abs.Aq]at e
   |own h b k rows=>exact absurd rfl (y _ _ _ _)
   |agg g=>exact absurd rfl (u _)
   |BI g=>exact absurd rfl (w _)
 |cons s m ih=>
  obtain⟨i,j,D⟩:=s;cases t with
  |lf a v=>simp[Da]at d
  |own h b k1 Jb=>
   simp only[Da]at d;simp only[Abs.Aq]at f;cases hi:Jb[i]? with
   |none=>simp[hi]at d
   |some row=>
    simp only[hi]at d f;cases hj:row[j]? with
    |none=>simp[hj]at d
    |some c=>
     simp only[hj]at d f;cases hc:Da c m new with
     |none=>simp[hc]at d
     |some c'=>
      simp only[hc,AAQ]at d;subst d;have B:=(AAS.1 hi).1;have o:=(AAS.1 hj).1;cases q with
      |nil=>simp only[Abs.Aq,AAQ,DV.own.injEq]at e;obtain⟨rfl,rfl,rfl,_⟩:=e;exact⟨_,rfl⟩
      |cons s2 q=>
       obtain⟨i2,r,z⟩:=s2;simp only[Abs.Aq]at e ⊢;by_cases C:i2=i
       . subst C;simp only[AAT B];simp only[hi]at e;by_cases p:r=j
         . subst p;simp only[AAT o];simp only[hj]at e;exact ih hc f q e
         . rw[AAW (by omega)];exact⟨rows,e⟩
       . rw[AAW (by omega)];exact⟨rows,e⟩
  |agg g=>
   simp only[Da]at d;simp only[Abs.Aq]at f;cases hj:g[j]? with
   |none=>simp[hj]at d
   |some c=>
    simp only[hj]at d f;cases hc:Da c m new with
    |none=>simp[hc]at d
    |some c'=>
     simp only[hc,AAQ]at d;subst d;have o:=(AAS.1 hj).1;cases q with
     |nil=>simp[Abs.Aq]at e
     |cons s2 q=>
      obtain⟨i2,r,z⟩:=s2;simp only[Abs.Aq]at e ⊢;by_cases p:r=j
      . subst p;simp only[AAT o];simp only[hj]at e;exact ih hc f q e
      . rw[AAW (by omega)];exact⟨rows,e⟩
  |BI g=>
   simp only[Da]at d;simp only[Abs.Aq]at f;cases hj:g[j]? with
   |none=>simp[hj]at d
   |some c=>
    simp only[hj]at d f;cases hc:Da c m new with
    |none=>simp[hc]at d
    |some c'=>
     simp only[hc,AAQ]at d;subst d;have o:=(AAS.1 hj).1;cases q with
     |nil=>simp[Abs.Aq]at e
     |cons s2 q=>
      obtain⟨i2,r,z⟩:=s2;simp only[Abs.Aq]at e ⊢;by_cases p:r=j
      . subst p;simp only[AAT o];simp only[hj]at e;exact ih hc f q e
      . rw[AAW (by omega)];exact⟨rows,e⟩
end Go.Abs
namespace Go.Abs
variable {w w':World} {S S':Nat->Prop} {F F':Nat->Prop}
structure St (G:Gi) (w:World) (S:Nat->Prop) (δ:Nat->DV) (F:Nat->Nat->Prop):Prop where
 ok:∀s,Ok w S (δ s) (F s)
 MC:∀s t x,F s x->F t x->s=t
 al:∀s,DU δ (δ s)
 rt:∀s,Fh (G.Gy s) (δ s).er=true
 self:∀s,s∉G.Gy s
mutual
def E1 (n d:Nat):AV->AV
 | .al r p=>if r=d/\n≤p.length then .dead else .al r p
 | .Kn r p i j k=>if r=d/\n≤p.length then .dead else .Kn r p i j k
 | .cl f rs=>if(rs.all λx=>x.1 != d)=true then .cl f rs else .dead
 | .vb s o us=>if s=d then .dead else .vb s o us
 | .agg cs=>.agg (UD n d cs)
 | .BI cs=>.BI (UD n d cs)
 |a=>a
def UD (n d:Nat):List AV->List AV
 |[]=>[]
 |a::r=>E1 n d a::UD n d r
end
theorem Zy (n d:Nat) (l:List AV):UD n d l=l.map (E1 n d):=by
 induction l with
 |nil=>rfl
 |cons a r ih=>simp[UD,ih]
mutual
def GL (n d:Nat):DV->DV
 | .lf a v=>.lf (E1 n d a) v
 | .own h b k rows=>.own h b k rows
 | .agg cs=>.agg (Sl n d cs)
 | .BI cs=>.BI (Sl n d cs)
def Sl (n d:Nat):List DV->List DV
 |[]=>[]
 |a::r=>GL n d a::Sl n d r
end
theorem XP (n d:Nat) (l:List DV):Sl n d l=l.map (GL n d):=by
 induction l with
 |nil=>rfl
 |cons a r ih=>simp[Sl,ih]
def FU (G:Gi) (n d:Nat) (σ:Sg):Sg:=λs=>if s∈G.OB d then E1 n d (σ s)else σ s
def EL (G:Gi) (n d:Nat) (δ:Nat->DV):Nat->DV:=λs=>if s∈G.OB d then GL n d (δ s)else δ s
def JY (G:Gi) (d:Nat) (σ:Sg):Sg:=λs=>if s∈G.OB d then DX d (σ s)else σ s
def HN (G:Gi) (d:Nat) (δ:Nat->DV):Nat->DV:=λs=>if s∈G.OB d then HM d (δ s)else δ s
theorem YT {t:DV} (d:Nat) (q:List Step) {v:Value} {bx:Bool} {k:Nat} {rows:List (List DV)} (e:Abs.Aq t q=some (.own v bx k rows)):Abs.Aq (HM d t) q=some (.own v bx k rows):=by
 induction q generalizing t with
 |nil=>simp only[Abs.Aq,Option.some.injEq]at e;subst e;simp[Abs.Aq]
 |cons s q ih=>
  obtain⟨i,j,f⟩:=s;cases t with
  |lf a v=>simp[Abs.Aq]at e
  |own h b k1 Jb=>rw[NK];exact e
  |agg cs=>
   simp only[KW,Abs.Aq,List.getElem?_map]at e ⊢;cases hj:cs[j]? with
   |none=>simp[hj]at e
   |some c=>simp only[hj,Option.map_some]at e ⊢;exact ih e
  |BI cs=>
   simp only[KX,Abs.Aq,List.getElem?_map]at e ⊢;cases hj:cs[j]? with
   |none=>simp[hj]at e
   |some c=>simp only[hj,Option.map_some]at e ⊢;exact ih e
theorem DU.kill {δ:Nat->DV} {x:DV} (d:Nat) (h:DU δ x) (b:ZU x):DU δ (HM d x):=by
 induction h with
 |lf a v h=>
  rw[XO];refine .lf _ v ?_;cases b with
  |lf _ _ b=>
   cases a with
   |al r p=>
    rw[XU];by_cases e:r=d
    . simp only[e,if_true];trivial
    . simp only[e,if_false];exact h
   |Kn r p i j k=>
    rw[UF];by_cases e:r=d
    . simp only[e,if_true];trivial
    . simp only[e,if_false];exact h
   |vb s o us=>
    rw[XV];split
    . trivial
    . exact h
   |cl f rs=>
    rw[Sm];split
    . exact h
    . trivial
   |agg cs=>simp[C0]at b
   |BI cs=>simp[C0]at b
   |own=>simp[C0]at b
   |_=>simp only[DX];trivial
 |own=>rw[NK];exact .own _ _ _ _
 |agg cs _ ih=>
  rw[KW];cases b with
  |agg _ b=>refine .agg _ λi g hd=> ?_;simp only[List.getElem?_map,Option.map_eq_some_iff]at hd;obtain⟨e,c,rfl⟩:=hd;exact ih i e c (b i e c)
 |BI cs _ ih=>
  rw[KX];cases b with
  |BI _ b=>refine .BI _ λi g hd=> ?_;simp only[List.getElem?_map,Option.map_eq_some_iff]at hd;obtain⟨e,c,rfl⟩:=hd;exact ih i e c (b i e c)
variable {G:Gi} {δ:Nat->DV} {Fr:Nat->Nat->Prop}
theorem St.gL (h:St G w S δ Fr) (d s:Nat):(HN G d δ s).er=JY G d (λs=>(δ s).er) s:=by
 unfold HN JY;split
 . exact(Kv d (h.ok s)).1
 . rfl
theorem St.UG (h:St G w S δ Fr) (d s:Nat):(HN G d δ s).Aw=(δ s).Aw:=by
 unfold HN;split
 . exact(Kv d (h.ok s)).2.1
 . rfl
theorem St.gN (h:St G w S δ Fr) (d s:Nat):Fg d (HN G d δ s).er=true:=by
 unfold HN;split
 . exact(Kv d (h.ok s)).2.2.2
 . rename_i hn;exact vK (h.rt s) λa=>hn (Gi.qK a)
theorem St.killδ_ok (h:St G w S δ Fr) (d s:Nat):Ok w S (HN G d δ s) (Fr s):=by
 unfold HN;split
 . exact(Kv d (h.ok s)).2.2.1
 . exact h.ok s
theorem St.gO (h:St G w S δ Fr) (d s:Nat):Fh (G.Gy s) (HN G d δ s).er=true:=by
 unfold HN;split
 . rw[(Kv d (h.ok s)).1];exact uJ (h.rt s)
 . exact h.rt s
theorem St.killδ_al (h:St G w S δ Fr) (d s:Nat):DU δ (HN G d δ s):=by
 unfold HN;split
 . exact(h.al s).kill d (h.ok s).Kw
 . exact h.al s
theorem uL (d r:Nat) (p:List Step) {v:Value} {bx:Bool} {k:Nat} {rows:List (List DV)} (a:Abs.Aq (δ r) p=some (.own v bx k rows)):Abs.Aq (HN G d δ r) p=some (.own v bx k rows):=by
 unfold HN;split
 . exact YT d p a
 . exact a
theorem uX {L:List Nat} {d:Nat} {a:AV}:Fh L a=true->Fg d a=true->Fh (L.filter (· != d)) a=true:=by
 refine AV.rec (motive_1:=λa=>Fh L a=true->Fg d a=true->Fh (L.filter (· != d)) a=true) (motive_2:=λ_=>True) (motive_3:=λl=>Pl L l=true->Nq d l=true->Pl (L.filter (· != d)) l=true)
  ?_ ?_ ?_ ?_ ?_ ?_ ?_ ?_ ?_ ?_ ?_ ?_ ?_ ?_ ?_ ?_ ?_ a
 all_goals intros
 all_goals first|trivial| (simp[Fh];done)|skip
 all_goals first
  | (simp_all [Fh,Fg];done)
  | (simp_all [Pl,Nq];done)
  | (rename_i b c;simp only[Fh,Fg,List.all_eq_true,List.contains_iff_mem,List.mem_filter]at b c ⊢;exactλx e=>⟨b x e,c x e⟩)
  | (rename_i f b c;simp only[Fh,Fg]at b c ⊢;exact f b c)
theorem St.set (h:St G w S δ Fr) (d:Nat) (e:DV) (Fn:Nat->Prop) (D:∀b,S b->w'.heap[b]? =w.heap[b]?) (B:∀s,s≠d->∀x,Fr s x->w'.heap[x]? =w.heap[x]?)
 (y:∀b,S b->S' b) (z:∀s,s≠d->∀x,Fr s x->¬S' x) (hn:Ok w' S' e Fn) (m:∀s,s≠d->∀x,Fn x->¬Fr s x) (q:Fh (G.Gy d) e.er=true) (u:DU δ e):
 St G w' S' (DR (HN G d δ) d e) (DR Fr d Fn):=by
 have n:∀(L:List Nat),d∉L->∀r∈L,∀p v bx k rows,Abs.Aq (δ r) p=some (.own v bx k rows)->∃c,Abs.Aq (DR (HN G d δ) d e r) p=some (.own v bx k c):=by intro L j r l p v bx k rows C;refine⟨rows,?_⟩;rw[BT _ _ (by rintro rfl;exact j l)];exact uL d r p C
 have o:∀(L:List Nat),d∉L->∀r∈L,(DR (HN G d δ) d e r).Aw=(δ r).Aw:=by intro L j r l;rw[BT _ _ (by rintro rfl;exact j l)];exact h.UG d r
 refine⟨?_,?_,?_,?_,h.self⟩
 . intro s;by_cases a:s=d
   . subst a;rw[BD,BD];exact hn
   . rw[BT _ _ a,BT _ _ a];exact(h.killδ_ok d s).mono D (B s a) y (z s a)
 . intro s t x f g;by_cases a:s=d<;>by_cases i:t=d
   . omega
   . subst a;rw[BD]at f;rw[BT _ _ i]at g;exact absurd g (m t i x f)
   . subst i;rw[BD]at g;rw[BT _ _ a]at f;exact absurd f (m s a x g)
   . rw[BT _ _ a]at f;rw[BT _ _ i]at g;exact h.MC s t x f g
 . intro s;by_cases a:s=d
   . subst a;rw[BD];exact u.mono q (n _ (h.self s)) (o _ (h.self s))
   . rw[BT _ _ a];refine(h.killδ_al d s).mono (uX (h.gO d s) (h.gN d s)) (n _ ?_) (o _ ?_)
     . simp
     . simp
 . intro s;by_cases a:s=d
   . subst a;rw[BD];exact q
   . rw[BT _ _ a];exact h.gO d s
theorem St.poke (h:St G w S δ Fr) (d:Nat) (e:DV) (Fn:Nat->Prop) (C:∀b,S b->w'.heap[b]? =w.heap[b]?) (B:∀s,s≠d->∀x,Fr s x->w'.heap[x]? =w.heap[x]?)
 (hn:Ok w' S e Fn) (l:∀s,s≠d->∀x,Fn x->¬Fr s x) (o:Fh (G.Gy d) e.er=true) (y:DU δ e)
 (z:∀p v bx k rows,Abs.Aq (δ d) p=some (.own v bx k rows)->∃c,Abs.Aq e p=some (.own v bx k c)) (u:e.Aw=(δ d).Aw):
 St G w' S (DR δ d e) (DR Fr d Fn):=by
 have m:∀(L:List Nat),∀r∈L,∀p v bx k rows,Abs.Aq (δ r) p=some (.own v bx k rows)->∃c,Abs.Aq (DR δ d e r) p=some (.own v bx k c):=by
  intro L r _ p v bx k rows q;by_cases i:r=d
  . subst i;rw[BD];exact z p v bx k rows q
  . rw[BT _ _ i];exact⟨rows,q⟩
 have n:∀(L:List Nat),∀r∈L,(DR δ d e r).Aw=(δ r).Aw:=by
  intro L r _;by_cases i:r=d
  . subst i;rw[BD];exact u
  . rw[BT _ _ i]
 refine⟨?_,?_,?_,?_,h.self⟩
 . intro s;by_cases a:s=d
   . subst a;rw[BD,BD];exact hn
   . rw[BT _ _ a,BT _ _ a];exact(h.ok s).mono C (B s a) (λ_ h=>h) (h.ok s).Et
 . intro s t x f g;by_cases a:s=d<;>by_cases j:t=d
   . omega
   . subst a;rw[BD]at f;rw[BT _ _ j]at g;exact absurd g (l t j x f)
   . subst j;rw[BD]at g;rw[BT _ _ a]at f;exact absurd f (l s a x g)
   . rw[BT _ _ a]at f;rw[BT _ _ j]at g;exact h.MC s t x f g
 . intro s;by_cases a:s=d
   . subst a;rw[BD];exact y.mono o (m _) (n _)
   . rw[BT _ _ a];exact(h.al s).mono (h.rt s) (m _) (n _)
 . intro s;by_cases a:s=d
   . subst a;rw[BD];exact o
   . rw[BT _ _ a];exact h.rt s
theorem St.world (h:St G w S δ Fr) (e:∀b,S b->w'.heap[b]? =w.heap[b]?) (d:∀s x,Fr s x->w'.heap[x]? =w.heap[x]?) (a:∀b,S b->S' b) (c:∀s x,Fr s x->¬S' x):St G w' S' δ Fr:=
 ⟨λs=>(h.ok s).mono e (d s) a (c s),h.MC,h.al,h.rt,h.self⟩
end Go.Abs
namespace Go.Abs
inductive Ar where
 |t (s:Nat)
 |c (a:AV)
 deriving Inhabited
inductive Yb where
 |cp (x:Ar)
 |mv (x:Ar)
 |fz (x:Ar)
 |pick (c a b:Ar)
 |bx (n:Nat) (x:Ar)
 |T6 (z:List AV) (ps:List (Nat×Nat×Ar))
 |OD (k:Nat) (z:List (List AV)) (ps:List (Nat×Ar))
 |ld (agg:Bool) (n:Nat) (a:Ar)
 |st (n:Nat) (a v:Ar)
 |Uf (off:Nat) (x:Ar)
 |fld (agg:Bool) (off n:Nat) (x:Ar)
 |Yz (k:Nat) (x i:Ar)
 |aad (len k:Nat) (x i:Ar)
 |idx (agg:Bool) (len k:Nat) (x i:Ar)
 |bin (op:BinOp) (x y:Ar)
 |beq (neg:Bool) (x y:Ar)
 |un (op:UnOp) (x:Ar)
 |cvt (k:IntKind) (x:Ar)
 |mm (mx:Bool) (x y:Ar)
 |len (x:Ar)
 |ZN (x:Ar)
 |jI (x i:Ar)
 |jH (neg:Bool) (kd:List Nat) (x y:Ar)
 |app (k bytes:Nat) (x y:Ar)
 |qZ (k:Nat) (fr:Bool) (x:Ar) (lo hi mx:ABr Ar)
 |ext (x:Ar) (i:Nat)
 |mk (k bytes:Nat) (z:List AV) (l c:Ar)
 |Hx (x:Ar)
 |mkf (f:Nat) (xs:List Ar)
 |XZ (a:Ar)
 |fl
 |flk (x:Ar) (k:Nat)
 |gD (r off kb k:Nat) (i:Ar)
 |WC (a v:Ar)
 |std (a:Ar)
 |call (f:Nat) (args:List Ar) (m:Nat)
 |Up (f:Nat) (pre:List Ar) (x:Ar) (c:ABr Nat) (post:List Ar)
 |bad
 deriving Inhabited
structure Dk where
 d:Nat
 kl:List Nat
 rs:List Nat
 deriving Inhabited
structure BJ where
 dst:ABr Dk
 op:Yb
 guard:ABr (Nat×Bool)
 deriving Inhabited
structure wK where
 s:Nat
 e:Nat
 ap:Nat
 i7:Nat
 i8:Nat
 i9:Nat
 i11:Nat
 i12:Nat
 deriving Inhabited
inductive jZ where
 |o (o:BJ)
 |bxv (d:Dk) (n:Nat) (s:Nat)
 |clo (d:ABr Dk) (f:Nat) (x:Ar) (args:List Ar) (g:ABr (Nat×Bool))
 |cL (d:Dk) (neg:Bool) (x:Ar)
 |lb (d:ABr Dk) (f:Nat) (x:Ar) (Sw:List Ar) (y:Ar)
 |gld (d:Dk) (g n:Nat)
 deriving Inhabited
structure wN where
 r:Nat
 off:Nat
 kb:Nat
 i0:Nat
 i1:Nat
 i2:Nat
 d0:Nat
 d1:Nat
 deriving Inhabited
inductive IC where
 |skip
 |bad
 |nV (ops:List jZ)
 |gz (c:Bool) (r:Nat) (p:List Step) (a:IC)
 |pg (c:Bool) (r:Nat) (p:List Step) (a:IC)
 |apd (f:wK) (ops:List BJ)
 |ZJ (ops:List BJ)
 |flo (f:wN) (a b:List BJ)
 |dS (fs:List (Nat×Nat×Nat×Nat)) (ops:List BJ)
 |seq (a b:IC)
 |cond (c:Ar) (a b:IC)
 |block (id:Nat) (a:IC)
 |loop (a:IC)
 |exit (id:Nat)
 |ret
 deriving Inhabited
def ar (σ:Sg):Ar->AV
 | .t s=>σ s
 | .c a=>a
def HW:AV->Bool
 | .sc _| .sl .. =>true
 |_=>false
def JQ:AV->AV
 | .sc u=>.sc u
 | .sl x k rows=>.sl x k rows
 |_=>.dead
def FL:AV->Bool
 | .sc _| .sl .. | .own .. =>true
 |_=>false
mutual
def view (r:Nat):List Step->AV->AV
 |p,.own _ _ _=>.al r p
 |p,.agg cs=>.agg (Pu r p 0 cs)
 |p,.BI cs=>.BI (Pu r p 0 cs)
 |_,a=>a
def Pu (r:Nat) (p:List Step):Nat->List AV->List AV
 |_,[]=>[]
 |i,c::cs=>view r (p++[(0,i,0)]) c::Pu r p (i+1) cs
end
def vC (r:Nat) (p:List Step) (i j k:Nat):AV->AV
 | .own _ _ _=>.al r (p++[(i,j,k)])
 | .sc v=>.sc v
 | .sl x k' rows=>.sl x k' rows
 |_=>.dead
def vF (s j:Nat):AV->AV
 | .own _ _ _=>.al s [(0,j,0)]
 | .agg _=>.dead
 | .BI _=>.dead
 |a=>a
def Pt (r:Nat) (p:List Step) (i k:Nat):Nat->List AV->List AV
 |_,[]=>[]
 |j,c::cs=>vC r p i j k c::Pt r p i k (j+1) cs
def Mm (s:Nat):Nat->List AV->List AV
 |_,[]=>[]
 |j,c::cs=>vF s j c::Mm s (j+1) cs
def JZ (kl:List Nat) (d:Nat) (σ:Sg):Sg:=match kl with
 |[]=>σ
 |_=>λs=>if s∈kl then DX d (σ s)else σ s
def wr (d:Dk) (v:AV) (σ:Sg):Option Sg:=if Fh d.rs v=true then some (DR (JZ d.kl d.d σ) d.d v)else none
def ZO (G:Gi) (r:Nat) (p:List Step) (σ:Sg):Option (AV×Sg):=
 match sub (σ r) p with
 |some (.own b k rows)=>match put (σ r) p .dead with
  |some t=>some (.own b k rows,DR (FU G p.length r σ) r t)
  |none=>none
 |_=>none
def kG (G:Gi):List AV->Sg->Option (List AV×Sg)
 |[],σ=>some ([],σ)
 |a::cs,σ=>match a with
  | .al r p=>match ZO G r p σ with
   |some (n,τ)=>match kG G cs τ with
    |some (l,τ')=>some (n::l,τ')
    |none=>none
   |none=>none
  |a=>if FL a=true then
   match kG G cs σ with
   |some (l,τ)=>some (a::l,τ)
   |none=>none
   else none
def tk (G:Gi) (x:Ar) (σ:Sg):Option (AV×Sg):=
 match x with
 | .c a=>some (a,σ)
 | .t s=>match σ s with
  | .al r p=>ZO G r p σ
  | .own b k rows=>some (.own b k rows,DR (JY G s σ) s .dead)
  | .agg cs=>if cs.all HW=true then some (.agg cs,σ)else
   match kG G cs (DR (JY G s σ) s .dead)with
   |some (l,τ)=>some (.agg l,τ)
   |none=>none
  | .sc v=>some (.sc v,σ)
  | .sl e k rows=>some (.sl e k rows,σ)
  | .Kn r p i j k=>some (.Kn r p i j k,σ)
  | .fp cs=>some (.fp cs,σ)
  |_=>none
def cellsOf:AV->List AV
 | .agg cs=>cs
 |a=>[a]
def hd (σ:Sg) (x:Ar):Option (AV×Option (Nat×List Step)):=
 match x with
 | .c a=>match a with
  | .own b k rows=>some (.own b k rows,none)
  |_=>none
 | .t s=>match σ s with
  | .al r p=>match sub (σ r) p with
   |some n=>some (n,some (r,p))
   |none=>none
  | .own b k rows=>some (.own b k rows,some (s,[]))
  | .sl e k rows=>some (.sl e k rows,none)
  |_=>none
def QP (G:Gi) (r:Nat) (p:List Step) (σ:Sg):Option (AV×Sg):=
 match sub (σ r) p with
 |some (.own b k rows)=>match put (σ r) p (JM (.own b k rows))with
  |some t=>some (JM (.own b k rows),DR (JY G r σ) r t)
  |none=>none
 |_=>none
def lG:AV->Option Int
 | .sc (.int _ n)=>some n
 |_=>none
def EB (σ:Sg) (x:Ar):Option (Nat×List Step×Nat×Nat×Nat):=
 match x with
 | .c _=>none
 | .t s=>match σ s with
  | .Kn r p i j k=>some (r,p,i,j,k)
  | .own true k _=>some (s,[],0,0,k)
  | .al r p=>match sub (σ r) p with
   |some (.own true k _)=>some (r,p,0,0,k)
   |_=>none
  |_=>none
def binI (op:BinOp) (k:IntKind) (x y:Int):Option Value:=
 match op with
 | .add=>some (.int k (k.wrap (x+y)))
 | .sub=>some (.int k (k.wrap (x-y)))
 | .mul=>some (.int k (k.wrap (x*y)))
 | .quo=>if y=0 then none else some (.int k (k.wrap (x.tdiv y)))
 | .rem=>if y=0 then none else some (.int k (x.tmod y))
 | .eql=>some (.bool (x==y))
 | .neq=>some (.bool (x != y))
 | .lss=>some (.bool (x<y))
 | .leq=>some (.bool (x≤y))
 | .gtr=>some (.bool (x>y))
 | .geq=>some (.bool (x≥y))
 |_=>none
def binF (op:BinOp):AV->AV->Option AV
 | .sc (.int k x),.sc (.int k' y)=>if k=k' then(binI op k x y).map .sc else none
 | .sc (.string x),.sc (.string y)=>match op with
  | .eql=>some (.sc (.bool (x.toList==y.toList)))
  | .neq=>some (.sc (.bool (!(x.toList==y.toList))))
  |_=>none
 |_,_=>none
def unF (op:UnOp):AV->Option AV
 | .sc (.bool x)=>match op with
  | .not=>some (.sc (.bool (!x)))
  |_=>none
 | .sc (.int k x)=>match op with
  | .neg=>some (.sc (.int k (k.wrap (0-x))))
  |_=>none
 |_=>none
def Ia (agg:Bool) (n:Nat) (cs:List AV):Option AV:=
 if cs.length=n then(if agg=true then some (.agg cs)else match cs with|[c]=>some c|_=>none)else none
def SS (rows:List (List AV)) (lo hi:Nat):Option (List (List AV)):=
 if lo≤hi/\hi≤rows.length then some ((rows.drop lo).take (hi-lo))else none
def NO (σ:Sg) (x:Option Ar) (d:Nat):Option Nat:=
 match x with
 |none=>some d
 |some a=>match lG (ar σ a)with
  |some n=>if 0≤n then some n.toNat else none
  |none=>none
def xA (σ:Sg) (mx:Option Ar) (h:Nat):Option Nat:=
 match mx with
 |none=>some h
 |some a=>NO σ (some a) 0
def sS:Nat->Value->Value->Option Bool
 |0,.bool a,.bool b=>some (a==b)
 |1,.int k n,.int k' m=>if k=k' then some (n==m)else none
 |2,.string a,.string b=>some (a.toList==b.toList)
 |_,_,_=>none
def P7:List Nat->List AV->List AV->Option Bool
 |[],[],[]=>some true
 |kd::ks,.sc u::xs,.sc v::ys=>match sS kd u v,P7 ks xs ys with
  |some a,some b=>some (a&&b)
  |_,_=>none
 |_,_,_=>none
def SH (σ:Sg):List Ar->Option (List (Nat×List Step))
 |[]=>some []
 |x::r=>match x with
  | .t s=>(match σ s,SH σ r with
   | .own true _ _,some l=>some ((s,[])::l)
   | .al q p,some l=>(match sub (σ q) p with
    |some (.own true _ _)=>some ((q,p)::l)
    |_=>none)
   |_,_=>none)
  | .c _=>none
def valOf (o:Yb) (σ:Sg):Option AV:=
 match o with
 | .cp x=>match x with
  | .t s=>some (view s [] (σ s))
  | .c a=>some a
 | .pick c a b=>match ar σ c with
  | .sc (.bool x)=>match ar σ (if x=true then a else b)with
   | .sc v=>some (.sc v)
   |_=>none
  |_=>none
 | .ld agg n a=>match a with
  | .c _=>none
  | .t s=>match σ s with
   | .fp cs=>Ia agg n ((cs.take n).map JQ)
   | .vb q o _=>match σ q with
    | .agg cs=>Ia agg n (Mm q o ((cs.drop o).take n))
    |_=>none
   |_=>match EB σ (.t s)with
    |some (r,p,i,j,k)=>match sub (σ r) p with
     |some (.own _ _ rows)=>match rows[i]? with
      |some row=>Ia agg n (Pt r p i k j ((row.drop j).take n))
      |none=>none
     |_=>none
    |none=>none
 | .Uf off x=>match x with
  | .c _=>none
  | .t s=>match σ s with
   | .fp cs=>some (.fp (cs.drop off))
   | .vb q o us=>some (.vb q (o+off) us)
   |_=>match EB σ (.t s)with
    |some (r,p,i,j,k)=>some (.Kn r p i (j+off) k)
    |none=>none
 | .fld agg off n x=>match x with
  | .c _=>none
  | .t s=>match σ s with
   | .agg cs=>Ia agg n (Mm s off ((cs.drop off).take n))
   |_=>none
 | .Yz k x i=>match hd σ x,lG (ar σ i)with
  |some (.own false k' rows,some (r,p)),some n=>if k'=k/\0≤n/\n<rows.length then some (.Kn r p n.toNat 0 k)else none
  |some (.sl _ k' rows,_),some n=>if k'=k/\0≤n then(rows[n.toNat]?).map .fp else none
  |_,_=>none
 | .aad len k x i=>match x,lG (ar σ i)with
  | .t s,some n=>if 0≤n/\n<len then
   match σ s with
   | .fp cs=>some (.fp (cs.drop (n.toNat*k)))
   |_=>match EB σ (.t s)with
    |some (r,p,i,j,k')=>some (.Kn r p i (j+n.toNat*k) k')
    |none=>none
   else none
  |_,_=>none
 | .idx agg len k x i=>match x,lG (ar σ i)with
  | .t s,some n=>if 0≤n/\n<len then
   match σ s with
   | .agg cs=>Ia agg k (Mm s (n.toNat*k) ((cs.drop (n.toNat*k)).take k))
   |_=>none
   else none
  |_,_=>none
 | .bin op x y=>binF op (ar σ x) (ar σ y)
 | .beq neg x y=>match ar σ x,ar σ y with
  | .sc (.bool a),.sc (.bool b)=>some (.sc (.bool (if neg=true then !(a==b)else(a==b))))
  |_,_=>none
 | .un op x=>unF op (ar σ x)
 | .cvt k x=>match ar σ x with
  | .sc (.int _ n)=>some (.sc (.int k (k.wrap n)))
  |_=>none
 | .mm mx x y=>match ar σ x,ar σ y with
  | .sc (.int k n),.sc (.int k' m)=>if k=k' then some (.sc (.int k (if mx=true then(if m>n then m else n)else(if m<n then m else n))))else none
  |_,_=>none
 | .len x=>match hd σ x with
  |some (.own false _ rows,_)=>some (.sc (.int .i64 rows.length))
  |some (.sl _ _ rows,_)=>some (.sc (.int .i64 rows.length))
  |_=>none
 | .ZN x=>match ar σ x with
  | .sc (.string s)=>some (.sc (.int .i64 s.size))
  |_=>none
 | .jI x i=>match ar σ x,lG (ar σ i)with
  | .sc (.string s),some n=>if 0≤n then(s[n.toNat]?).map λb=>.sc (.int .u8 b.toNat)else none
  |_,_=>none
 | .jH neg kd x y=>match ar σ x,ar σ y with
  | .agg xs,.agg ys=>(P7 kd xs ys).map λb=>.sc (.bool (if neg=true then !b else b))
  |_,_=>none
 | .ext x i=>match x with
  | .t s=>match σ s with
   | .BI cs=>match cs[i]? with
    |some c=>some (view s [(0,i,0)] c)
    |none=>none
   |_=>none
  |_=>none
 | .Hx x=>match ar σ x with
  | .Kn r p i j k=>some (.Kn r p i j k)
  | .fp cs=>some (.fp cs)
  | .al r p=>match sub (σ r) p with
   |some (.own true _ _)=>some (.al r p)
   |_=>none
  | .own true _ _=>match x with
   | .t s=>some (.al s [])
   |_=>none
  |_=>none
 | .mkf f xs=>(SH σ xs).map (.cl f)
 | .fl=>some .dead
 | .flk x k=>match x with
  | .t s=>match σ s with
   | .BI cs=>if k<cs.length then some .dead else none
   |_=>none
  |_=>none
 | .gD r off kb k i=>match σ r,lG (ar σ i)with
  | .own true kb' [row],some n=>match row[off]? with
   |some (.own false k' rows)=>if kb'=kb/\k'=k/\0≤n/\n<rows.length then some (.Kn r [(0,off,kb)] n.toNat 0 k)else none
   |_=>none
  |_,_=>none
 | .XZ a=>match EB σ a with
  |some (r,p,i,j,k)=>match sub (σ r) p with
   |some (.own _ _ rows)=>match rows[i]? with
    |some row=>match row[j]? with
     |some (.own _ _ _)=>some (.al r (p++[(i,j,k)]))
     |_=>none
    |none=>none
   |_=>none
  |none=>none
 |_=>none
def dG (cs:List AV) (off:Nat) (xs:List AV):List AV:=cs.take off++xs++cs.drop (off+xs.length)
def VF (G:Gi):List (Nat×Nat×Ar)->List AV->Sg->Option (List AV×Sg)
 |[],cs,σ=>some (cs,σ)
 | (off,n,x)::ps,cs,σ=>match tk G x σ with
  |some (a,τ)=>if(cellsOf a).length=n/\off+n≤cs.length/\(cellsOf a).all FL=true then VF G ps (dG cs off (cellsOf a)) τ else none
  |none=>none
def VG (G:Gi) (k:Nat):List (Nat×Ar)->List (List AV)->Sg->Option (List (List AV)×Sg)
 |[],rows,σ=>some (rows,σ)
 | (i,x)::ps,rows,σ=>match tk G x σ with
  |some (a,τ)=>if(cellsOf a).length=k/\i<rows.length/\(cellsOf a).all FL=true then VG G k ps (rows.set i (cellsOf a)) τ else none
  |none=>none
def stC (p:List Step) (i k:Nat):Nat->List AV->AV->Option AV
 |_,[],t=>some t
 |j,c::cs,t=>match put t (p++[(i,j,k)]) c with
  |some t'=>stC p i k (j+1) cs t'
  |none=>none
def Af (n bytes:Nat):Bool:=n*bytes≤70368744177664
def Wh (G:Gi) (k:Nat) (y:Ar) (σ:Sg):Option (List (List AV)×Sg):=
 match y with
 | .t s=>match σ s with
  | .own false k' rows=>if k'=k/\rows.all (·.all FL)=true then some (rows,DR (JY G s σ) s .dead)else none
  | .sl _ k' rows=>if k'=k/\rows.all (·.all HW)=true then some (rows,σ)else none
  | .al r p=>match QP G r p σ with
   |some (.sl _ k' rows,τ)=>if k'=k/\rows.all (·.all HW)=true then some (rows,τ)else none
   |_=>none
  |_=>none
 | .c a=>match a with
  | .own false _ []=>some ([],σ)
  |_=>none
def VD (G:Gi) (k:Nat) (x:Ar) (τ:Sg):Option (AV×Sg):=
 match x with
 | .t s=>match τ s with
  | .sl true k' rows=>if k'=k/\rows.all (·.all HW)=true then some (.sl true k' rows,τ)else none
  | .own false k' rows=>if k'=k then some (.own false k' rows,DR (JY G s τ) s .dead)else none
  | .al r p=>match ZO G r p τ with
   |some (.own false k' rows,τ')=>if k'=k then some (.own false k' rows,τ')else none
   |_=>none
  |_=>none
 | .c a=>match a with
  | .own false _ []=>some (.own false k [],τ)
  |_=>none
def GU (G:Gi) (o:Yb) (d:Option Dk) (σ:Sg):Option Sg:=
 match o,d with
 | .mv x,some d=>match tk G x σ with
  |some (v,τ)=>wr d v τ
  |none=>none
 | .fz x,some d=>match x with
  | .t s=>match σ s with
   | .al r p=>match QP G r p σ with
    |some (v,τ)=>wr d v τ
    |none=>none
   | .own _ _ _=>match QP G s [] σ with
    |some (v,τ)=>wr d v τ
    |none=>none
   | .sc v=>wr d (.sc v) σ
   | .sl e k rows=>wr d (.sl e k rows) σ
   |_=>none
  | .c _=>none
 | .bx n x,some d=>match tk G x σ with
  |some (v,τ)=>if(cellsOf v).length=n/\(cellsOf v).all FL=true then wr d (.own true n [cellsOf v]) τ else none
  |none=>none
 | .T6 z ps,some d=>match VF G ps z σ with
  |some (cs,τ)=>wr d (.agg cs) τ
  |none=>none
 | .OD k z ps,some d=>match VG G k ps z σ with
  |some (rows,τ)=>wr d (.own false k rows) τ
  |none=>none
 | .mk k bytes z l c,some d=>match lG (ar σ l),lG (ar σ c)with
  |some l,some c=>if 0≤l/\l≤c/\Af c.toNat bytes=true then wr d (.own false k (List.replicate l.toNat z)) σ else none
  |_,_=>none
 | .qZ k fr x lo hi mx,some d=>match hd σ x with
  |some (.sl _ k' rows,_)=>match NO σ lo 0,NO σ hi rows.length with
   |some l,some h=>match SS rows l h,xA σ mx h with
    |some rs,some m=>if k'=k/\m=h then wr d (.sl mx.isSome k rs) σ else none
    |_,_=>none
   |_,_=>none
  |some (.own false k' rows,some (r,p))=>match NO σ lo 0,NO σ hi rows.length with
   |some l,some h=>match SS rows l h,xA σ mx h with
    |some rs,some m=>if k'=k/\m=h then
     (if fr=true then
      match QP G r p σ with
      |some (_,τ)=>wr d (.sl mx.isSome k (rs.map (·.map JM))) τ
      |none=>none
     else if l=0/\mx.isNone=true then
      match ZO G r p σ with
      |some (_,τ)=>wr d (.own false k rs) τ
      |none=>none
     else none)
     else none
    |_,_=>none
   |_,_=>none
  |_=>none
 | .app k bytes x y,some d=>match Wh G k y σ with
  |some (ys,τ)=>match VD G k x τ with
   |some (.own _ _ rows,τ')=>if Af (rows.length+ys.length) bytes=true then wr d (.own false k (rows++ys)) τ' else none
   |some (.sl _ _ rows,τ')=>if ys.isEmpty=true then wr d (.sl false k rows) τ'
    else if Af (rows.length+ys.length) bytes=true then wr d (.own false k (rows++ys)) τ' else none
   |_=>none
  |none=>none
 | .st n a v,none=>match tk G v σ with
  |some (x,τ)=>match EB τ a with
   |some (r,p,i,j,k)=>match sub (τ r) p with
    |some (.own _ _ rows)=>match rows[i]? with
     |some row=>
      if(cellsOf x).length=n/\(cellsOf x).all FL=true/\j+n≤row.length then
       match stC p i k j (cellsOf x) (τ r)with
       |some t=>if((row.drop j).take n).all C0=true then some (DR τ r t)else some (DR (JY G r τ) r t)
       |none=>none
      else none
     |none=>none
    |_=>none
   |none=>none
  |none=>none
 | .WC a v,none=>match ar σ v with
  | .sc u=>match EB σ a with
   |some (r,p,i,j,k)=>match sub (σ r) p with
    |some (.own _ _ rows)=>match rows[i]? with
     |some row=>match row[j]? with
      |some (.sc _)=>match put (σ r) (p++[(i,j,k)]) (.sc u)with
       |some t=>some (DR σ r t)
       |none=>none
      |_=>none
     |none=>none
    |_=>none
   |none=>none
  |_=>none
 | .std a,none=>match EB σ a with
  |some (r,p,i,j,_)=>match sub (σ r) (p++[(i,j,0)])with
   |some .dead=>some σ
   |_=>none
  |none=>none
 |o,some d=>match valOf o σ with
  |some v=>wr d v σ
  |none=>none
 |_,none=>none
theorem lda_ld {a:Ar} {σ:Sg} {v:AV} (h:valOf (.XZ a) σ=some v):valOf (.ld false 1 a) σ=some v:=by
 simp only[valOf]at h ⊢;split at h
 . rename_i r p i j k d;split at h
   . rename_i b y rows u;split at h
     . rename_i e n;split at h
       . rename_i g x f l;obtain rfl:=Option.some.inj h;have hd:(e.drop j).take 1=[.own g x f]:=(by obtain⟨m,w⟩:=List.getElem?_eq_some_iff.1 l;rw[List.drop_eq_getElem_cons m,w];rfl);cases a with
         |c=>simp[EB]at d
         |t s=>
          simp only;cases hσ:σ s with
          |fp cs=>simp[EB,hσ]at d
          |vb q o us=>simp[EB,hσ]at d
          |_=>simp only[d,u,n,hd];rfl
       . cases h
     . cases h
   . cases h
 . cases h
theorem sts_st {G:Gi} {a v:Ar} {σ τ:Sg} (h:GU G (.WC a v) none σ=some τ):GU G (.st 1 a v) none σ=some τ:=by
 simp only[GU]at h ⊢;split at h
 . rename_i u d;have f:tk G v σ=some (.sc u,σ):=by
    cases v with
    |c c=>simp only[ar]at d;subst d;rfl
    |t s=>simp only[ar]at d;simp[tk,d]
   rw[f];simp only;split at h
   . rename_i r p i j k g
     try simp only[g]
     split at h
     . rename_i b y rows o
       try simp only[o]
       split at h
       . rename_i e n
         try simp only[n]
         split at h
         . rename_i x l;obtain⟨m,w⟩:=List.getElem?_eq_some_iff.1 l;have hd:(e.drop j).take 1=[.sc x]:=(by rw[List.drop_eq_getElem_cons m,w];rfl);split at h
           . rename_i t q;obtain rfl:=Option.some.inj h;rw[if_pos ⟨by simp[cellsOf],by simp[cellsOf,FL],by omega⟩];simp[cellsOf,stC,q,hd,C0]
           . cases h
         . cases h
       . cases h
     . cases h
   . cases h
 . cases h
def cG (kb off:Nat):AV->Bool
 | .own true k [row]=>k==kb&&decide (off<row.length)
 |_=>false
end Go.Abs
namespace Go.Abs
structure Ext (w w':World) (F:Nat->Prop):Prop where
 os:w'.os=w.os
 tape:w'.tape=w.tape
 output:w'.output=w.output
 size:w.heap.size≤w'.heap.size
 block:∀b,b<w.heap.size->¬F b->w'.heap[b]? =w.heap[b]?
def LD:List ABs:=[⟨#[118,97,114]⟩,⟨#[118,111,108,97,116,105,108,101]⟩,⟨#[109,117,116,101,120]⟩,⟨#[114,119,108,111,99,107]⟩,⟨#[99,111,110,100]⟩,⟨#[102,117,116,117,114,101]⟩,⟨#[116,104,114,101,97,100]⟩,⟨#[105,102]⟩,⟨#[101,108,115,101]⟩,⟨#[119,104,105,108,101]⟩,⟨#[108,111,99,107]⟩,⟨#[114,101,97,100]⟩,⟨#[119,114,105,116,101]⟩,⟨#[116,114,97,110,115,97,99,116,105,111,110]⟩,⟨#[97,116,111,109,105,99]⟩,⟨#[119,97,105,116]⟩,⟨#[110,111,116,105,102,121]⟩,⟨#[110,111,116,105,102,121,97,108,108]⟩,⟨#[115,112,97,119,110]⟩,⟨#[106,111,105,110]⟩,⟨#[115,101,116]⟩,⟨#[103,101,116]⟩]
def Gam:List (Nat×List Value):=[(0,LD.map Value.string)]
def GI (w:World) (S:Nat->Prop):Prop:=∀x∈Gam,S x.1/\∃arr E fz,w.heap[x.1]? =some (.cells arr E fz)/\∀(j:Nat) v,x.2[j]? =some v->arr[j]? =some v
def A8 (P:Program) (f:Nat) (args:List AV) (res:AV) (outs:List AV):Prop:=
 ∀(w:World) (S:Nat->Prop) (ds:List DV) (F:Nat->Prop),GI w S->ds.map DV.er=args->Ok w S (.BI ds) F->(∀b,S b->b<w.heap.size)->
  Calls P f (ds.map DV.Aw).toArray w λe w'=>∃(r:DV) (os:List DV) (S' F':Nat->Prop),e= .returned r.Aw/\r.er=res/\os.map DV.er=outs/\os.map DV.Aw=ds.map DV.Aw/\
   Ok w' S' (.BI (r::os)) F'/\Ext w w' F/\(∀b,S b->S' b)/\(∀b,S' b->S b∨F b∨w.heap.size≤b)/\(∀b,S' b->b<w'.heap.size)/\(∀x,F' x->F x∨w.heap.size≤x)
def Says (P:Program) (f:Nat) (args:List AV) (res:AV):Prop:=A8 P f args res (args.map λ_=>.dead)
def TJ (σ:Sg):AV->ABr AV
 | .al r p=>match sub (σ r) p with
  |some (.own false k rows)=>some (JM (.own false k rows))
  |some (.own true _ [row])=>some (.fp (row.map JM))
  |_=>none
 | .own false k rows=>some (JM (.own false k rows))
 | .own true _ [row]=>some (.fp (row.map JM))
 | .fp cs=>some (.fp cs)
 | .sc v=>some (.sc v)
 | .sl _ k rows=>some (.sl false k rows)
 |_=>none
def xB (σ:Sg):List AV->ABr (List AV)
 |[]=>some []
 |a::r=>match TJ σ a,xB σ r with
  |some x,some l=>some (x::l)
  |_,_=>none
def gY (σ:Sg):AV->ABr AV
 | .agg cs=>match xB σ cs with
  |some l=>some (.agg l)
  |none=>none
 | .al r p=>TJ σ (.al r p)
 | .own b k rows=>TJ σ (.own b k rows)
 | .sc v=>TJ σ (.sc v)
 | .sl e k rows=>TJ σ (.sl e k rows)
 | .fp cs=>TJ σ (.fp cs)
 |_=>none
def Jr (σ:Sg):List Ar->ABr (List AV)
 |[]=>some []
 |x::r=>match gY σ (ar σ x),Jr σ r with
  |some a,some l=>some (a::l)
  |_,_=>none
def fzl:AV->AV
 | .sl _ k rows=>.sl false k rows
 |a=>JM a
def wS:AV->AV
 | .agg cs=>.agg (cs.map fzl)
 |a=>fzl a
def M6 (G:Gi):List Ar->Sg->ABr (List AV×Sg)
 |[],σ=>some ([],σ)
 |x::r,σ=>match tk G x σ with
  |some (a,τ)=>match M6 G r τ with
   |some (l,τ')=>some (wS a::l,τ')
   |none=>none
  |none=>none
def Q1 (G:Gi):List Ar->Sg->ABr (List AV×Sg)
 |[],σ=>some ([],σ)
 |x::r,σ=>match tk G x σ with
  |some (a,τ)=>match Q1 G r τ with
   |some (l,τ')=>some (a::l,τ')
   |none=>none
  |none=>none
def Wp (σ:Sg):List (Nat×List Step)->ABr (List (List AV))
 |[]=>some []
 | (r,p)::l=>match TJ σ (.al r p),Wp σ l with
  |some (.fp cs),some V1=>some (cs::V1)
  |_,_=>none
def Vs (G:Gi):List Ar->Sg->ABr (List AV×Sg)
 |[],_=>none
 |x::r,σ=>match r with
  |[]=>(match ar σ x with
   | .cl f rs=>(match Wp σ rs with
    |some V1=>some ([.mG f V1],σ)
    |none=>none)
   |_=>none)
  |y::r=>match tk G x σ with
   |some (a,τ)=>match Vs G (y::r) τ with
    |some (l,τ')=>some (a::l,τ')
    |none=>none
   |none=>none
def Zm:AV->Bool
 | .sc _=>true
 | .agg cs=>cs.all λ| .sc _=>true|_=>false
 | .BI cs=>cs.all λ| .sc _=>true|_=>false
 |_=>false
mutual
def fresh:AV->Bool
 | .sc _=>true
 | .own _ _ rows=>RE rows
 | .agg cs=>O5 cs
 | .BI cs=>O5 cs
 |_=>false
def O5:List AV->Bool
 |[]=>true
 |a::r=>fresh a&&O5 r
def RE:List (List AV)->Bool
 |[]=>true
 |a::r=>O5 a&&RE r
end
def KQ:AV->Bool
 | .sc _| .sl .. | .own .. =>true
 |_=>false
def clean:AV->Bool
 | .agg cs=>cs.all KQ
 | .BI cs=>cs.all λ
  | .agg l=>l.all KQ
  |a=>KQ a
 |a=>KQ a
def UU (m:Nat) (res:AV):Option AV:=
 match m with
 |0=>if Zm res=true then some res else none
 |1=>some (JM res)
 |2=>if fresh res=true then some res else none
 |3=>if clean res=true then some res else none
 |4=>if fresh res=true then some res else none
 |_=>none
def GR (G:Gi) (m:Nat) (args:List Ar) (σ:Sg):Option (List AV×Sg):=
 match m with
 |1=>M6 G args σ
 |3=>Q1 G args σ
 |4=>Vs G args σ
 |_=>match Jr σ args with
  |some l=>some (l,σ)
  |none=>none
def Ct (dst:Option Dk) (v:AV) (K:Sg->Prop) (τ:Sg):Prop:=
 match dst with
 |some d=>(match wr d v τ with
  |some τ'=>K τ'
  |none=>False)
 |none=>K τ
def vD (σ:Sg):Ar->Option (Nat×List Step)
 | .t s=>match σ s with
  | .al r p=>some (r,p)
  | .own _ _ _=>some (s,[])
  |_=>none
 | .c _=>none
def IG:AV->Bool
 | .own .. | .dead=>true
 |_=>false
def RX:AV->AV
 | .sc v=>.sc v
 | .sl _ k rows=>.sl false k rows
 |_=>.dead
def rdF (σ:Sg):Ar->Option AV
 | .t s=>match σ s with
  | .agg cs=>some (.agg (cs.map RX))
  |a=>some (RX a)
 | .c a=>match a with
  | .sc v=>some (.sc v)
  | .own false k []=>some (.sl false k [])
  |_=>none
def Mz (σ:Sg):List Ar->Option (List AV)
 |[]=>some []
 |x::r=>match rdF σ x,Mz σ r with
  |some a,some l=>some (a::l)
  |_,_=>none
def PY (σ:Sg) (x:Ar) (c:Option Nat):Option (Nat×List Step):=match c with
 |none=>vD σ x
 |some j=>match x with
  | .t s=>match σ s with
   | .agg cs=>match cs[j]? with
    |some (.al r p)=>some (r,p)
    |some (.own _ _ _)=>some (s,[(0,j,0)])
    |_=>none
   |_=>none
  | .c _=>none
def Sr (σ:Sg) (x:Ar) (c:Option Nat) (n:AV):AV:=match c with
 |none=>n
 |some j=>match ar σ x with
  | .agg cs=>.agg ((cs.map RX).set j n)
  |_=>.dead
def SF (c:Option Nat) (out:AV):Option AV:=match c with
 |none=>some out
 |some j=>match out with
  | .agg cs=>cs[j]?
  |_=>none
def Ss (u:AV) (b:Bool) (k:Nat) (p:List Step):Nat:=match u with
 | .own b' k' _=>if b'=b/\k'=k then p.length+1 else 0
 |_=>0
def EA (P:Program) (G:Gi) (o:BJ) (K:Sg->Prop) (σ:Sg):Prop:=
 match o.op with
 | .call f args m=>match GR G m args σ with
  |some (aZ9,τ)=>∃res,Says P f aZ9 res/\(match UU m res with
   |some v=>Ct o.dst v K τ
   |none=>False)
  |none=>False
 | .Up f pre x c post=>match PY σ x c,Mz σ pre,Mz σ post with
  |some (r,p),some aZ9,some bs=>(match sub (σ r) p with
   |some (.own b k rows)=>∃res out u,A8 P f (aZ9++Sr σ x c (.own b k rows)::bs) res ((aZ9.map λ_=>.dead)++out::bs.map λ_=>.dead)/\SF c out=some u/\IG u=true/\clean res=true/\(match put (σ r) p u with
    |some t=>Ct o.dst res K (DR (FU G (Ss u b k p) r σ) r t)
    |none=>False)
   |_=>False)
  |_,_,_=>False
 |op=>match GU G op o.dst σ with
  |some τ=>K τ
  |none=>False
def Ko (P:Program) (G:Gi) (o:BJ) (K:Sg->Prop) (σ:Sg):Prop:=
 match o.guard with
 |none=>EA P G o K σ
 |some (g,want)=>match σ g with
  | .sc (.bool b)=>if b=want then EA P G o K σ else
   (match o.dst with
   |some d=>K (DR (JZ d.kl d.d σ) d.d .un)
   |none=>K σ)
  | .un=>(match o.dst with
   |some d=>K (DR (JZ d.kl d.d σ) d.d .un)
   |none=>K σ)
  |_=>False
def Nb (P:Program) (G:Gi):List BJ->(Sg->Prop)->Sg->Prop
 |[],K,σ=>K σ
 |o::os,K,σ=>Ko P G o (Nb P G os K) σ
def rowsOf:AV->Option (List (List AV))
 | .own false _ rows=>some rows
 | .sl _ _ rows=>some rows
 |_=>none
def sG (σ:Sg):List (Nat×List Step)->Option (List AV)
 |[]=>some []
 | (r,p)::l=>match TJ σ (.al r p),sG σ l with
  |some a,some aZ9=>some (a::aZ9)
  |_,_=>none
def cloA (σ:Sg) (f:Nat) (x:Ar) (args:List Ar):Option (List AV):=match ar σ x with
 | .cl f' rs=>if f'=f then(match Jr σ args,sG σ rs with
  |some aZ9,some bs=>some (aZ9++bs)
  |_,_=>none)else none
 |_=>none
def fP (g n:Nat):Option (List Value):=match Gam.find? (λx=>x.1==g)with
 |some x=>if x.2.length=n/\x.2.all GM=true then some x.2 else none
 |none=>none
def YR (d:Option Dk) (K:Sg->Prop) (σ:Sg):Prop:=match d with
 |some d=>K (DR (JZ d.kl d.d σ) d.d .un)
 |none=>K σ
def gdP (g:Option (Nat×Bool)) (A B:Sg->Prop) (σ:Sg):Prop:=match g with
 |none=>A σ
 |some (g,want)=>match σ g with
  | .sc (.bool b)=>if b=want then A σ else B σ
  | .un=>B σ
  |_=>False
def zH (P:Program) (d:Option Dk) (f:Nat) (x:Ar) (args:List Ar) (K:Sg->Prop) (σ:Sg):Prop:=match cloA σ f x args with
 |some aZ9=>∃res,Says P f aZ9 res/\(match UU 0 res with
  |some v=>Ct d v K σ
  |none=>False)
 |none=>False
def lbQ (P:Program) (G:Gi) (d:Option Dk) (f:Nat) (r r2:Nat) (p p2:List Step) (v n:AV) (b:Bool) (k:Nat) (ms:List AV) (K:Sg->Prop) (τ:Sg):Prop:=
 r≠r2/\∃res out,A8 P f (n::(ms++[v])) res (out::((ms.map λ_=>.dead)++[v]))/\IG out=true/\clean res=true/\(match put (τ r) p out with
  |some t=>(match put (DR (FU G (Ss out b k p) r τ) r t r2) p2 v with
   |some t2=>Ct d res K (DR (FU G p2.length r2 (DR (FU G (Ss out b k p) r τ) r t)) r2 t2)
   |none=>False)
  |none=>False)
def lbP (P:Program) (G:Gi) (d:Option Dk) (f:Nat) (x:Ar) (Sw:List Ar) (y:Ar) (K:Sg->Prop) (σ:Sg):Prop:=match vD σ y with
 |some (r2,p2)=>(match ZO G r2 p2 σ with
  |some (v,τ)=>(match vD τ x,Mz τ Sw with
   |some (r,p),some ms=>(match sub (τ r) p with
    |some (.own b k rows)=>lbQ P G d f r r2 p p2 v (.own b k rows) b k ms K τ
    |_=>False)
   |_,_=>False)
  |none=>False)
 |none=>False
def MB (P:Program) (G:Gi):List jZ->(Sg->Prop)->Sg->Prop
 |[],K,σ=>K σ
 | .o o::xs,K,σ=>Ko P G o (MB P G xs K) σ
 | .cL d neg x::xs,K,σ=>match hd σ x with
  |some (a,_)=>(match rowsOf a with
   |some rows=>∀b:Bool,(b=true->rows=[])->Ct (some d) (.sc (.bool (if neg=true then !b else b))) (MB P G xs K) σ
   |none=>False)
  |none=>False
 | .gld d g n::xs,K,σ=>match fP g n with
  |some cs=>Ct (some d) (.agg (cs.map .sc)) (MB P G xs K) σ
  |none=>False
 | .bxv d n s::xs,K,σ=>match σ s with
  | .agg cs=>cs.length=n/\∀us:List Value,us.length=n->Ct (some d) (.vb s 0 us) (MB P G xs K) σ
  |_=>False
 | .lb d f x Sw y::xs,K,σ=>lbP P G d f x Sw y (MB P G xs K) σ
 | .clo d f x args g::xs,K,σ=>gdP g (zH P d f x args (MB P G xs K)) (YR d (MB P G xs K)) σ
def czS (G:Gi) (r:Nat) (p:List Step) (σ:Sg):Option Sg:=match sub (σ r) p with
 |some (.own b k rows)=>(match put (σ r) p (.own b k (Oe rows))with
  |some t=>some (DR (FU G (p.length+1) r σ) r t)
  |none=>none)
 |_=>none
def gzS (G:Gi) (c:Bool) (r:Nat) (p:List Step) (σ:Sg):Option Sg:=if c=true then czS G r p σ else match sub (σ r) p with
 |some (.sl _ _ _)=>some σ
 |_=>match QP G r p σ with
  |some (_,τ)=>some τ
  |none=>none
def pgQ (G:Gi) (c:Bool) (r:Nat) (p:List Step) (Q:Exit->Sg->Prop):Exit->Sg->Prop
 | .normal,σ=>(match gzS G c r p σ with
  |some τ=>Q .normal τ
  |none=>False)
 |e,σ=>Q e σ
def Ql (P:Program) (G:Gi) (f:wN):List BJ->(Sg->Prop)->Sg->Prop
 |[],K,σ=>K σ
 |o::os,K,σ=>cG f.kb f.off (σ f.r)=true/\Ko P G o (Ql P G f os K) σ
def PL:AV->Bool
 | .own false _ _=>true
 |_=>false
def RM:AV->Bool
 | .Kn .. =>true
 |_=>false
def u6 (f:wK) (m:Nat) (σ:Sg):Bool:=(decide (m≤f.i7)||PL (σ f.s))&&(decide (m≤f.i8)||RM (σ f.e))&&(decide (m≤f.i11)||RM (σ f.ap))
def OC (P:Program) (G:Gi) (f:wK):Nat->List BJ->(Sg->Prop)->Sg->Prop
 |m,[],K,σ=>u6 f m σ=true/\K σ
 |m,o::os,K,σ=>u6 f m σ=true/\Ko P G o (OC P G f (m+1) os K) σ
def Exit.Qj (next:Sg->Prop) (Q:Exit->Sg->Prop):Exit->Sg->Prop
 | .normal,σ=>next σ
 |e,σ=>Q e σ
def Exit.Wo (id:Nat) (Q:Exit->Sg->Prop):Exit->Sg->Prop
 | .exit i,σ=>if i=id then Q .normal σ else Q (.exit i) σ
 |e,σ=>Q e σ
def Hi (P:Program) (G:Gi):IC->(Exit->Sg->Prop)->Sg->Prop
 | .skip,Q,σ=>Q .normal σ
 | .bad,_,_=>False
 | .nV xs,Q,σ=>MB P G xs (Q .normal) σ
 | .apd f ops,Q,σ=>OC P G f 0 ops (Ko P G ⟨none,.st 1 (.t f.ap) (.t f.s),none⟩ (Q .normal)) σ
 | .pg c r p a,Q,σ=>Hi P G a (pgQ G c r p Q) σ
 | .gz c r p a,Q,σ=>match gzS G c r p σ with
  |some τ=>Hi P G a Q τ
  |none=>False
 | .ZJ ops,Q,σ=>Nb P G ops (Q .normal) σ
 | .flo f a b,Q,σ=>Ql P G f a (Nb P G b (Q .normal)) σ
 | .dS _ ops,Q,σ=>Nb P G ops (Q .normal) σ
 | .seq a b,Q,σ=>Hi P G a (Exit.Qj (Hi P G b Q) Q) σ
 | .cond c a b,Q,σ=>match ar σ c with
  | .sc (.bool x)=>if x=true then Hi P G a Q σ else Hi P G b Q σ
  |_=>False
 | .block id a,Q,σ=>Hi P G a (Exit.Wo id Q) σ
 | .loop a,Q,σ=>∃I:Nat->Sg->Prop,(∃n,I n σ)/\∀n τ,I n τ->Hi P G a (Exit.Qj (λτ'=>∃n',n'<n/\I n' τ') Q) τ
 | .exit id,Q,σ=>Q (.exit id) σ
 | .ret,Q,σ=>Q .ret σ
theorem yY (P:Program) (G:Gi) (Q:Exit->Sg->Prop) (σ:Sg):Hi P G .skip Q σ=Q .normal σ:=(rfl)
theorem awp_reg (P:Program) (G:Gi) (ops:List BJ) (Q:Exit->Sg->Prop) (σ:Sg):Hi P G (.ZJ ops) Q σ=Nb P G ops (Q .normal) σ:=(rfl)
theorem awp_rex (P:Program) (G:Gi) (a:List jZ) (Q:Exit->Sg->Prop) (σ:Sg):Hi P G (.nV a) Q σ=MB P G a (Q .normal) σ:=(rfl)
theorem oW (P:Program) (G:Gi) (a b:IC) (Q:Exit->Sg->Prop) (σ:Sg):Hi P G (.seq a b) Q σ=Hi P G a (Exit.Qj (Hi P G b Q) Q) σ:=(rfl)
theorem r9 (P:Program) (G:Gi) (b:Nat) (a:IC) (Q:Exit->Sg->Prop) (σ:Sg):Hi P G (.block b a) Q σ=Hi P G a (Exit.Wo b Q) σ:=(rfl)
theorem yW (P:Program) (G:Gi) (a:Nat) (Q:Exit->Sg->Prop) (σ:Sg):Hi P G (.exit a) Q σ=Q (.exit a) σ:=(rfl)
theorem awp_ret (P:Program) (G:Gi) (Q:Exit->Sg->Prop) (σ:Sg):Hi P G .ret Q σ=Q .ret σ:=(rfl)
theorem eV (P:Program) (G:Gi) (c:Ar) (a b:IC) (Q:Exit->Sg->Prop) (σ:Sg):Hi P G (.cond c a b) Q σ=match ar σ c with
 | .sc (.bool x)=>if x=true then Hi P G a Q σ else Hi P G b Q σ
 |_=>False:=rfl
theorem yX {P:Program} {G:Gi} {a:IC} {Q:Exit->Sg->Prop} {σ:Sg} (I:Nat->Sg->Prop) (n:Nat) (h:I n σ)
 (b:∀n τ,I n τ->Hi P G a (Exit.Qj (λc=>∃d,d<n/\I d c) Q) τ):Hi P G (.loop a) Q σ:=⟨I,⟨n,h⟩,b⟩
theorem jF (next:Sg->Prop) (Q:Exit->Sg->Prop) (σ:Sg):Exit.Qj next Q .normal σ=next σ:=(rfl)
theorem vT (next:Sg->Prop) (Q:Exit->Sg->Prop) (a:Nat) (σ:Sg):Exit.Qj next Q (.exit a) σ=Q (.exit a) σ:=(rfl)
theorem seqA_ret (next:Sg->Prop) (Q:Exit->Sg->Prop) (σ:Sg):Exit.Qj next Q .ret σ=Q .ret σ:=(rfl)
theorem Yo (a:Nat) (Q:Exit->Sg->Prop) (σ:Sg):Exit.Wo a Q .normal σ=Q .normal σ:=(rfl)
theorem O2 (a i:Nat) (Q:Exit->Sg->Prop) (σ:Sg):Exit.Wo a Q (.exit i) σ=if i=a then Q .normal σ else Q (.exit i) σ:=(rfl)
theorem lM (a:Nat) (Q:Exit->Sg->Prop) (σ:Sg):Exit.Wo a Q .ret σ=Q .ret σ:=(rfl)
inductive RV where
 |tmp (t:Nat)
 |cell (a:Nat) (agg:Bool) (n:Nat)
 deriving Inhabited
def Fp (G:Gi):List RV->Sg->Option (List AV×Sg)
 |[],σ=>some ([],σ)
 | .tmp t::l,σ=>match tk G (.t t) σ with
  |some (v,τ)=>match Fp G l τ with
   |some (vs,τ')=>some (v::vs,τ')
   |none=>none
  |none=>none
 | .cell a agg n::l,σ=>match σ a with
  | .own true _ [row]=>match Ia agg n row with
   |some v=>match Fp G l (DR (JY G a σ) a .dead)with
    |some (vs,τ')=>some (v::vs,τ')
    |none=>none
   |none=>none
  |_=>none
def one:List AV->AV
 |[v]=>v
 |vs=>.BI vs
def Ends (G:Gi) (rs:List RV) (res:AV) (e:Exit) (σ:Sg):Prop:=
 (match e with| .normal=>True| .ret=>True|_=>False)/\∃vs τ,Fp G rs σ=some (vs,τ)/\one vs=res
def start (args:List AV):Sg:=λs=>args.getD s .un
end Go.Abs
namespace Go.Abs
variable {w w':World} {S S':Nat->Prop} {F F':Nat->Prop} {G:Gi} {δ δ':Nat->DV} {Fr:Nat->Nat->Prop}
theorem XQ (n d r:Nat) (p:List Step):E1 n d (.al r p)=if r=d/\n≤p.length then .dead else .al r p:=by simp[E1]
theorem UE (n d r:Nat) (p:List Step) (i j k:Nat):E1 n d (.Kn r p i j k)=if r=d/\n≤p.length then .dead else .Kn r p i j k:=by simp[E1]
@[simp]theorem Zz (n d:Nat) (a:List AV):E1 n d (.agg a)= .agg (a.map (E1 n d)):=by simp[E1,Zy]
@[simp]theorem Z0 (n d:Nat) (a:List AV):E1 n d (.BI a)= .BI (a.map (E1 n d)):=by simp[E1,Zy]
theorem XS (n d s o:Nat) (a:List Value):E1 n d (.vb s o a)=if s=d then .dead else .vb s o a:=by simp[E1]
theorem XR (n d f:Nat) (rs:List (Nat×List Step)):E1 n d (.cl f rs)=if(rs.all λx=>x.1 != d)=true then .cl f rs else .dead:=by simp[E1]
@[simp]theorem Zx (n d:Nat) (a:AV) (v:Value):GL n d (.lf a v)= .lf (E1 n d a) v:=by simp[GL]
@[simp]theorem Li (n d:Nat) (h:Value) (b:Bool) (k:Nat) (rows:List (List DV)):GL n d (.own h b k rows)= .own h b k rows:=by simp[GL]
@[simp]theorem KY (n d:Nat) (a:List DV):GL n d (.agg a)= .agg (a.map (GL n d)):=by simp[GL,XP]
@[simp]theorem KZ (n d:Nat) (a:List DV):GL n d (.BI a)= .BI (a.map (GL n d)):=by simp[GL,XP]
theorem P9 (L:List Nat) (n d:Nat):∀(a:AV),Fh L a=true->Fh L (E1 n d a)=true
 | .al r p,h=>by
  rw[XQ];split
  . simp
  . exact h
 | .Kn r p i j k,h=>by
  rw[UE];split
  . simp
  . exact h
 | .agg cs,h=>by rw[Jz,AAX]at h;rw[Zz,Jz,ABR,AAX];intro c b;exact P9 L n d c (h c b)
 | .BI cs,h=>by rw[N0,AAX]at h;rw[Z0,N0,ABR,AAX];intro c b;exact P9 L n d c (h c b)
 | .sc _,_=>by simp[E1]
 | .sl ..,_=>by simp[E1]
 | .own ..,_=>by simp[E1]
 | .fp _,_=>by simp[E1]
 | .dead,_=>by simp[E1]
 | .un,_=>by simp[E1]
 | .mG ..,_=>by simp[E1,Fh]
 | .vb s o us,h=>by
  rw[XS];split
  . simp
  . exact h
 | .cl f rs,h=>by
  rw[XR];split
  . exact h
  . simp
theorem nG {a:AV} (n d:Nat) {v:Value} (b:Hg w S a v):Hg w S (E1 n d a) v:=by
 cases a with
 |al r p=>rw[XQ];split<;>simp[Hg]
 |Kn r p i j k=>rw[UE];split<;>simp[Hg]
 |cl f rs=>rw[XR];split<;>trivial
 |vb s o us=>rw[XS];split<;>first|trivial|exact b
 |agg cs=>exact b.elim
 |BI cs=>exact b.elim
 |own=>exact b.elim
 |_=>simpa[E1]using b
theorem LP {x:DV} (n d:Nat) (h:Ok w S x F):(GL n d x).er=E1 n d x.er/\(GL n d x).Aw=x.Aw/\Ok w S (GL n d x) F:=by
 induction h with
 |lf a v F ha hF=>refine⟨by simp,by simp,?_⟩;rw[Zx];exact .lf _ v F (nG n d ha) hF
 |nil k F hF=>exact⟨by simp[E1],by simp,by rw[Li];exact .nil k F hF⟩
 |own bx k rows b c arr E Fs F hb hk Dv LO hv hr hd Ba KG hF ih=>exact⟨by simp[E1],by simp,by rw[Li];exact .own bx k rows b c arr E Fs F hb hk Dv LO hv hr hd Ba KG hF⟩
 |agg cs Fs F hr hd Ba hF ih=>
  have key:∀e∈cs,(GL n d e).er=E1 n d e.er/\(GL n d e).Aw=e.Aw:=by intro e f;obtain⟨i,hi⟩:=AAu f;exact⟨(ih i e hi).1,(ih i e hi).2.1⟩
  refine⟨?_,?_,?_⟩
  . simp only[KY,HU,Zz,List.map_map,AV.agg.injEq];exact List.map_congr_left λe f=>(key e f).1
  . simp only[KY,Jk,List.map_map];congr 2;exact List.map_congr_left λe f=>(key e f).2
  . rw[KY];refine .agg _ Fs F ?_ hd ?_ hF
    . intro i e g;simp only[AAb,AAt]at g;obtain⟨j,l,rfl⟩:=g;exact(ih i j l).2.2
    . intro i x m;obtain⟨e,g⟩:=Ba i x m;exact⟨GL n d e,by simp[g]⟩
 |BI cs Fs F hr hd Ba hF ih=>
  have key:∀e∈cs,(GL n d e).er=E1 n d e.er/\(GL n d e).Aw=e.Aw:=by intro e f;obtain⟨i,hi⟩:=AAu f;exact⟨(ih i e hi).1,(ih i e hi).2.1⟩
  refine⟨?_,?_,?_⟩
  . simp only[KZ,JL,Z0,List.map_map,AV.BI.injEq];exact List.map_congr_left λe f=>(key e f).1
  . simp only[KZ,LJ,List.map_map];congr 2;exact List.map_congr_left λe f=>(key e f).2
  . rw[KZ];refine .BI _ Fs F ?_ hd ?_ hF
    . intro i e g;simp only[AAb,AAt]at g;obtain⟨j,l,rfl⟩:=g;exact(ih i j l).2.2
    . intro i x m;obtain⟨e,g⟩:=Ba i x m;exact⟨GL n d e,by simp[g]⟩
theorem DU.E1 {x:DV} (n d:Nat) (h:DU δ x) (g:ZU x)
 (q:∀r p v bx k rows,(r≠d∨p.length<n)->Aq (δ r) p=some (.own v bx k rows)->∃c,Aq (δ' r) p=some (.own v bx k c)) (y:∀r,r≠d->(δ' r).Aw=(δ r).Aw):DU δ' (GL n d x):=by
 induction h with
 |lf a v h=>
  rw[Zx];refine .lf _ v ?_;cases g with
  |lf _ _ g=>
   cases a with
   |al r p=>
    rw[XQ];split
    . trivial
    . rename_i e;obtain⟨bx,k,rows,h⟩:=h;obtain⟨c,l⟩:=q r p v bx k rows (by omega) h;exact⟨bx,k,c,l⟩
   |Kn r p i j k=>
    rw[UE];split
    . trivial
    . obtain⟨t,bx,rows,b,h,E,rfl⟩:=h;obtain⟨c,l⟩:=q r p t bx k rows (by omega) h;exact⟨t,bx,c,b,l,E,rfl⟩
   |vb s o us=>
    rw[XS];split
    . trivial
    . exact(y s (by assumption)).trans h
   |cl f rs=>
    rw[XR];split
    . rename_i w;obtain⟨vs,B,C,D⟩:=h;refine⟨vs,B,C,λi r p u hi G=> ?_⟩;obtain⟨bx,k,rows,F⟩:=D i r p u hi G;rw[AAX]at w;obtain⟨c,l⟩:=q r p u bx k rows (.inl (by simpa using w _ (AAe hi))) F;exact⟨bx,k,c,l⟩
    . trivial
   |agg cs=>simp[C0]at g
   |BI cs=>simp[C0]at g
   |own=>simp[C0]at g
   |_=>simp only[Abs.E1];trivial
 |own=>rw[Li];exact .own _ _ _ _
 |agg cs _ ih=>
  rw[KY];cases g with
  |agg _ g=>refine .agg _ λi z hd=> ?_;simp only[AAb,AAt]at hd;obtain⟨e,m,rfl⟩:=hd;exact ih i e m (g i e m)
 |BI cs _ ih=>
  rw[KZ];cases g with
  |BI _ g=>refine .BI _ λi z hd=> ?_;simp only[AAb,AAt]at hd;obtain⟨e,m,rfl⟩:=hd;exact ih i e m (g i e m)
theorem St.QA (h:St G w S δ Fr) (n d s:Nat):(EL G n d δ s).er=FU G n d (λs=>(δ s).er) s:=by
 unfold EL FU;split
 . exact(LP n d (h.ok s)).1
 . rfl
theorem St.Lj (h:St G w S δ Fr) (n d s:Nat):(EL G n d δ s).Aw=(δ s).Aw:=by
 unfold EL;split
 . exact(LP n d (h.ok s)).2.1
 . rfl
theorem St.uH (h:St G w S δ Fr) (n d s:Nat):Ok w S (EL G n d δ s) (Fr s):=by
 unfold EL;split
 . exact(LP n d (h.ok s)).2.2
 . exact h.ok s
theorem St.uI (h:St G w S δ Fr) (n d s:Nat):Fh (G.Gy s) (EL G n d δ s).er=true:=by
 unfold EL;split
 . rw[(LP n d (h.ok s)).1];exact P9 _ n d _ (h.rt s)
 . exact h.rt s
theorem Vr {t:DV} (n d:Nat) (q:List Step) {v:Value} {bx:Bool} {k:Nat} {rows:List (List DV)}:Abs.Aq (GL n d t) q=some (.own v bx k rows)↔Abs.Aq t q=some (.own v bx k rows):=by
 induction q generalizing t with
 |nil=>simp only[Abs.Aq,AAQ];cases t<;>simp
 |cons s q ih=>
  obtain⟨i,j,e⟩:=s;cases t with
  |lf a v=>simp[Abs.Aq]
  |own h b k1 Jb=>rw[Li]
  |agg cs=>
   simp only[KY,Abs.Aq,AAb];cases hj:cs[j]? with
   |none=>simp
   |some c=>simp only[AAw];exact ih
  |BI cs=>
   simp only[KZ,Abs.Aq,AAb];cases hj:cs[j]? with
   |none=>simp
   |some c=>simp only[AAw];exact ih
theorem XT (n d r:Nat) (p:List Step) {v:Value} {bx:Bool} {k:Nat} {rows:List (List DV)}:Abs.Aq (EL G n d δ r) p=some (.own v bx k rows)↔Abs.Aq (δ r) p=some (.own v bx k rows):=by
 unfold EL;split
 . exact Vr n d p
 . exact Iff.rfl
theorem NP {t z y:DV} (q:List Step):∀(p:List Step),q.length≤p.length->Da t p y=some z->(q.length=p.length->∀v bx k rows,Abs.Aq t p=some (.own v bx k rows)->∃f,y= .own v bx k f)->∀{v:Value} {bx:Bool} {k:Nat} {rows:List (List DV)},Abs.Aq t q=some (.own v bx k rows)->∃f,Abs.Aq z q=some (.own v bx k f):=by
 induction q generalizing t z with
 |nil=>
  intro p u d w v bx k rows g;simp only[Abs.Aq,AAQ]at g;subst g
  match p,u with
  |[],_=>simp only[Da,AAQ]at d;subst d;obtain⟨f,h⟩:=w rfl v bx k rows rfl;exact⟨f,by rw[h];rfl⟩
  | (i,j,D)::p,_=>
   simp only[Da]at d;split at d
   . split at d
     . split at d
       . simp only[AAQ]at d;subst d;exact⟨_,by simp[Abs.Aq];rfl⟩
       . cases d
     . cases d
   . cases d
 |cons s q ih=>
  intro p u d w v bx k rows g;obtain⟨i,j,D⟩:=s
  match p,u with
  | (i',j',k')::p,u=>
   have o:q.length≤p.length:=(by simpa using u);cases t with
   |lf a v=>simp[Abs.Aq]at g
   |own h b k1 Jb=>
    simp only[Da]at d;split at d
    . rename_i E B;split at d
      . rename_i c n;split at d
        . rename_i c' r;simp only[AAQ]at d;subst d;simp only[Abs.Aq]at g ⊢;cases hi:Jb[i]? with
          |none=>simp[hi]at g
          |some row2=>
           simp only[hi]at g;cases hj:row2[j]? with
           |none=>simp[hj]at g
           |some c2=>
            simp only[hj]at g;have x:i<Jb.length:=(AAS.1 hi).1;have l:j<row2.length:=(AAS.1 hj).1;by_cases C:i'=i
            . subst C;rw[hi]at B;cases B;rw[AAT x];by_cases m:j'=j
              . subst m;rw[hj]at n;cases n;simp only[AAT l];exact ih p o r (λe v bx k rows h=>w (by simp[e]) v bx k rows (by simp only[Abs.Aq,hi,hj];exact h)) g
              . simp only[AAW m,hj];exact⟨rows,g⟩
            . rw[AAW C];simp only[hi,hj];exact⟨rows,g⟩
        . cases d
      . cases d
    . cases d
   |agg cs=>
    simp only[Da]at d;split at d
    . rename_i c n;split at d
      . rename_i c' r;simp only[AAQ]at d;subst d;simp only[Abs.Aq]at g ⊢;cases hj:cs[j]? with
        |none=>simp[hj]at g
        |some c2=>
         simp only[hj]at g;have l:j<cs.length:=(AAS.1 hj).1;by_cases m:j'=j
         . subst m;rw[hj]at n;cases n;simp only[AAT l];exact ih p o r (λe v bx k rows h=>w (by simp[e]) v bx k rows (by simp only[Abs.Aq,hj];exact h)) g
         . simp only[AAW m,hj];exact⟨rows,g⟩
      . cases d
    . cases d
   |BI cs=>
    simp only[Da]at d;split at d
    . rename_i c n;split at d
      . rename_i c' r;simp only[AAQ]at d;subst d;simp only[Abs.Aq]at g ⊢;cases hj:cs[j]? with
        |none=>simp[hj]at g
        |some c2=>
         simp only[hj]at g;have l:j<cs.length:=(AAS.1 hj).1;by_cases m:j'=j
         . subst m;rw[hj]at n;cases n;simp only[AAT l];exact ih p o r (λe v bx k rows h=>w (by simp[e]) v bx k rows (by simp only[Abs.Aq,hj];exact h)) g
         . simp only[AAW m,hj];exact⟨rows,g⟩
      . cases d
    . cases d
theorem St.setn (h:St G w S δ Fr) (n d:Nat) (g:DV) (Fn:Nat->Prop) (F:∀b,S b->w'.heap[b]? =w.heap[b]?) (D:∀s,s≠d->∀x,Fr s x->w'.heap[x]? =w.heap[x]?)
 (B:∀b,S b->S' b) (C:∀s,s≠d->∀x,Fr s x->¬S' x) (hn:Ok w' S' g Fn) (u:∀s,s≠d->∀x,Fn x->¬Fr s x) (y:Fh (G.Gy d) g.er=true) (z:DU δ g)
 (H:∀p v bx k rows,p.length<n->Abs.Aq (δ d) p=some (.own v bx k rows)->∃c,Abs.Aq g p=some (.own v bx k c)):
 St G w' S' (DR (EL G n d δ) d g) (DR Fr d Fn):=by
 have o:∀r p v bx k rows,(r≠d∨p.length<n)->Abs.Aq (δ r) p=some (.own v bx k rows)->∃c,Abs.Aq (DR (EL G n d δ) d g r) p=some (.own v bx k c):=by
  intro r p v bx k rows f l;by_cases e:r=d
  . subst e;rw[BD];exact H p v bx k rows (by omega) l
  . rw[BT _ _ e];exact⟨rows,(XT n d r p).2 l⟩
 have q:∀r,r≠d->(DR (EL G n d δ) d g r).Aw=(δ r).Aw:=by intro r f;rw[BT _ _ f];exact h.Lj n d r
 refine⟨?_,?_,?_,?_,h.self⟩
 . intro s;by_cases a:s=d
   . subst a;rw[BD,BD];exact hn
   . rw[BT _ _ a,BT _ _ a];exact(h.uH n d s).mono F (D s a) B (C s a)
 . intro s t x i j;by_cases a:s=d<;>by_cases m:t=d
   . omega
   . subst a;rw[BD]at i;rw[BT _ _ m]at j;exact absurd j (u t m x i)
   . subst m;rw[BD]at j;rw[BT _ _ a]at i;exact absurd i (u s a x j)
   . rw[BT _ _ a]at i;rw[BT _ _ m]at j;exact h.MC s t x i j
 . intro s;by_cases a:s=d
   . subst a;rw[BD];refine z.mono y (λr f p v bx k rows l=>o r p v bx k rows (.inl ?_) l) (λr f=>q r ?_)
     . rintro rfl;exact h.self _ f
     . rintro rfl;exact h.self _ f
   . rw[BT _ _ a];unfold EL;split
     . exact(h.al s).E1 n d (h.ok s).Kw o q
     . rename_i hn;have hd:d∉G.Gy s:=λE=>hn (Gi.qK E);refine(h.al s).mono (h.rt s) (λr f p v bx k rows l=>o r p v bx k rows (.inl ?_) l) (λr f=>q r ?_)
       . rintro rfl;exact hd f
       . rintro rfl;exact hd f
 . intro s;by_cases a:s=d
   . subst a;rw[BD];exact y
   . rw[BT _ _ a];exact h.uI n d s
end Go.Abs
namespace Go.Abs
variable {w w':World} {S S':Nat->Prop} {G:Gi} {δ:Nat->DV} {Fr:Nat->Nat->Prop}
structure Nx (w:World) (S U:Nat->Prop) (w':World) (S' U':Nat->Prop):Prop where
 os:w'.os=w.os
 tape:w'.tape=w.tape
 output:w'.output=w.output
 size:w.heap.size≤w'.heap.size
 block:∀b,b<w.heap.size->¬U b->w'.heap[b]? =w.heap[b]?
 sub:∀b,S b->S' b
 sup:∀b,S' b->S b∨U b∨w.heap.size≤b
 lt:(∀b,S b->b<w.heap.size)->∀b,S' b->b<w'.heap.size
 own:∀x,U' x->U x∨w.heap.size≤x
theorem Nx.refl (w:World) (S U:Nat->Prop):Nx w S U w S U:=
 ⟨rfl,rfl,rfl,AAv _,λ_ _ _=>rfl,λ_ h=>h,λ_ h=>.inl h,λh=>h,λ_ h=>.inl h⟩
theorem Nx.less {w:World} {S U a:Nat->Prop} (h:∀x,a x->U x):Nx w S U w S a:=
 ⟨rfl,rfl,rfl,AAv _,λ_ _ _=>rfl,λ_ h=>h,λ_ h=>.inl h,λh=>h,λx b=>.inl (h x b)⟩
theorem Nx.trans {w j l:World} {S S1 S2 U U1 g:Nat->Prop} (h:Nx w S U j S1 U1) (k:Nx j S1 U1 l S2 g):Nx w S U l S2 g:=by
 refine⟨k.os.trans h.os,k.tape.trans h.tape,k.output.trans h.output,ABK h.size k.size,?_,λb c=>k.sub b (h.sub b c),?_,λm b c=>k.lt (h.lt m) b c,?_⟩
 . intro b c i;rw[k.block b (ABW c h.size) ?_,h.block b c i];intro e;rcases h.own b e with a|a
   . exact i a
   . omega
 . intro b c;have f:=h.size;rcases k.sup b c with a|a|a
   . exact h.sup b a
   . rcases h.own b a with d|d
     . exact .inr (.inl d)
     . exact .inr (.inr d)
   . exact .inr (.inr (ABK f a))
 . intro x n;have f:=h.size;rcases k.own x n with a|a
   . exact h.own x a
   . exact .inr (ABK f a)
abbrev BA (Fr:Nat->Nat->Prop):Nat->Prop:=λx=>∃s,Fr s x
theorem kills_eq (d:Nat) (σ:Sg):JZ (G.OB d) d σ=JY G d σ:=by
 unfold JZ JY;split
 . rename_i h;funext s;simp[h]
 . rfl
theorem DU.dead (v:Value):DU δ (.lf .dead v):=.lf _ _ trivial
theorem St.empty (h:St G w S δ Fr) (s:Nat):
 St G w S (DR (HN G s δ) s (.lf .dead (δ s).Aw)) (DR Fr s λ_=>False):=by
 refine h.set s _ _ (λ_ _=>rfl) (λ_ _ _ _=>rfl) (λ_ h=>h) (λt _ x a=>(h.ok t).Et x a) (.lf _ _ _ trivial (λ_ h=>h)) (λ_ _ _ h=>h.elim) (by simp) (DU.dead _)
theorem IH (h:St G w S δ Fr) (d:Nat) (x:DV):(λs=>(DR (HN G d δ) d x s).er)=DR (JY G d (λs=>(δ s).er)) d x.er:=by
 funext s;by_cases a:s=d
 . subst a;simp[DR]
 . simp only[DR,a,AAd];exact h.gL d s
theorem Hh (h:St G w S δ Fr) (d:Nat) (x:DV) (s:Nat):(DR (HN G d δ) d x s).Aw=if s=d then x.Aw else(δ s).Aw:=by
 by_cases a:s=d
 . subst a;simp[DR]
 . simp only[DR,a,AAd];exact h.UG d s
theorem Us {t n:DV} {a:AV} {m:Value} (p:List Step) (e:Da t p (.lf a m)=some n) (q:List Step) {v:Value} {bx:Bool} {k:Nat} {rows:List (List DV)}
 (d:Aq n q=some (.own v bx k rows)):∃f,Aq t q=some (.own v bx k f):=by
 induction p generalizing t n q with
 |nil=>
  simp only[Da,AAQ]at e;subst e;cases q with
  |nil=>simp[Aq]at d
  |cons s q=>simp[Aq]at d
 |cons s p ih=>
  obtain⟨i,j,w⟩:=s;cases t with
  |lf a v=>simp[Da]at e
  |own hh b k1 Jb=>
   simp only[Da]at e;cases hi:Jb[i]? with
   |none=>simp[hi]at e
   |some row=>
    simp only[hi]at e;cases hj:row[j]? with
    |none=>simp[hj]at e
    |some c=>
     simp only[hj]at e;cases hc:Da c p (.lf a m)with
     |none=>simp[hc]at e
     |some c'=>
      simp only[hc,AAQ]at e;subst e;have r:=(AAS.1 hi).1;have g:=(AAS.1 hj).1;cases q with
      |nil=>simp only[Aq,AAQ,DV.own.injEq]at d;obtain⟨rfl,rfl,rfl,_⟩:=d;exact⟨_,rfl⟩
      |cons s2 q=>
       obtain⟨i2,l,o⟩:=s2;simp only[Aq]at d ⊢;by_cases u:i2=i
       . subst u;simp only[AAT r]at d;simp only[hi];by_cases h:l=j
         . subst h;simp only[AAT g]at d;simp only[hj];exact ih hc q d
         . rw[AAW (by omega)]at d;exact⟨rows,d⟩
       . rw[AAW (by omega)]at d;exact⟨rows,d⟩
  |agg cs=>
   simp only[Da]at e;cases hj:cs[j]? with
   |none=>simp[hj]at e
   |some c=>
    simp only[hj]at e;cases hc:Da c p (.lf a m)with
    |none=>simp[hc]at e
    |some c'=>
     simp only[hc,AAQ]at e;subst e;have g:=(AAS.1 hj).1;cases q with
     |nil=>simp[Aq]at d
     |cons s2 q=>
      obtain⟨i2,l,o⟩:=s2;simp only[Aq]at d ⊢;by_cases h:l=j
      . subst h;simp only[AAT g]at d;simp only[hj];exact ih hc q d
      . rw[AAW (by omega)]at d;exact⟨rows,d⟩
  |BI cs=>
   simp only[Da]at e;cases hj:cs[j]? with
   |none=>simp[hj]at e
   |some c=>
    simp only[hj]at e;cases hc:Da c p (.lf a m)with
    |none=>simp[hc]at e
    |some c'=>
     simp only[hc,AAQ]at e;subst e;have g:=(AAS.1 hj).1;cases q with
     |nil=>simp[Aq]at d
     |cons s2 q=>
      obtain⟨i2,l,o⟩:=s2;simp only[Aq]at d ⊢;by_cases h:l=j
      . subst h;simp only[AAT g]at d;simp only[hj];exact ih hc q d
      . rw[AAW (by omega)]at d;exact⟨rows,d⟩
theorem Mc {t l new:DV} (p:List Step) (e:Da t p new=some l) (m:DU δ t) (hn:DU δ new):DU δ l:=by
 induction p generalizing t l with
 |nil=>simp only[Da,AAQ]at e;exact e▸hn
 |cons s p ih=>
  obtain⟨i,j,k⟩:=s;cases m with
  |lf a v h=>simp[Da]at e
  |own hh b k1 rows=>
   simp only[Da]at e;split at e
   . split at e
     . split at e
       . simp only[AAQ]at e;subst e;exact .own _ _ _ _
       . cases e
     . cases e
   . cases e
  |agg cs hr=>
   simp only[Da]at e;split at e
   . rename_i c f;split at e
     . rename_i c' g;simp only[AAQ]at e;subst e;refine .agg _ λi d hd=> ?_;by_cases hi:i=j
       . subst hi;rw[AAT (AAS.1 f).1]at hd;obtain rfl:=AAU hd;exact ih g (hr i c f)
       . rw[AAW (by omega)]at hd;exact hr i d hd
     . cases e
   . cases e
  |BI cs hr=>
   simp only[Da]at e;split at e
   . rename_i c f;split at e
     . rename_i c' g;simp only[AAQ]at e;subst e;refine .BI _ λi d hd=> ?_;by_cases hi:i=j
       . subst hi;rw[AAT (AAS.1 f).1]at hd;obtain rfl:=AAU hd;exact ih g (hr i c f)
       . rw[AAW (by omega)]at hd;exact hr i d hd
     . cases e
   . cases e
theorem Lp {L:List Nat} {t m new:DV} (p:List Step) (d:Da t p new=some m) (e:Fh L t.er=true) (hn:Fh L new.er=true):Fh L m.er=true:=by
 induction p generalizing t m with
 |nil=>simp only[Da,AAQ]at d;exact d▸hn
 |cons s p ih=>
  obtain⟨i,j,k⟩:=s;cases t with
  |lf a v=>simp[Da]at d
  |own hh b k1 rows=>
   simp only[Da]at d;split at d
   . split at d
     . split at d
       . simp only[AAQ]at d;subst d;simp
       . cases d
     . cases d
   . cases d
  |agg cs=>
   simp only[Da]at d;split at d
   . rename_i c g;split at d
     . rename_i c' f;simp only[AAQ]at d;subst d;simp only[HU,Jz,ABR,AAX]at e ⊢;intro x l;rcases AAs l with h|rfl
       . exact e x h
       . exact ih f (e c (AAe g))
     . cases d
   . cases d
  |BI cs=>
   simp only[Da]at d;split at d
   . rename_i c g;split at d
     . rename_i c' f;simp only[AAQ]at d;subst d;simp only[JL,N0,ABR,AAX]at e ⊢;intro x l;rcases AAs l with h|rfl
       . exact e x h
       . exact ih f (e c (AAe g))
     . cases d
   . cases d
theorem St.replace {n:DV} (h:St G w S δ Fr) (r:Nat) (p:List Step) (C:Aq (δ r) p=some n):
 ∃a,Ok w S n a/\(∀x,a x->Fr r x)/\∀(S':Nat->Prop) (new:DV),new.Aw=n.Aw->Ok w S' new (λ_=>False)->(∀b,S b->S' b)->(∀t b,Fr t b->¬a b->¬S' b)->
  (∀L,Fh L new.er=true)->DU δ new->
  ∃t F',Da (δ r) p new=some t/\St G w S' (DR (HN G r δ) r t) (DR Fr r F')/\(∀x,F' x↔Fr r x/\¬a x)/\t.Aw=(δ r).Aw:=by
 obtain⟨a,B,f,u⟩:=(h.ok r).replace p C;refine⟨a,B,f,?_⟩;intro S' new y hn g i v m;obtain⟨t,F',e,k,o,l⟩:=u w S' new (λ_=>False) y hn (λ_ h=>h.elim) (λ_ _=>rfl) (λ_ _ _=>rfl) g (λb z D=>i r b z D);have j:∀x,F' x↔Fr r x/\¬a x:=λx=>by rw[o x];simp
 refine⟨t,F',e,?_,j,l⟩;refine h.set r t F' (λ_ _=>rfl) (λ_ _ _ _=>rfl) g ?_ k ?_ (Lp p e (h.rt r) (v _)) (Mc p e (h.al r) m)
 . intro s d x c;exact i s x c λE=>d (h.MC s r x c (f x E))
 . intro s d x c q;exact d (h.MC s r x q ((j x).1 c).1)
theorem Ni (h:St G w S δ Fr) (n d:Nat) (x:DV):(λs=>(DR (EL G n d δ) d x s).er)=DR (FU G n d (λs=>(δ s).er)) d x.er:=by
 funext s;by_cases a:s=d
 . subst a;simp[DR]
 . simp only[DR,a,AAd];exact h.QA n d s
theorem Mp (h:St G w S δ Fr) (n d:Nat) (x:DV) (s:Nat):(DR (EL G n d δ) d x s).Aw=if s=d then x.Aw else(δ s).Aw:=by
 by_cases a:s=d
 . subst a;simp[DR]
 . simp only[DR,a,AAd];exact h.Lj n d s
theorem St.iH {n:DV} (h:St G w S δ Fr) (r:Nat) (p:List Step) (I:Aq (δ r) p=some n):
 ∃a,Ok w S n a/\(∀x,a x->Fr r x)/\∀(S':Nat->Prop) (new:DV),new.Aw=n.Aw->Ok w S' new (λ_=>False)->(∀b,S b->S' b)->(∀t b,Fr t b->¬a b->¬S' b)->
  (∀L,Fh L new.er=true)->DU δ new->
  ∃t F',Da (δ r) p new=some t/\St G w S' (DR (EL G p.length r δ) r t) (DR Fr r F')/\(∀x,F' x↔Fr r x/\¬a x)/\t.Aw=(δ r).Aw:=by
 obtain⟨a,H,i,C⟩:=(h.ok r).replace p I;refine⟨a,H,i,?_⟩;intro S' new E hn j l D y;obtain⟨t,F',c,o,z,u⟩:=C w S' new (λ_=>False) E hn (λ_ h=>h.elim) (λ_ _=>rfl) (λ_ _ _=>rfl) j (λb F J=>l r b F J);have m:∀x,F' x↔Fr r x/\¬a x:=λx=>by rw[z x];simp
 refine⟨t,F',c,?_,m,u⟩;refine h.setn p.length r t F' (λ_ _=>rfl) (λ_ _ _ _=>rfl) j ?_ o ?_ (Lp p c (h.rt r) (D _)) (Mc p c (h.al r) y) ?_
 . intro s f x d;exact l s x d λK=>f (h.MC s r x d (i x K))
 . intro s f x d B;exact f (h.MC s r x B ((m x).1 d).1)
 . intro q v bx k rows M g;exact NP q p (by omega) c (λe=>absurd e (by omega)) g
theorem St.ZO (h:St G w S δ Fr) {r:Nat} {p:List Step} {a:AV} {τ:Sg} (j:Abs.ZO G r p (λs=>(δ s).er)=some (a,τ)):
 ∃g F' D Ff,St G w S g F'/\(λs=>(g s).er)=τ/\(∀s,(g s).Aw=(δ s).Aw)/\Ok w S D Ff/\D.er=a/\(∃v bx k rows,D= .own v bx k rows)/\Aq (δ r) p=some D/\(∀s x,F' s x->¬Ff x)/\
  (∀x,BA F' x∨Ff x->BA Fr x)/\(∀q v bx k rows,Aq (g r) q=some (.own v bx k rows)->∃f,Aq (δ r) q=some (.own v bx k f))/\(∀s,s≠r->g s=EL G p.length r δ s):=by
 unfold Abs.ZO at j;split at j
 . rename_i b k rows N;split at j
   . rename_i t M;simp only[AAQ,AAf]at j;obtain⟨rfl,rfl⟩:=j;obtain⟨D,y,l⟩:=Dj (h.ok r).Kw N;obtain⟨I,B,n,J⟩:=h.iH r p y;obtain⟨O,F',m,E,o,F⟩:=J S (.lf .dead D.Aw) (by simp) (.lf _ _ _ trivial (λ_ h=>h)) (λ_ h=>h) (λt b L _=>(h.ok t).Et b L) (by simp) (DU.dead _);have P:O.er=t:=(by obtain⟨R,u,K⟩:=HA (d:=δ r) (p:=p) (a:=t) (.lf .dead D.Aw) (h.ok r).Kw (by simpa using M);rw[m]at u;obtain rfl:=AAU u;exact K);have H:∃v bx k rows,D= .own v bx k rows:=by
      have:=B.Kw;cases D with
      |own v bx k rows=>exact⟨v,bx,k,rows,rfl⟩
      |lf a v=>cases this with|lf _ _ hl=>simp at l;subst l;simp[C0]at hl
      |agg cs=>simp at l
      |BI cs=>simp at l
     refine⟨_,_,D,I,E,by rw[Ni h,P],?_,B,l,H,y,?_,?_,?_,λs i=>BT _ _ i⟩
     . intro s;rw[Mp h];split
       . rename_i e;rw[e,F]
       . rfl
     . intro s x c z;by_cases i:s=r
       . subst i;rw[BD]at c;exact((o x).1 c).2 z
       . rw[BT _ _ i]at c;exact i (h.MC s r x c (n x z))
     . rintro x (⟨s,c⟩|c)
       . by_cases i:s=r
         . subst i;rw[BD]at c;exact⟨s,((o x).1 c).1⟩
         . rw[BT _ _ i]at c;exact⟨s,c⟩
       . exact⟨r,n x c⟩
     . intro q v bx Q f C;rw[BD]at C;exact Us p m q C
   . cases j
 . cases j
end Go.Abs
namespace Go.Abs
variable {w w':World} {S S':Nat->Prop} {G:Gi} {δ:Nat->DV} {Fr:Nat->Nat->Prop}
theorem cR {t:DV} (d:Nat) (q:List Step) {v:Value} {bx:Bool} {k:Nat} {rows:List (List DV)} (e:Aq (HM d t) q=some (.own v bx k rows)):Aq t q=some (.own v bx k rows):=by
 induction q generalizing t with
 |nil=>
  simp only[Aq,AAQ]at e ⊢;cases t with
  |lf a v=>simp at e
  |own=>simpa using e
  |agg=>simp at e
  |BI=>simp at e
 |cons s q ih=>
  obtain⟨i,j,f⟩:=s;cases t with
  |lf a v=>simp[Aq]at e
  |own h b k1 Jb=>rw[NK]at e;exact e
  |agg cs=>
   simp only[KW,Aq,AAb]at e ⊢;cases hj:cs[j]? with
   |none=>simp[hj]at e
   |some c=>simp only[hj,AAw]at e ⊢;exact ih e
  |BI cs=>
   simp only[KX,Aq,AAb]at e ⊢;cases hj:cs[j]? with
   |none=>simp[hj]at e
   |some c=>simp only[hj,AAw]at e ⊢;exact ih e
theorem TD (d r:Nat) (q:List Step) {v:Value} {bx:Bool} {k:Nat} {rows:List (List DV)} (a:Aq (HN G d δ r) q=some (.own v bx k rows)):Aq (δ r) q=some (.own v bx k rows):=by
 unfold HN at a;split at a
 . exact cR d q a
 . exact a
def Hd (δ δ':Nat->DV):Prop:=∀r q v bx k rows,Aq (δ' r) q=some (.own v bx k rows)->∃rows',Aq (δ r) q=some (.own v bx k rows')
theorem Hd.refl (δ:Nat->DV):Hd δ δ:=λ_ _ _ _ _ rows h=>⟨rows,h⟩
theorem Hd.trans {δ c a:Nat->DV} (h:Hd δ c) (k:Hd c a):Hd δ a:=by intro r q v bx d rows f;obtain⟨b,e⟩:=k r q v bx d rows f;exact h r q v bx d b e
def JS (w:World) (S:Nat->Prop):List DV->(Nat->Prop)->Prop
 |[],F=>∀x,¬F x
 |d::ds,F=>∃F1 F2,Ok w S d F1/\JS w S ds F2/\(∀x,F1 x->¬F2 x)/\∀x,F x↔F1 x∨F2 x
def xT (w:World) (S:Nat->Prop) (cs:List DV) (F:Nat->Prop):Prop:=
 ∃Fs:Nat->Nat->Prop,(∀(i:Nat) d,cs[i]? =some d->Ok w S d (Fs i))/\(∀i i' x,Fs i x->Fs i' x->i=i')/\(∀i x,Fs i x->∃d,cs[i]? =some d)/\(∀x,F x↔∃i,Fs i x)
theorem Jh {n:List DV} {F:Nat->Prop}:JS w S n F↔xT w S n F:=by
 induction n generalizing F with
 |nil=>
  constructor
  . intro h;exact⟨λ_ _=>False,by simp,λ_ _ _ h=>h.elim,λ_ _ h=>h.elim,λx=>⟨λc=>absurd c (h x),λ⟨_,h⟩=>h.elim⟩⟩
  . rintro⟨g,q,r,m,p⟩ x c;obtain⟨i,hi⟩:=(p x).1 c;obtain⟨d,hd⟩:=m i x hi;simp at hd
 |cons d ds ih=>
  constructor
  . rintro⟨t,u,q,r,m,p⟩;obtain⟨g,l,g2,o,j⟩:=ih.1 r;refine⟨λi=>match i with|0=>t|i+1=>g i,?_,?_,?_,?_⟩
    . intro i e f;cases i with
      |zero=>simp only[AA7,AAQ]at f;exact f▸q
      |succ i=>simp only[ABH]at f;exact l i e f
    . intro i s x c k;cases i<;>cases s
      . rfl
      . exact absurd ((j x).2 ⟨_,k⟩) (m x c)
      . exact absurd ((j x).2 ⟨_,c⟩) (m x k)
      . rename_i a b;rw[g2 a b x c k]
    . intro i x c;cases i with
      |zero=>exact⟨d,rfl⟩
      |succ i=>obtain⟨e,f⟩:=o i x c;exact⟨e,by simpa using f⟩
    . intro x;rw[p x];constructor
      . rintro(h|h)
        . exact⟨0,h⟩
        . obtain⟨i,hi⟩:=(j x).1 h;exact⟨i+1,hi⟩
      . rintro⟨i,hi⟩;cases i with
        |zero=>exact .inl hi
        |succ i=>exact .inr ((j x).2 ⟨i,hi⟩)
  . rintro⟨g,l,g2,o,j⟩;refine⟨g 0,λx=>∃i,g (i+1) x,l 0 d rfl,ih.2 ⟨λi=>g (i+1),?_,?_,?_,λx=>Iff.rfl⟩,?_,?_⟩
    . intro i e f;exact l (i+1) e (by simpa using f)
    . intro i s x c k;have:=g2 _ _ x c k;omega
    . intro i x c;obtain⟨e,f⟩:=o _ x c;exact⟨e,by simpa using f⟩
    . rintro x c ⟨i,hi⟩;have:=g2 _ _ x c hi;omega
    . intro x;rw[j x];constructor
      . rintro⟨i,hi⟩;cases i with
        |zero=>exact .inl hi
        |succ i=>exact .inr ⟨i,hi⟩
      . rintro(h|⟨i,h⟩)
        . exact⟨0,h⟩
        . exact⟨i+1,h⟩
theorem Bt {b:List DV} {F:Nat->Prop}:Ok w S (.agg b) F↔JS w S b F:=by
 rw[Jh];constructor
 . intro h;cases h with
   |agg _ a _ c d e f=>exact⟨a,c,d,e,f⟩
 . rintro⟨a,c,d,e,f⟩;exact .agg b a F c d e f
theorem A5 {b:List DV} {F:Nat->Prop}:Ok w S (.BI b) F↔JS w S b F:=by
 rw[Jh];constructor
 . intro h;cases h with
   |BI _ a _ c d e f=>exact⟨a,c,d,e,f⟩
 . rintro⟨a,c,d,e,f⟩;exact .BI b a F c d e f
theorem JS.mono {a:List DV} {F:Nat->Prop} (h:JS w S a F) (e:∀b,S b->w'.heap[b]? =w.heap[b]?) (d:∀b,F b->w'.heap[b]? =w.heap[b]?) (c:∀b,S b->S' b) (hn:∀x,F x->¬S' x):JS w' S' a F:=
 Bt.1 ((Bt.2 h).mono e d c hn)
theorem St.kG {y:Nat->DV} (ds:List DV):∀{δ:Nat->DV} {Fr:Nat->Nat->Prop} {F:Nat->Prop} {l:List AV} {τ:Sg},St G w S δ Fr->JS w S ds F->(∀d∈ds,DU y d)->Hd y δ->(∀s x,Fr s x->¬F x)->
 Abs.kG G (ds.map DV.er) (λs=>(δ s).er)=some (l,τ)->
 ∃o F' C Ff,St G w S o F'/\(λs=>(o s).er)=τ/\(∀s,(o s).Aw=(δ s).Aw)/\JS w S C Ff/\C.map DV.er=l/\C.map DV.Aw=ds.map DV.Aw/\(∀s x,F' s x->¬Ff x)/\
  (∀x,BA F' x∨Ff x->BA Fr x∨F x)/\Hd y o/\(∀a∈l,FL a=true):=by
 induction ds with
 |nil=>intro δ Fr F l τ h T W N J c;simp only[AA1,Abs.kG,AAQ,AAf]at c;obtain⟨rfl,rfl⟩:=c;exact⟨δ,Fr,[],F,h,rfl,λ_=>rfl,T,rfl,rfl,J,λx b=>b,N,by simp⟩
 |cons d ds ih=>
  intro δ Fr F l τ h T W N J c;obtain⟨U,V,hd,JO,h12,j⟩:=T;have O:=W d (by simp);have z:∀e∈ds,DU y e:=λe he=>W e (by simp[he]);simp only[AAi,Abs.kG]at c;cases Qr:d.er with
  |al r p=>
   simp only[Qr]at c;split at c
   . rename_i n τ1 ht1;split at c
     . rename_i l' τ' H;simp only[AAQ,AAf]at c;obtain⟨rfl,rfl⟩:=c;obtain⟨δ1,F1',D,Ff,B9,JH,DZ,hD,FM,⟨v,bx,k,rows,rfl⟩,Bp,Zs,M,P,VK⟩:=h.ZO ht1;have hH:Hd δ δ1:=by
        intro r' q v bx k rows E;by_cases hr:r'=r
        . subst hr;exact P q v bx k rows E
        . rw[VK r' hr]at E;exact⟨rows,(XT _ r r' q).1 E⟩
       subst JH;have g:∀s x,F1' s x->¬V x:=(by intro s x b L;obtain⟨t,c⟩:=M x (.inl ⟨s,b⟩);exact J t x c ((j x).2 (.inr L)));obtain⟨I,F2',C,Fd,Z,RH,MS,Yv,PF,fV,MT,B,i,R⟩:=ih B9 JO z (N.trans hH) g H;have hv:v=d.Aw:=by
        cases d with
        |lf a u=>
         simp only[EU]at Qr;subst Qr;cases O with
         |lf _ _ hl=>obtain⟨dP,k',rows',hl⟩:=hl;obtain⟨Q,E⟩:=N r p v bx k rows Bp;rw[hl]at E;simp only[AAQ,DV.own.injEq]at E;simp[E.1]
        |own=>simp at Qr
        |agg=>simp at Qr
        |BI=>simp at Qr
       have hFf:∀x,Ff x->¬V x:=(by intro x b L;obtain⟨t,c⟩:=M x (.inr b);exact J t x c ((j x).2 (.inr L)));have K:∀x,BA F2' x∨Fd x->¬Ff x:=by
        intro x b f;rcases B x b with⟨s,hs⟩|h2
        . exact Zs s x hs f
        . exact hFf x f h2
       refine⟨I,F2',.own v bx k rows::C,λx=>Ff x∨Fd x,Z,RH,λs=>(MS s).trans (DZ s),⟨Ff,Fd,hD,Yv,λx b X=>K x (.inr X) b,λx=>Iff.rfl⟩,?_,?_,?_,?_,i,?_⟩
       . simp only[AAi,FM,PF]
       . simp only[AAi,fV,Kh,hv]
       . rintro s x b (f|f)
         . exact K x (.inl ⟨s,b⟩) f
         . exact MT s x b f
       . rintro x (b|b|b)
         . rcases B x (.inl b)with h1|h1
           . exact .inl (M x (.inl h1))
           . exact .inr ((j x).2 (.inr h1))
         . exact .inl (M x (.inr b))
         . rcases B x (.inr b)with h1|h1
           . exact .inl (M x (.inl h1))
           . exact .inr ((j x).2 (.inr h1))
       . intro a m;simp only[AAp]at m;rcases m with rfl|m
         . rw[← FM];simp[FL]
         . exact R a m
     . cases c
   . cases c
  |_=>
   simp only[Qr]at c;split at c
   . rename_i hc;split at c
     . rename_i l' τ' H;simp only[AAQ,AAf]at c;obtain⟨rfl,rfl⟩:=c;have g:∀s x,Fr s x->¬V x:=λs x b L=>J s x b ((j x).2 (.inr L));obtain⟨I,F2',C,Fd,Z,RH,MS,Yv,PF,fV,MT,B,i,R⟩:=ih h JO z N g H;have K:∀x,BA F2' x∨Fd x->¬U x:=by
        intro x b f;rcases B x b with⟨s,hs⟩|h2
        . exact J s x hs ((j x).2 (.inl f))
        . exact h12 x f h2
       refine⟨I,F2',d::C,λx=>U x∨Fd x,Z,RH,MS,⟨U,Fd,hd,Yv,λx b X=>K x (.inr X) b,λx=>Iff.rfl⟩,?_,?_,?_,?_,i,?_⟩
       . simp only[AAi,Qr,PF]
       . simp only[AAi,fV]
       . rintro s x b (f|f)
         . exact K x (.inl ⟨s,b⟩) f
         . exact MT s x b f
       . rintro x (b|b|b)
         . rcases B x (.inl b)with h1|h1
           . exact .inl h1
           . exact .inr ((j x).2 (.inr h1))
         . exact .inr ((j x).2 (.inl b))
         . rcases B x (.inr b)with h1|h1
           . exact .inl h1
           . exact .inr ((j x).2 (.inr h1))
       . intro a m;simp only[AAp]at m;rcases m with rfl|m
         . exact hc
         . exact R a m
     . cases c
   . cases c
end Go.Abs
namespace Go.Abs
variable {w w':World} {S S':Nat->Prop} {G:Gi} {δ:Nat->DV} {Fr:Nat->Nat->Prop}
mutual
def Ix:AV->ABr DV
 | .sc v=>if GM v=true then some (.lf (.sc v) v)else none
 | .own false k []=>some (.own (.slice none 0 0) false k [])
 | .sl x k []=>some (.lf (.sl x k []) (.slice none 0 0))
 | .agg cs=>match Wx cs with
  |some ds=>some (.agg ds)
  |none=>none
 |_=>none
def Wx:List AV->ABr (List DV)
 |[]=>some []
 |a::r=>match Ix a with
  |some d=>match Wx r with
   |some ds=>some (d::ds)
   |none=>none
  |none=>none
end
theorem Ib (a:AV):∀D,Ix a=some D->D.er=a/\Ok w S D (λ_=>False)/\DU δ D/\(∀L,Fh L a=true):=by
 refine AV.rec (motive_1:=λa=>∀D,Ix a=some D->D.er=a/\Ok w S D (λ_=>False)/\DU δ D/\(∀L,Fh L a=true)) (motive_2:=λ_=>True)
  (motive_3:=λl=>∀ds,Wx l=some ds->ds.map DV.er=l/\JS w S ds (λ_=>False)/\(∀d∈ds,DU δ d)/\(∀L,Pl L l=true)) ?_ ?_ ?_ ?_ ?_ ?_ ?_ ?_ ?_ ?_ ?_ ?_ ?_ ?_ ?_ ?_ ?_ a
 . intro v D h;simp only[Ix]at h;split at h
   . rename_i G;obtain rfl:=Option.some.inj h;exact⟨by simp,.lf _ _ _ ⟨rfl,G⟩ (λ_ h=>h),.lf _ _ trivial,by simp⟩
   . cases h
 . intro x k rows _ D h;cases rows with
   |nil=>simp only[Ix]at h;obtain rfl:=Option.some.inj h;exact⟨by simp,.lf _ _ _ (Fz.nil x k none 0 (λ_=>rfl)) (λ_ h=>h),.lf _ _ trivial,by simp⟩
   |cons r rs=>simp[Ix]at h
 . intro b k rows _ D h;cases b with
   |true=>simp[Ix]at h
   |false=>
    cases rows with
    |nil=>simp only[Ix]at h;obtain rfl:=Option.some.inj h;exact⟨by simp,.nil k _ (λ_ h=>h),.own _ _ _ _,by simp⟩
    |cons r rs=>simp[Ix]at h
 . intro y H D h;simp only[Ix]at h;split at h
   . rename_i ds g;obtain rfl:=Option.some.inj h;obtain⟨m,n,q,t⟩:=H ds g;refine⟨by simp[m],Bt.2 n,.agg _ λi d hd=>q d (List.mem_of_getElem? hd),λL=>by simp only[Fh];exact t L⟩
   . cases h
 . intro y _ D h;simp[Ix]at h
 . intro r p D h;simp[Ix]at h
 . intro r p i j k D h;simp[Ix]at h
 . intro y _ D h;simp[Ix]at h
 . intro D h;simp[Ix]at h
 . intro D h;simp[Ix]at h
 . intro f rs D h;simp[Ix]at h
 . intro s o J D h;simp[Ix]at h
 . intro f I _ D h;simp[Ix]at h
 . trivial
 . intros;trivial
 . intro ds h;simp only[Wx,Option.some.injEq]at h;subst h;exact⟨rfl,λ_ h=>h,by simp,λL=>by simp[Pl]⟩
 . intro a l B u ds h;simp only[Wx]at h;split at h
   . rename_i d hd;split at h
     . rename_i z g;obtain rfl:=Option.some.inj h;obtain⟨m,n,q,t⟩:=B d hd;obtain⟨C,g2,E,F⟩:=u z g;refine⟨by simp[m,C],⟨_,_,n,g2,λ_ h=>h.elim,λx=>by simp⟩,?_,λL=>by simp[Pl,t L,F L]⟩;intro e c;simp only[List.mem_cons]at c;rcases c with rfl|c
       . exact q
       . exact E e c
     . cases h
   . cases h
def WL:Ar->Prop
 | .t _=>True
 | .c a=>∃D,Ix a=some D
def Cx (δ:Nat->DV):Ar->Value
 | .t s=>(δ s).Aw
 | .c a=>match Ix a with
  |some D=>D.Aw
  |none=>undef
theorem Q3 {ds:List DV} (c:∀a∈ds.map DV.er,FL a=true):∀d∈ds,DU δ d:=by
 intro d hd;have b:=c d.er (List.mem_map_of_mem hd);cases d with
 |lf a v=>refine .lf a v ?_;simp only[EU]at b;cases a<;>simp_all [FL,Mn]
 |own=>exact .own _ _ _ _
 |agg cs=>simp[FL]at b
 |BI cs=>simp[FL]at b
structure Fly (G:Gi) (w:World) (S:Nat->Prop) (δ:Nat->DV) (Fr:Nat->Nat->Prop) (δ':Nat->DV) (F':Nat->Nat->Prop) (D:DV) (Ff:Nat->Prop):Prop where
 st:St G w S δ' F'
 Aw:∀s,(δ' s).Aw=(δ s).Aw
 ok:Ok w S D Ff
 al:DU δ' D
 MC:∀s x,F' s x->¬Ff x
 own:∀x,BA F' x∨Ff x->BA Fr x
theorem St.tk (h:St G w S δ Fr) {x:Ar} {a:AV} {τ:Sg} (m:WL x) (g:Abs.tk G x (λs=>(δ s).er)=some (a,τ)):
 ∃z F' D Ff,Fly G w S δ Fr z F' D Ff/\(λs=>(z s).er)=τ/\D.er=a/\D.Aw=Cx δ x:=by
 cases x with
 |c c=>obtain⟨D,O⟩:=m;simp only[Abs.tk,Option.some.injEq,Prod.mk.injEq]at g;obtain⟨rfl,rfl⟩:=g;obtain⟨V,W,h3,_⟩:=Ib (w:=w) (S:=S) (δ:=δ) c D O;exact⟨δ,Fr,D,_,⟨h,λ_=>rfl,W,h3,λ_ _ _ h=>h,λx m=>m.elim id False.elim⟩,rfl,V,by simp[Cx,O]⟩
 |t s=>
  simp only[Abs.tk]at g;have fU:∀b,(δ s).er=b->C0 b=true->∃v,δ s= .lf b v:=by
   intro b n y
   have:=(h.ok s).Kw;cases hd:δ s with
   |lf c v=>rw[hd]at n;simp at n;exact⟨v,by rw[n]⟩
   |own=>rw[hd]at n;simp at n;subst n;simp[C0]at y
   |agg=>rw[hd]at n;simp at n;subst n;simp[C0]at y
   |BI=>rw[hd]at n;simp at n;subst n;simp[C0]at y
  have Q:∀b,(δ s).er=b->C0 b=true->∃z F' D Ff,Fly G w S δ Fr z F' D Ff/\(λs=>(z s).er)=(λs=>(δ s).er)/\D.er=b/\D.Aw=Cx δ (.t s):=by
   intro b n y;obtain⟨v,hv⟩:=fU b n y;have B:=h.ok s;rw[hv]at B;cases B with
   |lf _ _ _ ha hF=>exact⟨δ,Fr,.lf b v,λ_=>False,⟨h,λ_=>rfl,.lf _ _ _ ha (λ_ h=>h),hv▸h.al s,λ_ _ _ h=>h,λx m=>m.elim id False.elim⟩,rfl,by simp,by simp[Cx,hv]⟩
  cases hs:(δ s).er with
  |al r p=>
   simp only[hs]at g;obtain⟨δ1,F1,D,Ff,K,JH,DZ,O,FM,⟨v,bx,k,rows,rfl⟩,R,T,Dz,XH,VK⟩:=h.ZO g;refine⟨δ1,F1,_,Ff,⟨K,DZ,O,.own _ _ _ _,T,Dz⟩,JH,FM,?_⟩;obtain⟨u,hu⟩:=fU _ hs rfl;have Gk:=h.al s;rw[hu]at Gk;cases Gk with
   |lf _ _ y=>obtain⟨dP,k',rows',y⟩:=y;rw[y]at R;simp only[Option.some.injEq,DV.own.injEq]at R;simp[Cx,hu,R.1]
  |own b k rows=>
   simp only[hs,Option.some.injEq,Prod.mk.injEq]at g;obtain⟨rfl,rfl⟩:=g;have K:=h.empty s;refine⟨_,_,δ s,Fr s,⟨K,?_,h.ok s,?_,?_,?_⟩,by rw[IH h];simp,hs,rfl⟩
   . intro t;rw[Hh h];split
     . rename_i e;rw[e];simp
     . rfl
   . have:=(h.ok s).Kw;cases hd:δ s with
     |own=>exact .own _ _ _ _
     |lf c v=>rw[hd]at hs this;cases this with|lf _ _ y=>simp at hs;subst hs;simp[C0]at y
     |agg=>rw[hd]at hs;simp at hs
     |BI=>rw[hd]at hs;simp at hs
   . intro t x m X;by_cases e:t=s
     . subst e;rw[BD]at m;exact m
     . rw[BT _ _ e]at m;exact e (h.MC t s x m X)
   . rintro x (⟨t,m⟩|m)
     . by_cases e:t=s
       . subst e;rw[BD]at m;exact m.elim
       . rw[BT _ _ e]at m;exact⟨t,m⟩
     . exact⟨s,m⟩
  |agg cs=>
   simp only[hs]at g;obtain⟨ds,H,N⟩:∃ds,δ s= .agg ds/\ds.map DV.er=cs:=by
    have:=(h.ok s).Kw;cases hd:δ s with
    |agg ds=>rw[hd]at hs;simp at hs;exact⟨ds,rfl,hs⟩
    |lf c v=>rw[hd]at hs this;cases this with|lf _ _ y=>simp at hs;subst hs;simp[C0]at y
    |own=>rw[hd]at hs;simp at hs
    |BI=>rw[hd]at hs;simp at hs
   split at g
   . rename_i I;simp only[Option.some.injEq,Prod.mk.injEq]at g;obtain⟨rfl,rfl⟩:=g;have B:=h.ok s;rw[H]at B
     -- nothing is owned
     have C:JS w S ds (λ_=>False):=by
      have E:=Bt.1 B;clear B H;rw[← N]at I;clear N hs;generalize Fr s=F at E;induction ds generalizing F with
      |nil=>exactλ_ h=>h
      |cons d ds ih=>
       obtain⟨F1,U,V,W,_,_⟩:=E;simp only[List.map_cons,List.all_cons,Bool.and_eq_true]at I;refine⟨λ_=>False,λ_=>False,?_,ih I.2 U W,λ_ h=>h.elim,λx=>by simp⟩;cases V with
       |lf a v _ ha hF=>exact .lf a v _ ha (λ_ h=>h)
       |nil=>simp[HW]at I
       |own=>simp[HW]at I
       |agg=>simp[HW]at I
       |BI=>simp[HW]at I
     exact⟨δ,Fr,.agg ds,λ_=>False,⟨h,λ_=>rfl,Bt.2 C,H▸h.al s,λ_ _ _ h=>h,λx m=>m.elim id False.elim⟩,rfl,by simp[N],by simp[Cx,H]⟩
   . split at g
     . rename_i l τ' Z;simp only[Option.some.injEq,Prod.mk.injEq]at g;obtain⟨rfl,rfl⟩:=g;have K:=h.empty s;have B:=h.ok s;rw[H]at B;have L:∀d∈ds,DU δ d:=by
        have:=h.al s;rw[H]at this;cases this with
        |agg _ hr=>intro d hd;obtain⟨i,hi⟩:=List.getElem?_of_mem hd;exact hr i d hi
       have hH:Hd δ (DR (HN G s δ) s (.lf .dead (δ s).Aw)):=by
        intro r q v bx k rows P;by_cases e:r=s
        . subst e;rw[BD]at P;cases q<;>simp[Aq]at P
        . rw[BT _ _ e]at P;exact⟨rows,TD s r q P⟩
       have T:∀t x,(DR Fr s λ_=>False) t x->¬Fr s x:=by
        intro t x m X;by_cases e:t=s
        . subst e;rw[BD]at m;exact m
        . rw[BT _ _ e]at m;exact e (h.MC t s x m X)
       have M:(λt=>(DR (HN G s δ) s (.lf .dead (δ s).Aw) t).er)=DR (JY G s λs=>(δ s).er) s .dead:=(by rw[IH h];simp);obtain⟨δ2,U,Qn,Ff,KI,RH,MS,Yv,PF,fV,MT,KL,_,Bf⟩:=K.kG ds (Bt.1 B) L hH T (l:=l) (τ:=τ') (by rw[M,N];exact Z);refine⟨δ2,U,.agg Qn,Ff,⟨KI,?_,Bt.2 Yv,.agg _ λi d hd=> ?_,MT,?_⟩,RH,by simp[PF],by simp[Cx,H,fV]⟩
       . intro t;rw[MS,Hh h];split
         . rename_i e;rw[e];simp
         . rfl
       . exact Q3 (by rw[PF];exact Bf) d (List.mem_of_getElem? hd)
       . intro x m;rcases KL x m with⟨t,J⟩|J
         . by_cases e:t=s
           . subst e;rw[BD]at J;exact J.elim
           . rw[BT _ _ e]at J;exact⟨t,J⟩
         . exact⟨s,J⟩
     . cases g
  |sc v=>simp only[hs,Option.some.injEq,Prod.mk.injEq]at g;obtain⟨rfl,rfl⟩:=g;exact Q _ hs rfl
  |sl e k rows=>simp only[hs,Option.some.injEq,Prod.mk.injEq]at g;obtain⟨rfl,rfl⟩:=g;exact Q _ hs rfl
  |Kn r p i j k=>simp only[hs,Option.some.injEq,Prod.mk.injEq]at g;obtain⟨rfl,rfl⟩:=g;exact Q _ hs rfl
  |fp cs=>simp only[hs,Option.some.injEq,Prod.mk.injEq]at g;obtain⟨rfl,rfl⟩:=g;exact Q _ hs rfl
  |BI cs=>simp[hs]at g
  |dead=>simp[hs]at g
  |un=>simp[hs]at g
  |cl f rs=>simp[hs]at g
  |vb s o us=>simp[hs]at g
  |mG f V1=>simp[hs]at g
theorem St.QP (h:St G w S δ Fr) {r:Nat} {p:List Step} {a:AV} {τ:Sg} (i:Abs.QP G r p (λs=>(δ s).er)=some (a,τ)):
 ∃(g:Nat->DV) (F':Nat->Nat->Prop) (f:Nat->Prop) (v:Value) (bx:Bool) (k:Nat) (rows:List (List DV)),St G w (λx=>S x∨f x) g F'/\(λs=>(g s).er)=τ/\(∀s,(g s).Aw=(δ s).Aw)/\Aq (δ r) p=some (.own v bx k rows)/\Fz w (λx=>S x∨f x) a v/\
  a=JM (DV.own v bx k rows).er/\(∀s x,F' s x->¬f x)/\(∀x,BA F' x∨f x->BA Fr x)/\Hd δ g:=by
 unfold Abs.QP at i;split at i
 . rename_i b k rows V;split at i
   . rename_i t U;simp only[Option.some.injEq,Prod.mk.injEq]at i;obtain⟨rfl,rfl⟩:=i;obtain⟨D,C,l⟩:=Dj (h.ok r).Kw V;obtain⟨f,F,y,O⟩:=h.replace r p C;have K:∃v bx k rows,D= .own v bx k rows:=by
      have:=F.Kw;cases D with
      |own v bx k rows=>exact⟨v,bx,k,rows,rfl⟩
      |lf a v=>cases this with|lf _ _ hl=>simp at l;subst l;simp[C0]at hl
      |agg cs=>simp at l
      |BI cs=>simp at l
     obtain⟨v,bx,W,M,rfl⟩:=K;have u:Fz w (λx=>S x∨f x) (JM (.own b k rows)) v:=(by have:=F.freeze;rw[l]at this;simpa using this);have X:Ok w (λx=>S x∨f x) (.lf (JM (.own b k rows)) v) (λ_=>False):=by
      refine .lf _ _ _ ?_ (λ_ h=>h);cases b with
      |true=>simp only[pU];trivial
      |false=>simp only[Nj]at u ⊢;exact u
     obtain⟨Z,F',n,I,z,J⟩:=O (λx=>S x∨f x) (.lf (JM (.own b k rows)) v) (by simp) X (λ_ h=>.inl h)
      (λt P T N R=>R.elim ((h.ok t).Et P T) N) (by intro L;cases b<;>simp) (.lf _ _ (by cases b<;>simp[Mn]))
     have uB:Z.er=t:=(by obtain⟨t',B,Q⟩:=HA (d:=δ r) (p:=p) (a:=t) (.lf (JM (.own b k rows)) v) (h.ok r).Kw (by simpa using U);rw[n]at B;obtain rfl:=Option.some.inj B;exact Q);refine⟨_,_,f,v,bx,W,M,I,by rw[IH h,uB],?_,C,u,by rw[l],?_,?_,?_⟩
     . intro s;rw[Hh h];split
       . rename_i e;rw[e,J]
       . rfl
     . intro s x c E;by_cases m:s=r
       . subst m;rw[BD]at c;exact((z x).1 c).2 E
       . rw[BT _ _ m]at c;exact m (h.MC s r x c (y x E))
     . rintro x (⟨s,c⟩|c)
       . by_cases m:s=r
         . subst m;rw[BD]at c;exact⟨s,((z x).1 c).1⟩
         . rw[BT _ _ m]at c;exact⟨s,c⟩
       . exact⟨r,y x c⟩
     . intro H q v' dP k' j o;by_cases e:H=r
       . subst e;rw[BD]at o;exact Us p n q o
       . rw[BT _ _ e]at o;exact⟨j,TD r H q o⟩
   . cases i
 . cases i
theorem St.wr (h:St G w S δ Fr) {dst:Dk} (g:dst.kl=G.OB dst.d) (r:dst.rs=G.Gy dst.d) {D:DV} {Ff:Nat->Prop} {σ':Sg} (q:∀b,S b->w'.heap[b]? =w.heap[b]?) (o:∀s x,Fr s x->w'.heap[x]? =w.heap[x]?)
 (l:∀b,S b->S' b) (m:∀s x,Fr s x->¬S' x) (n:Ok w' S' D Ff) (i:∀s x,Fr s x->¬Ff x) (j:DU δ D) (f:Abs.wr dst D.er (λs=>(δ s).er)=some σ'):
 ∃a F',St G w' S' a F'/\(λs=>(a s).er)=σ'/\(∀s,(a s).Aw=if s=dst.d then D.Aw else(δ s).Aw)/\(∀x,BA F' x->BA Fr x∨Ff x):=by
 unfold Abs.wr at f;split at f
 . rename_i p;simp only[Option.some.injEq]at f;subst f;refine⟨_,_,h.set dst.d D Ff q (λs _=>o s) l (λs _=>m s) n (λs _ x c k=>i s x k c) (r▸p) j,?_,λs=>Hh h dst.d D s,?_⟩
   . rw[IH h,g,kills_eq]
   . rintro x ⟨s,c⟩;by_cases e:s=dst.d
     . subst e;rw[BD]at c;exact .inr c
     . rw[BT _ _ e]at c;exact .inl ⟨s,c⟩
 . cases f
end Go.Abs
namespace Go.Abs
variable {w w':World} {S S':Nat->Prop} {G:Gi} {δ:Nat->DV} {Fr:Nat->Nat->Prop} {P:Program}
def qU:Value->Value->Bool
 | .bool a,.bool b=>a==b
 | .int k a,.int k' b=>decide (k=k')&&decide (a=b)
 | .string a,.string b=>decide (a.data=b.data)
 | .pointer none,.pointer none=>true
 | .slice none 0 0,.slice none 0 0=>true
 | .nilFunc,.nilFunc=>true
 | .nilIface,.nilIface=>true
 |_,_=>false
def Tk:List Value->List Value->Bool
 |[],[]=>true
 |a::l,b::r=>qU a b&&Tk l r
 |_,_=>false
def qV:Value->Value->Bool
 | .agg a,.agg b=>Tk a.toList b.toList
 |a,b=>qU a b
theorem iX {a b:Value} (h:qU a b=true):a=b:=by unfold qU at h;split at h<;>simp_all;rename_i x y;cases x;simp_all
theorem Po:∀{a b:List Value},Tk a b=true->a=b
 |[],[],_=>rfl
 |[],_::_,h=>by simp[Tk]at h
 |_::_,[],h=>by simp[Tk]at h
 |a::l,b::r,h=>by simp only[Tk,AAR]at h;rw[iX h.1,Po h.2]
theorem iY {a b:Value} (h:qV a b=true):a=b:=by
 unfold qV at h;split at h
 . rename_i x y;have:=Po h;simp_all
 . exact iX h
def CB (x:Operand) (y:Ar):Bool:=
 match x,y with
 | .tmp s,.t s'=>s==s'
 | .const v,.c a=>match Ix a with
  |some D=>qV v D.Aw
  |none=>false
 |_,_=>false
def Rd (δ:Nat->DV) (a:Act):Prop:=∀s,a.tmps.getD s undef=(δ s).Aw
theorem Aj {x:Operand} {y:Ar} {a:Act} (h:CB x y=true) (d:Rd δ a):WL y/\a.eval x=Cx δ y:=by
 unfold CB at h;split at h
 . simp only[AAg]at h;subst h;exact⟨trivial,d _⟩
 . rename_i v c;split at h
   . rename_i D b;exact⟨⟨D,b⟩,by simp[Act.eval,Cx,b,iY h]⟩
   . cases h
 . cases h
def Gm:List Operand->List Ar->Bool
 |[],[]=>true
 |x::l,y::r=>CB x y&&Gm l r
 |_,_=>false
def Q8:ABr Operand->ABr Ar->Bool
 |none,none=>true
 |some x,some y=>CB x y
 |_,_=>false
def Gg (P:Program) (t:TypeId):ABr Nat:=(P.info? t).map (·.size)
def JP (P:Program) (t:TypeId):ABr Bool:=(P.underlying t).map λ| .struct _=>true| .array _ _=>true|_=>false
theorem run_sizeOf {t:TypeId} {n:Nat} (h:Gg P t=some n) (w:World):(sizeOf t).run P w= .ok n w:=by
 unfold Gg at h;cases hi:P.info? t with
 |none=>simp_all
 |some i=>simp only[hi,AAw,AAQ]at h;simp[sizeOf,typeInfo,hi,h]
theorem QI {t:TypeId} {b:Bool} (h:JP P t=some b) (w:World):(isAgg t).run P w= .ok b w:=by
 unfold JP at h;cases hi:P.underlying t with
 |none=>simp_all
 |some d=>simp only[hi,AAw,AAQ]at h;cases d<;>simp_all [isAgg,underlying]
theorem IW (t:DV) (p q:List Step):Aq t (p++q)=(Aq t p).bind (Aq · q):=by
 induction p generalizing t with
 |nil=>simp[Aq]
 |cons s p ih=>
  obtain⟨i,j,k⟩:=s;cases t with
  |lf a v=>simp[Aq]
  |own h b k1 rows=>
   simp only[AA6,Aq];cases rows[i]? with
   |none=>rfl
   |some row=>simp only[];cases row[j]? with
    |none=>rfl
    |some c=>exact ih c
  |agg cs=>simp only[AA6,Aq];cases cs[j]? with
   |none=>rfl
   |some c=>exact ih c
  |BI cs=>simp only[AA6,Aq];cases cs[j]? with
   |none=>rfl
   |some c=>exact ih c
theorem aT (r:Nat) (p:List Step) (l:List AV) (i n:Nat):(Pu r p i l)[n]? =(l[n]?).map (view r (p++[(0,i+n,0)])):=by
 induction l generalizing i n with
 |nil=>simp[Pu]
 |cons c cs ih=>
  cases n with
  |zero=>simp[Pu]
  |succ n=>simp only[Pu,ABH,ih,Nat.add_assoc,Nat.add_comm 1 n]
theorem B4 {ds:List DV} (h:∀d∈ds,Ok w S d (λ_=>False)):JS w S ds (λ_=>False):=by
 induction ds with
 |nil=>exactλ_ h=>h
 |cons d ds ih=>exact⟨_,_,h d (by simp),ih (λe a=>h e (by simp[a])),λ_ h=>h.elim,λx=>by simp⟩
theorem LB {e f:Type} (a:List e) (d:Nat->e->f->Prop) (h:∀i c,a[i]? =some c->∃D,d i c D):∃b:List f,b.length=a.length/\∀i c,a[i]? =some c->∃D,b[i]? =some D/\d i c D:=by
 induction a generalizing d with
 |nil=>simp_all
 |cons c a ih=>obtain⟨D,k⟩:=h 0 c rfl;obtain⟨b,g,j⟩:=ih (λi=>d (i+1)) (λi c' l=>h (i+1) c' (by simp_all));refine⟨D::b,by simp[g],?_⟩;grind
theorem mem_mk {f d:Type} {a:List f} {b:List d} {e:Nat->f->d->Prop} (j:b.length=a.length) (h:∀i c,a[i]? =some c->∃D,b[i]? =some D/\e i c D) (i:Nat) (D:d) (g:b[i]? =some D):∃c,a[i]? =some c/\e i c D:=by
 have hi:i<a.length:=by rw[← j];exact(AAS.1 g).1
 obtain⟨k,l,m⟩:=h i a[i] (AAV hi);simp_all
theorem map_mk {g d j:Type} {a:List g} {b:List d} {e:Nat->g->d->Prop} (p:b.length=a.length) (h:∀i c,a[i]? =some c->∃D,b[i]? =some D/\e i c D) (f:d->j) (l:List j) (k:l.length=a.length)
 (o:∀i c D,e i c D->a[i]? =some c->l[i]? =some (f D)):b.map f=l:=by
 apply ABd;intro i;by_cases hi:i<a.length
 . obtain⟨D,m,n⟩:=h i a[i] (AAV hi);grind
 simp_all
theorem Tv (r:Nat) (p:List Step) (l:List AV) (i:Nat):(Pu r p i l).length=l.length:=by
 induction l generalizing i with
 |nil=>simp[Pu]
 |cons c cs ih=>simp[Pu,ih]
theorem viewD {t:DV} {F:Nat->Prop} (r:Nat) (h:Ok w S t F):∀(p:List Step),Aq (δ r) p=some t->DU δ t->
 ∃D,D.er=view r p t.er/\D.Aw=t.Aw/\Ok w S D (λ_=>False)/\DU δ D:=by
 induction h with
 |lf a v F ha hF=>intro p l f;have g:=ha.C0;refine⟨.lf a v,?_,rfl,.lf a v _ ha (λ_ h=>h),f⟩;cases a<;>simp_all [view,C0]
 |nil k F hF=>intro p l f;exact⟨.lf (.al r p) (.slice none 0 0),by simp[view],by simp,.lf _ _ _ trivial (λ_ h=>h),.lf _ _ ⟨_,_,_,l⟩⟩
 |own bx k rows b c arr E Fs F hb hk Dv LO hv hr hd Ba KG hF ih=>intro p l f;exact⟨.lf (.al r p) (JW bx b rows.length c),by simp[view],by simp,.lf _ _ _ trivial (λ_ h=>h),.lf _ _ ⟨_,_,_,l⟩⟩
 |agg cs Fs F hr hd Ba hF ih=>
  intro p l f;cases f with
  |agg _ f=>
   obtain⟨o,g,j⟩:=LB cs (λi d D=>D.er=view r (p++[(0,i,0)]) d.er/\D.Aw=d.Aw/\Ok w S D (λ_=>False)/\DU δ D)
    (λi d hd=>ih i d hd _ (by rw[IW,l];simp[Aq,hd]) (f i d hd))
   refine⟨.agg o,?_,?_,Bt.2 (B4 λD m=> ?_),.agg _ λi D m=> ?_⟩
   . simp only[HU,view,AV.agg.injEq];refine map_mk g j _ _ (by simp[Tv]) λi c D e n=> ?_;rw[aT,AAb,n];grind
   . simp only[Jk];congr 2;exact map_mk g j _ _ (by simp) λi c D e n=>by simp_all
   . obtain⟨i,hi⟩:=AAu m;obtain⟨c,_,e⟩:=mem_mk g j i D hi;simp_all
   . obtain⟨c,_,e⟩:=mem_mk g j i D m;simp_all
 |BI cs Fs F hr hd Ba hF ih=>
  intro p l f;cases f with
  |BI _ f=>
   obtain⟨o,g,j⟩:=LB cs (λi d D=>D.er=view r (p++[(0,i,0)]) d.er/\D.Aw=d.Aw/\Ok w S D (λ_=>False)/\DU δ D)
    (λi d hd=>ih i d hd _ (by rw[IW,l];simp[Aq,hd]) (f i d hd))
   refine⟨.BI o,?_,?_,A5.2 (B4 λD m=> ?_),.BI _ λi D m=> ?_⟩
   . simp only[JL,view,AV.BI.injEq];refine map_mk g j _ _ (by simp[Tv]) λi c D e n=> ?_;rw[aT,AAb,n];grind
   . simp only[LJ];congr 2;exact map_mk g j _ _ (by simp) λi c D e n=>by simp_all
   . obtain⟨i,hi⟩:=AAu m;obtain⟨c,_,e⟩:=mem_mk g j i D hi;simp_all
   . obtain⟨c,_,e⟩:=mem_mk g j i D m;simp_all
theorem dN (r:Nat) (p:List Step) (i k j:Nat) (l:List AV):(Pt r p i k j l).length=l.length:=by
 induction l generalizing j with
 |nil=>simp[Pt]
 |cons c cs ih=>simp[Pt,ih]
theorem wD (r:Nat) (p:List Step) (i k j n:Nat) (l:List AV):(Pt r p i k j l)[n]? =(l[n]?).map (vC r p i (j+n) k):=by
 induction l generalizing j n with
 |nil=>simp[Pt]
 |cons c cs ih=>
  cases n with
  |zero=>simp[Pt]
  |succ n=>simp only[Pt,ABH,ih,Nat.add_assoc,Nat.add_comm 1 n]
theorem dO (s j:Nat) (l:List AV):(Mm s j l).length=l.length:=by
 induction l generalizing j with
 |nil=>simp[Mm]
 |cons c cs ih=>simp[Mm,ih]
theorem wE (s j n:Nat) (l:List AV):(Mm s j l)[n]? =(l[n]?).map (vF s (j+n)):=by
 induction l generalizing j n with
 |nil=>simp[Mm]
 |cons c cs ih=>
  cases n with
  |zero=>simp[Mm]
  |succ n=>simp only[Mm,ABH,ih,Nat.add_assoc,Nat.add_comm 1 n]
end Go.Abs
namespace Go.Abs
variable {w w':World} {S S':Nat->Prop} {G:Gi} {δ:Nat->DV} {Fr:Nat->Nat->Prop} {P:Program}
def Lf (w:World) (S:Nat->Prop) (δ:Nat->DV) (a:AV) (v:Value):Prop:=∃D:DV,D.er=a/\D.Aw=v/\Ok w S D (λ_=>False)/\DU δ D
theorem Lf.sc (v:Value) (h:GM v=true):Lf w S δ (.sc v) v:=⟨.lf (.sc v) v,by simp,by simp,.lf _ _ _ ⟨rfl,h⟩ (λ_ h=>h),.lf _ _ trivial⟩
theorem Lf.al {r:Nat} {p:List Step} {v:Value} {bx:Bool} {k:Nat} {rows:List (List DV)} (h:Aq (δ r) p=some (.own v bx k rows)):Lf w S δ (.al r p) v:=
 ⟨.lf (.al r p) v,by simp,by simp,.lf _ _ _ trivial (λ_ h=>h),.lf _ _ ⟨_,_,_,h⟩⟩
theorem Lf.Kn {r:Nat} {p:List Step} {i j k b:Nat} {v:Value} {bx:Bool} {rows:List (List DV)} (h:Aq (δ r) p=some (.own v bx k rows)) (a:Sd v=some b):Lf w S δ (.Kn r p i j k) (.pointer (some ⟨b,i*k+j,none⟩)):=
 ⟨.lf (.Kn r p i j k) _,by simp,by simp,.lf _ _ _ trivial (λ_ h=>h),.lf _ _ ⟨_,_,_,_,h,a,rfl⟩⟩
theorem Lf.fp {c:List AV} {b off:Nat} (d:S b) (h:∀(j:Nat) a,c[j]? =some a->∃u,w.cell? ⟨b,off+j,none⟩=some u/\Fz w S a u):Lf w S δ (.fp c) (.pointer (some ⟨b,off,none⟩)):=
 ⟨.lf (.fp c) _,by simp,by simp,.lf _ _ _ ⟨b,off,rfl,d,h⟩ (λ_ h=>h),.lf _ _ trivial⟩
theorem St.leaf (h:St G w S δ Fr) {s:Nat} {a:AV} (c:(δ s).er=a) (d:C0 a=true):δ s= .lf a (δ s).Aw/\Hg w S a (δ s).Aw/\Mn δ a (δ s).Aw:=by
 have e:=h.ok s;have f:=h.al s;cases hd:δ s with
 |lf b v=>
  rw[hd]at c e f;simp only[EU]at c;subst c;cases e with
  |lf _ _ _ ha _=>cases f with|lf _ _ d=>exact⟨by simp,ha,d⟩
 |own=>rw[hd]at c;simp at c;subst c;simp[C0]at d
 |agg=>rw[hd]at c;simp at c;subst c;simp[C0]at d
 |BI=>rw[hd]at c;simp at c;subst c;simp[C0]at d
theorem St.Ey (h:St G w S δ Fr) {x:Ar} (g:WL x) {v:Value} (d:ar (λs=>(δ s).er) x= .sc v):Cx δ x=v/\GM v=true:=by
 cases x with
 |t s=>obtain⟨_,e,_⟩:=h.leaf (s:=s) d rfl;exact⟨e.1,e.2⟩
 |c a=>
  obtain⟨D,b⟩:=g;simp only[ar]at d;subst d;simp only[Ix]at b;split at b
  . rename_i f;obtain rfl:=AAU b;exact⟨by simp[Cx,Ix,f],f⟩
  . cases b
theorem Nc {a:AV} {n:Int} (h:lG a=some n):∃k,a= .sc (.int k n):=by
 unfold lG at h;split at h
 . simp only[AAQ]at h;subst h;exact⟨_,rfl⟩
 . cases h
theorem St.node (h:St G w S δ Fr) {s r:Nat} {p:List Step} (j:(δ s).er= .al r p) {bx:Bool} {k:Nat} {rows:List (List AV)} (hn:sub (δ r).er p=some (.own bx k rows)):
 ∃b F,Aq (δ r) p=some (.own (δ s).Aw bx k b)/\b.map (·.map DV.er)=rows/\Ok w S (.own (δ s).Aw bx k b) F:=by
 obtain⟨_,_,f⟩:=h.leaf j rfl;obtain⟨l,m,a,c⟩:=f;obtain⟨D,e,d⟩:=Dj (h.ok r).Kw hn;rw[c]at e;obtain rfl:=AAU e;simp only[Ee,AV.own.injEq]at d;obtain⟨rfl,rfl,g⟩:=d;obtain⟨F,i,_⟩:=(h.ok r).Aq c;exact⟨a,F,c,g,i⟩
theorem St.Xc (h:St G w S δ Fr) {s:Nat} {bx:Bool} {k:Nat} {rows:List (List AV)} (a:(δ s).er= .own bx k rows):
 ∃c,δ s= .own (δ s).Aw bx k c/\c.map (·.map DV.er)=rows:=by
 have:=(h.ok s).Kw;cases hd:δ s with
 |own v b k' rows'=>rw[hd]at a;simp only[Ee,AV.own.injEq]at a;obtain⟨rfl,rfl,d⟩:=a;exact⟨rows',by simp,d⟩
 |lf b v=>rw[hd]at a this;cases this with|lf _ _ hl=>simp at a;subst a;simp[C0]at hl
 |agg=>rw[hd]at a;simp at a
 |BI=>rw[hd]at a;simp at a
theorem St.EB (h:St G w S δ Fr) {s r i j k:Nat} {p:List Step} (a:Abs.EB (λs=>(δ s).er) (.t s)=some (r,p,i,j,k)):
 ∃v bx d b F,Aq (δ r) p=some (.own v bx k d)/\Sd v=some b/\(δ s).Aw= .pointer (some ⟨b,i*k+j,none⟩)/\Ok w S (.own v bx k d) F/\(∀x,F x->Fr r x):=by
 simp only[Abs.EB]at a;cases hs:(δ s).er with
 |Kn r' p' i' j' o=>simp only[hs,AAQ,AAf]at a;obtain⟨rfl,rfl,rfl,rfl,rfl⟩:=a;obtain⟨_,_,u⟩:=h.leaf hs rfl;obtain⟨v,bx,rows,b,e,f,z⟩:=u;obtain⟨F,l,g⟩:=(h.ok _).Aq e;exact⟨v,bx,rows,b,F,e,f,z,l,g⟩
 |own bx o rows=>
  cases bx with
  |false=>simp[hs]at a
  |true=>
   simp only[hs,AAQ,AAf]at a;obtain⟨rfl,rfl,rfl,rfl,rfl⟩:=a;obtain⟨d,hd,_⟩:=h.Xc hs;have n:=h.ok s;rw[hd]at n;generalize B:(δ s).Aw=v at*;cases n with
   |own _ _ _ b c arr E Fs _ f hk Dv LO mY hr ME Ba KG l=>exact⟨JW true b d.length c,true,d,b,Fr s,by simp[Aq,hd],by simp,by simp[JW],by rw[← hd];exact h.ok s,λx C=>C⟩
 |al r' p'=>
  simp only[hs]at a;split at a
  . rename_i o m hn;simp only[AAQ,AAf]at a;obtain⟨rfl,rfl,rfl,rfl,rfl⟩:=a;obtain⟨d,F,e,_,l⟩:=h.node hs hn;obtain⟨q,y,g⟩:=(h.ok _).Aq e;generalize B:(δ s).Aw=v at*;cases y with
    |own _ _ _ b c arr E Fs _ f hk Dv LO mY hr ME Ba KG XA=>exact⟨JW true b d.length c,true,d,b,q,e,by simp,by simp[JW],.own true _ _ b c arr E Fs _ f hk Dv LO mY hr ME Ba KG XA,g⟩
  . cases a
 |_=>simp[hs]at a
theorem K3 {t:TypeId} {g:Bool} {n b off:Nat} {vs:List Value} (hn:Gg P t=some n) (d:JP P t=some g) (f:g=true∨n=1) (e:vs.length=n) (c:∀(j:Nat) v,vs[j]? =some v->w.cell? ⟨b,off+j,none⟩=some v):
 (loadVar t ⟨b,off,none⟩).run P w= .ok (if g=true then .agg vs.toArray else vs.headD undef) w:=by
 cases g with
 |true=>have:=run_loadCells_list (P:=P) w ⟨b,off,none⟩ vs (λj v h=>by rw[Addr.add_lit];exact c j v h);rw[e]at this;simp[loadVar,QI d,run_sizeOf hn,this]
 |false=>
  obtain rfl:=f.resolve_left (by simp)
  match vs,e with
  |[v],_=>have a:=c 0 v rfl;simp only[Nat.add_zero]at a;simp[loadVar,QI d,a]
theorem AAF {agg:Bool} {n:Nat} {f:List AV} {v:AV} (a:Ia agg n f=some v) (b:List DV) (e:b.map DV.er=f) (g:∀D∈b,Ok w S D (λ_=>False)) (h:∀D∈b,DU δ D):
 f.length=n/\Lf w S δ v (if agg=true then .agg (b.map DV.Aw).toArray else(b.map DV.Aw).headD undef):=by
 unfold Ia at a;split at a
 . rename_i hn;refine⟨hn,?_⟩;cases agg with
   |true=>simp only[AAq,AAQ]at a;subst a;exact⟨.agg b,by simp[e],by simp,Bt.2 (B4 g),.agg _ λi d hd=>h d (AAe hd)⟩
   |false=>
    simp only[AAY,AAd]at a;split at a
    . rename_i c;simp only[AAQ]at a;subst a
      match b,e with
      |[D],e=>simp only[AAi,AA1,List.cons.injEq,and_true]at e;exact⟨D,e,by simp,g D (by simp),h D (by simp)⟩
    . cases a
 . cases a
theorem W4 {a:AV} {v:Value} (h:Fz w S a v):∃D:DV,D.er=JQ a/\D.Aw=v/\Ok w S D (λ_=>False)/\DU δ D:=by
 cases h with
 |sc v hp=>exact⟨.lf (.sc v) v,by simp[JQ],by simp,.lf _ _ _ ⟨rfl,hp⟩ (λ_ h=>h),.lf _ _ trivial⟩
 |nil x k a c hx=>exact⟨.lf (.sl x k []) _,by simp[JQ],by simp,.lf _ _ _ (Fz.nil x k a c hx) (λ_ h=>h),.lf _ _ trivial⟩
 |sl x k rows b off c vs hx QS hS hk hc hr=>exact⟨.lf (.sl x k rows) _,by simp[JQ],by simp,.lf _ _ _ (Fz.sl x k rows b off c vs hx QS hS hk hc hr) (λ_ h=>h),.lf _ _ trivial⟩
 |dead=>exact⟨.lf .dead v,by simp[JQ],by simp,.lf _ _ _ trivial (λ_ h=>h),.lf _ _ trivial⟩
 |agg cs vs=>exact⟨.lf .dead _,by simp[JQ],rfl,.lf _ _ _ trivial (λ_ h=>h),.lf _ _ trivial⟩
 |BI cs vs=>exact⟨.lf .dead _,by simp[JQ],rfl,.lf _ _ _ trivial (λ_ h=>h),.lf _ _ trivial⟩
end Go.Abs
namespace Go.Abs
variable {w w':World} {S S':Nat->Prop} {G:Gi} {δ:Nat->DV} {Fr:Nat->Nat->Prop} {P:Program}
def Gives (P:Program) (w:World) (S:Nat->Prop) (δ:Nat->DV) (a:Act) (o:Oper) (v:AV):Prop:=
 ∃u,(execOp a.eval o).run P w= .ok (.value u) w/\Lf w S δ v u
theorem Sb (h:St G w S δ Fr) {a:Act} (k:Rd δ a) {o:Oper} {x:Operand} {y:Ar} (b:o.op= .move x∨o.op= .assign x) (l:CB x y=true) {v:AV} (d:valOf (.cp y) (λs=>(δ s).er)=some v):Gives P w S δ a o v:=by
 obtain⟨n,m⟩:=Aj l k;refine⟨Cx δ y,by rcases b with b|b<;>simp[execOp,b,m],?_⟩;cases y with
 |t s=>simp only[valOf,AAQ]at d;subst d;obtain⟨D,e,f,g,j⟩:=viewD (δ:=δ) s (h.ok s) [] (by simp[Aq]) (h.al s);exact⟨D,e,f,g,j⟩
 |c c=>simp only[valOf,AAQ]at d;subst d;obtain⟨D,i⟩:=n;obtain⟨e,f,g,_⟩:=Ib (w:=w) (S:=S) (δ:=δ) c D i;exact⟨D,e,by simp[Cx,i],f,g⟩
theorem mL (h:St G w S δ Fr) {a:Act} (f:Rd δ a) {o:Oper} {c x y:Operand} {c' m n:Ar} (j:o.op= .pick c x y) (r:CB c c'=true) (t:CB x m=true) (z:CB y n=true) {v:AV}
 (d:valOf (.pick c' m n) (λs=>(δ s).er)=some v):Gives P w S δ a o v:=by
 obtain⟨C,i⟩:=Aj r f;obtain⟨k,p⟩:=Aj t f;obtain⟨l,q⟩:=Aj z f;simp only[valOf]at d;split at d
 . rename_i b B;obtain⟨g,_⟩:=h.Ey C B;split at d
   . rename_i u e;simp only[AAQ]at d;subst d;refine⟨u,?_,?_⟩
     . cases b with
       |true=>have:=(h.Ey k (by simpa using e)).1;simp[execOp,j,i,g,asBool,p,this]
       |false=>have:=(h.Ey l (by simpa using e)).1;simp[execOp,j,i,g,asBool,q,this]
     . cases b with
       |true=>exact Lf.sc u (h.Ey k (by simpa using e)).2
       |false=>exact Lf.sc u (h.Ey l (by simpa using e)).2
   . cases d
 . cases d
theorem nK {v:Value} {bx:Bool} {k:Nat} {rows:List (List DV)} {F:Nat->Prop} (h:Ok w S (.own v bx k rows) F) {r:Nat} {p:List Step} (G:Aq (δ r) p=some (.own v bx k rows)) {b:Nat} (C:Sd v=some b) {i:Nat} {f:List DV}
 (hi:rows[i]? =some f) (j n:Nat):
 ∃o:List DV,o.map DV.er=Pt r p i k j (((f.map DV.er).drop j).take n)/\(∀D∈o,Ok w S D (λ_=>False))/\(∀D∈o,DU δ D)/\(∀(m:Nat) u,(o.map DV.Aw)[m]? =some u->w.cell? ⟨b,i*k+j+m,none⟩=some u):=by
 generalize B:v=v' at h;cases h with
 |nil=>simp at hi
 |own _ _ _ b' c arr E Fs _ p5 hk Dv LO hv hr hd Ba KG hF=>
  subst B;simp only[XD,AAQ]at C;subst C;obtain⟨o,g,t⟩:=LB ((f.drop j).take n) (λm d D=>D.er=vC r p i (j+m) k d.er/\D.Aw=d.Aw/\Ok w S D (λ_=>False)/\DU δ D/\w.cell? ⟨b',i*k+j+m,none⟩=some D.Aw) (by
   intro m d q;have y:f[j+m]? =some d:=by
    rw[ABV]at q;split at q
    . simpa using q
    . cases q
   have I:=hr i (j+m) f d hi y;have l:w.cell? ⟨b',i*k+j+m,none⟩=some d.Aw:=by
    simp only[World.cell?,p5]
    have:=hv i (j+m) f d hi y;rw[show i*k+j+m=i*k+(j+m)from by omega];simpa using this
   cases I with
   |lf a v _ ha mQ=>
    have g:=ha.C0;cases a with
    |sc u=>exact⟨.lf (.sc u) v,by simp[vC],by simp,.lf _ _ _ ha (λ_ h=>h),.lf _ _ trivial,l⟩
    |sl x k' rows'=>exact⟨.lf (.sl x k' rows') v,by simp[vC],by simp,.lf _ _ _ ha (λ_ h=>h),.lf _ _ trivial,l⟩
    |own=>simp[C0]at g
    |agg=>simp[C0]at g
    |BI=>simp[C0]at g
    |_=>exact⟨.lf .dead v,by simp[vC],by simp,.lf _ _ _ trivial (λ_ h=>h),.lf _ _ trivial,by simpa using l⟩
   |nil k' _ mQ=>exact⟨.lf (.al r (p++[(i,j+m,k)])) (.slice none 0 0),by simp[vC],by simp,.lf _ _ _ trivial (λ_ h=>h),.lf _ _ ⟨false,k',[],by rw[IW,G];simp[Aq,hi,y]⟩,by simpa using l⟩
   |own dP k' rows' b'' c' arr' E' Fs' _ g1 g2 g3 g4 g5 g6 g7 g8 g9 g10=>exact⟨.lf (.al r (p++[(i,j+m,k)])) (JW dP b'' rows'.length c'),by simp[vC],by simp,.lf _ _ _ trivial (λ_ h=>h),.lf _ _ ⟨dP,k',rows',by rw[IW,G];simp[Aq,hi,y]⟩,by simpa using l⟩
   |agg cs=>exact⟨.lf .dead (.agg (cs.map DV.Aw).toArray),by simp[vC],by simp,.lf _ _ _ trivial (λ_ h=>h),.lf _ _ trivial,by simpa using l⟩
   |BI cs=>exact⟨.lf .dead (.tuple (cs.map DV.Aw).toArray),by simp[vC],by simp,.lf _ _ _ trivial (λ_ h=>h),.lf _ _ trivial,by simpa using l⟩)
  refine⟨o,?_,?_,?_,?_⟩
  . refine map_mk g t _ _ (by simp[dN]) λm d D e q=> ?_;rw[wD,← List.map_drop,← ABh,AAb,q];simp[e.1]
  . intro D s;obtain⟨m,z⟩:=AAu s;obtain⟨c,_,e⟩:=mem_mk g t m D z;exact e.2.2.1
  . intro D s;obtain⟨m,z⟩:=AAu s;obtain⟨c,_,e⟩:=mem_mk g t m D z;exact e.2.2.2.1
  . intro m u H;rw[AAb,AAt]at H;obtain⟨D,s,rfl⟩:=H;obtain⟨c,_,e⟩:=mem_mk g t m D s;exact e.2.2.2.2
theorem RT (h:St G w S δ Fr) {s:Nat} {t:List AV} (e:(δ s).er= .agg t) {agg:Bool} {n off:Nat} {v:AV} (I:Ia agg n (Mm s off ((t.drop off).take n))=some v):
 ∃vals:List Value,(δ s).Aw= .agg vals.toArray/\((vals.drop off).take n).length=n/\Lf w S δ v (if agg=true then .agg ((vals.drop off).take n).toArray else((vals.drop off).take n).headD undef):=by
 obtain⟨ds,z,H⟩:∃ds,δ s= .agg ds/\ds.map DV.er=t:=by
  have:=(h.ok s).Kw;cases hd:δ s with
  |agg ds=>rw[hd]at e;simp at e;exact⟨ds,rfl,e⟩
  |lf c v=>rw[hd]at e this;cases this with|lf _ _ j=>simp at e;subst e;simp[C0]at j
  |own=>rw[hd]at e;simp at e
  |BI=>rw[hd]at e;simp at e
 have C:=h.ok s;have q:=h.al s;rw[z]at C q;cases C with
 |agg _ Fs _ hr ME Ba hF=>
  cases q with
  |agg _ q=>
   obtain⟨y,j,r⟩:=LB ((ds.drop off).take n) (λm d D=>D.er=vF s (off+m) d.er/\D.Aw=d.Aw/\Ok w S D (λ_=>False)/\DU δ D) (by
    intro m d f;have hd:ds[off+m]? =some d:=by
     rw[ABV]at f;split at f
     . rw[List.getElem?_drop]at f;exact f
     . cases f
    have g:=hr _ d hd;have o:=q _ d hd;cases d with
    |lf a u=>
     have x:=g.Kw;cases x with
     |lf _ _ fU=>
      cases g with
      |lf _ _ _ ha XA=>refine⟨.lf a u,?_,rfl,.lf _ _ _ ha (λ_ h=>h),o⟩;simp only[EU];cases a<;>simp_all [vF,C0]
    |own u bx k rows=>refine⟨.lf (.al s [(0,off+m,0)]) u,by simp[vF],by simp,.lf _ _ _ trivial (λ_ h=>h),.lf _ _ ⟨bx,k,rows,by simp[Aq,z,hd]⟩⟩
    |agg l=>exact⟨.lf .dead (DV.agg l).Aw,by simp[vF],by simp,.lf _ _ _ trivial (λ_ h=>h),.lf _ _ trivial⟩
    |BI l=>exact⟨.lf .dead (DV.BI l).Aw,by simp[vF],by simp,.lf _ _ _ trivial (λ_ h=>h),.lf _ _ trivial⟩)
   have F:y.map DV.er=Mm s off ((t.drop off).take n):=map_mk j r _ _ (by rw[dO,← H];simp) λi d D b hd=>(by rw[wE,← H,← List.map_drop,← ABh,AAb,hd,b.1];rfl);have E:y.map DV.Aw=((ds.map DV.Aw).drop off).take n:=map_mk j r _ _ (by simp) λi d D b hd=>(by rw[← List.map_drop,← ABh,AAb,hd,b.2.1];rfl);obtain⟨p,x⟩:=AAF (w:=w) (S:=S) (δ:=δ) I y F (λD B=>by obtain⟨m,f⟩:=AAu B;obtain⟨c,_,b⟩:=mem_mk j r m D f;exact b.2.2.1)
    (λD B=>by obtain⟨m,f⟩:=AAu B;obtain⟨c,_,b⟩:=mem_mk j r m D f;exact b.2.2.2)
   refine⟨ds.map DV.Aw,by rw[z];simp,?_,?_⟩
   . rw[← E,AA0]
     have:=ABl List.length F;rw[AA0]at this;rw[this,p]
   . rw[E]at x;exact x
theorem Sc (h:St G w S δ Fr) {a:Act} (ha:Rd δ a) {o:Oper} {t:TypeId} {x:Operand} {g:Bool} {n:Nat} {y:Ar} (ho:o.op= .load t x) (hn:Gg P t=some n) (hg:JP P t=some g) (J:g=true∨n=1) (U:CB x y=true) {v:AV}
 (d:valOf (.ld g n y) (λs=>(δ s).er)=some v):Gives P w S δ a o v:=by
 obtain⟨hy,he⟩:=Aj U ha;cases y with
 |c c=>simp[valOf]at d
 |t s=>
  have key:∀(b off:Nat) (f:List DV),(δ s).Aw= .pointer (some ⟨b,off,none⟩)->Ia g n (f.map DV.er)=some v->(∀D∈f,Ok w S D (λ_=>False))->(∀D∈f,DU δ D)->
   (∀(m:Nat) u,(f.map DV.Aw)[m]? =some u->w.cell? ⟨b,off+m,none⟩=some u)->Gives P w S δ a o v:=by
   intro b off f C T1 O Gk H;obtain⟨l,Q⟩:=AAF T1 f rfl O Gk;refine⟨_,?_,Q⟩
   have:=K3 (P:=P) (w:=w) (b:=b) (off:=off) (vs:=f.map DV.Aw) hn hg J (by simpa using l) H;simp only[execOp,ho,he,Cx,C,Instr.loadAt,Instr.sureAddr,Sem.run_bind,Sem.run_pure,Result.andThen_ok,this]
  simp only[valOf]at d;cases hs:(δ s).er with
  |fp cs=>
   simp only[hs]at d;obtain⟨_,I,_⟩:=h.leaf hs rfl;obtain⟨b,off,C,hS,H⟩:=I;obtain⟨f,M,L⟩:=LB (cs.take n) (λm c D=>D.er=JQ c/\w.cell? ⟨b,off+m,none⟩=some D.Aw/\Ok w S D (λ_=>False)/\DU δ D) (by
    intro m c B;rw[ABV]at B;split at B
    . obtain⟨u,N,hf⟩:=H m c B;obtain⟨D,E,I,R,T⟩:=W4 (δ:=δ) hf;exact⟨D,E,by rw[I];exact N,R,T⟩
    . cases B)
   refine key b off f C ?_ ?_ ?_ ?_
   . rw[← d];congr 1;exact map_mk M L _ _ (by simp) λi c D e U=>by simp only[AAb,U,AAw,e.1]
   . intro D z;obtain⟨m,B⟩:=AAu z;obtain⟨c,_,e⟩:=mem_mk M L m D B;exact e.2.2.1
   . intro D z;obtain⟨m,B⟩:=AAu z;obtain⟨c,_,e⟩:=mem_mk M L m D B;exact e.2.2.2
   . intro m u N;rw[AAb,AAt]at N;obtain⟨D,z,rfl⟩:=N;obtain⟨c,_,e⟩:=mem_mk M L m D z;exact e.2.1
  |vb q off us=>
   simp only[hs]at d;obtain⟨_,⟨b,C,hS,H⟩,DZ⟩:=h.leaf hs rfl;split at d
   . rename_i cs hq;obtain⟨vals,X,l,Q⟩:=RT h hq d;have W:vals=us:=by
      have E:(δ q).Aw= .agg us.toArray:=DZ;rw[X,Value.agg.injEq]at E
      have:=ABl Array.toList E;simpa using this
     subst W;refine⟨_,?_,Q⟩
     have:=K3 (P:=P) (w:=w) (b:=b) (off:=off) (vs:=(vals.drop off).take n) hn hg J l (λj v K=>by
      rw[ABV]at K;split at K
      . rw[List.getElem?_drop]at K;exact H _ v K
      . cases K)
     simp only[execOp,ho,he,Cx,C,Instr.loadAt,Instr.sureAddr,Sem.run_bind,Sem.run_pure,Result.andThen_ok,this]
   . cases d
  |_=>
   simp only[hs]at d;split at d
   . rename_i r p i j k VH;obtain⟨vh,bx,Al,b,F,Z,hb,C,O,_⟩:=h.EB VH;split at d
     . rename_i dP k' rows tW;obtain⟨D,z,FM⟩:=Dj (h.ok r).Kw tW;rw[Z]at z;obtain rfl:=AAU z;simp only[Ee,AV.own.injEq]at FM;obtain⟨rfl,rfl,rfl⟩:=FM;split at d
       . rename_i row Dt;rw[AAb,AAt]at Dt;obtain⟨Io,V,rfl⟩:=Dt;obtain⟨f,E,I,R,T⟩:=nK O Z hb V j n;exact key b (i*k+j) f C (by rw[E];exact d) I R T
       . cases d
     . cases d
   . cases d
end Go.Abs
namespace Go.Abs
variable {w w':World} {S S':Nat->Prop} {G:Gi} {δ:Nat->DV} {Fr:Nat->Nat->Prop} {P:Program}
theorem Mg {t:TypeId} {c:Array Field} {f:Nat} {a:Field} {n:Nat} (g:P.underlying t=some (.struct c)) (e:c[f]? =some a) (hn:Gg P a.type=some n) (d:n≠0) (b off:Nat) (w:World):
 (Instr.fieldAt t (.pointer (some ⟨b,off,none⟩)) f).run P w= .ok (.pointer (some ⟨b,off+a.offset,none⟩)) w:=by
 simp[Instr.fieldAt,underlying,g,e,Instr.sureAddr,fieldPlace,run_sizeOf hn,d,Addr.add_lit]
theorem Zo (h:St G w S δ Fr) {a:Act} (N:Rd δ a) {o:Oper} {t:TypeId} {x:Operand} {f off:Nat} {y:Ar} (C:o.op= .fieldAddr t x f) {E:Array Field} {e:Field} {n:Nat} (D:P.underlying t=some (.struct E)) (B:E[f]? =some e) (K:e.offset=off)
 (hn:Gg P e.type=some n) (m:n≠0) (Q:CB x y=true) {v:AV} (d:valOf (.Uf off y) (λs=>(δ s).er)=some v):Gives P w S δ a o v:=by
 obtain⟨U,z⟩:=Aj Q N;subst K;cases y with
 |c c=>simp[valOf]at d
 |t s=>
  simp only[valOf]at d;cases hs:(δ s).er with
  |fp cs=>
   simp only[hs,AAQ]at d;subst d;obtain⟨_,M,_⟩:=h.leaf hs rfl;obtain⟨b,off,g,u,l⟩:=M;refine⟨.pointer (some ⟨b,off+e.offset,none⟩),?_,Lf.fp u λj a H=> ?_⟩
   . simp only[execOp,C,z,Cx,g,Sem.run_bind,Mg D B hn m,Result.andThen_ok,Sem.run_pure]
   . rw[List.getElem?_drop]at H;rw[show off+e.offset+j=off+(e.offset+j)from by omega];exact l _ a H
  |vb q o us=>simp only[hs,AAQ]at d;subst d;obtain⟨_,⟨b,g,u,l⟩,J⟩:=h.leaf hs rfl;refine⟨.pointer (some ⟨b,o+e.offset,none⟩),?_,⟨.lf (.vb q (o+e.offset) us) _,by simp,by simp,.lf _ _ _ ⟨b,rfl,u,l⟩ (λ_ h=>h),.lf _ _ J⟩⟩;simp only[execOp,C,z,Cx,g,Sem.run_bind,Mg D B hn m,Result.andThen_ok,Sem.run_pure]
  |_=>
   simp only[hs]at d;split at d
   . rename_i r p i j k L;simp only[AAQ]at d;subst d;obtain⟨V,bx,R,b,F,I,O,g,T,_⟩:=h.EB L;refine⟨.pointer (some ⟨b,i*k+(j+e.offset),none⟩),?_,Lf.Kn I O⟩;simp only[execOp,C,z,Cx,g,Sem.run_bind,Mg D B hn m,Result.andThen_ok,Sem.run_pure,Nat.add_assoc]
   . cases d
theorem run_indexAt_slice {t e:TypeId} {k:Nat} (g:P.underlying t=some (.slice e)) (f:Gg P e=some k) {b off len c:Nat} {h:IntKind} {n:Int} (a:0≤n) (d:n<len) (w:World):
 (Instr.indexAt t (.slice (some ⟨b,off,none⟩) len c) (.int h n)).run P w= .ok (.pointer (some ⟨b,off+n.toNat*k,none⟩)) w:=by
 simp[Instr.indexAt,asIntOf,underlying,g,a,d,run_sizeOf f,Addr.add_lit]
theorem St.p7 (h:St G w S δ Fr) {x:Ar} (B:WL x) {n:AV} {q:ABr (Nat×List Step)} (d:hd (λs=>(δ s).er) x=some (n,q)):
 (∀b k rows,n= .own b k rows->∃g F,g.map (·.map DV.er)=rows/\Ok w S (.own (Cx δ x) b k g) F/\∀r p,q=some (r,p)->Aq (δ r) p=some (.own (Cx δ x) b k g))/\
 (∀e k rows,n= .sl e k rows->(∃s,x= .t s/\(δ s).er= .sl e k rows)->Fz w S (.sl e k rows) (Cx δ x)):=by
 cases x with
 |c c=>
  obtain⟨D,o⟩:=B;obtain⟨f,j,m,_⟩:=Ib (w:=w) (S:=S) (δ:=δ) c D o;constructor
  . rintro b k rows rfl;simp only[hd]at d;split at d
    . simp only[AAQ,AAf,AV.own.injEq]at d;obtain⟨⟨rfl,rfl,rfl⟩,rfl⟩:=d;cases D with
      |own v b' k'' g=>simp only[Ee,AV.own.injEq]at f;obtain⟨rfl,rfl,C⟩:=f;exact⟨g,_,C,by simpa[Cx,o]using j,by simp⟩
      |lf a v=>simp only[EU]at f;subst f;cases j with|lf _ _ _ ha _=>exact ha.elim
      |agg=>simp at f
      |BI=>simp at f
    . cases d
  . rintro e k rows rfl ⟨s,i,_⟩;cases i
 |t s=>
  simp only[hd]at d;constructor
  . rintro b k rows rfl;cases i:(δ s).er with
    |al r p=>
     simp only[i]at d;split at d
     . rename_i E hn;simp only[AAQ,AAf]at d;obtain⟨rfl,rfl⟩:=d;obtain⟨g,F,f,j,m⟩:=h.node i hn;exact⟨g,F,j,m,by rintro H p' ⟨⟩;exact f⟩
     . cases d
    |own b' k' rows'=>
     simp only[i,AAQ,AAf]at d;obtain⟨f,rfl⟩:=d;obtain⟨g,l,z⟩:=h.Xc (i.trans f);refine⟨g,Fr s,z,?_,?_⟩
     . have:=h.ok s;rw[l]at this;simpa[Cx]using this
     . rintro r p ⟨⟩;simpa[Aq,Cx]using l
    |sl e' k' rows'=>simp only[i,AAQ,AAf]at d;exact absurd d.1 (by simp)
    |_=>simp[i]at d
  . rintro e k rows rfl ⟨I,u,y⟩;cases u;exact(h.leaf y rfl).2.1
theorem Zp (h:St G w S δ Fr) {a:Act} (O:Rd δ a) {o:Oper} {t e:TypeId} {x i:Operand} {k:Nat} {y j:Ar} (U:o.op= .indexAddr t x i) (V:P.underlying t=some (.slice e)) (T:Gg P e=some k) (hc:CB x y=true) (Mq:CB i j=true) {v:AV}
 (g:valOf (.Yz k y j) (λs=>(δ s).er)=some v):Gives P w S δ a o v:=by
 obtain⟨L,Q⟩:=Aj hc O;obtain⟨R,q⟩:=Aj Mq O;simp only[valOf]at g;split at g
 . rename_i l rows r p n d hn;split at g
   . rename_i B;obtain⟨rfl,H,I⟩:=B;simp only[AAQ]at g;subst g;obtain⟨kk,hn⟩:=Nc hn;obtain⟨C,_⟩:=h.Ey R hn;obtain⟨N,F,z,X,UC⟩:=(h.p7 L d).1 _ _ _ rfl;have W:=UC r p rfl;generalize Cx δ y=vh at*;have f:N.length=rows.length:=(by rw[← z];simp);cases X with
     |nil=>simp at f;rw[← f]at I;simp at I;omega
     |own _ _ _ b c arr E Fs _ hb Yg Dv LO mY hr ME Ba KG hF=>refine⟨.pointer (some ⟨b,n.toNat*l+0,none⟩),?_,Lf.Kn W (by simp)⟩;simp only[execOp,U,Q,q,C,JW,Sem.run_bind,AAY,AAd,run_indexAt_slice V T H (show n<(N.length:Nat)by rw[f];exact I),Result.andThen_ok,Sem.run_pure];simp
   . cases g
 . rename_i ee l rows pl n d hn;split at g
   . rename_i B;obtain⟨rfl,H⟩:=B;obtain⟨kk,hn⟩:=Nc hn;obtain⟨C,_⟩:=h.Ey R hn;rw[AAt]at g;obtain⟨row,u,rfl⟩:=g;have K:∃s,y= .t s/\(δ s).er= .sl ee l rows:=by
      cases y with
      |c c=>
       obtain⟨D,J⟩:=L;simp only[hd]at d;split at d
       . simp at d
       . cases d
      |t s=>
       refine⟨s,rfl,?_⟩;simp only[hd]at d;cases hs:(δ s).er with
       |sl e2 k2 It=>simp only[hs,AAQ,AAf]at d;exact d.1
       |al r p=>
        simp only[hs]at d;split at d
        . rename_i n' tW;simp only[AAQ,AAf]at d;obtain⟨rfl,_⟩:=d
          -- an alias names a node
          obtain⟨_,_,Gk⟩:=h.leaf hs rfl;obtain⟨dP,k2,M,hl⟩:=Gk;obtain⟨D,J,Z⟩:=Dj (h.ok r).Kw tW;rw[hl]at J;obtain rfl:=AAU J;simp at Z
        . cases d
       |own=>simp[hs]at d
       |_=>simp[hs]at d
     have NW:=(h.p7 L d).2 _ _ _ rfl K;have Dq:n.toNat<rows.length:=(AAS.1 u).1;generalize Cx δ y=vh at*;cases NW with
     |nil=>simp at u
     |sl _ _ _ b off c vs hx QS hS Yg Bf hr=>
      refine⟨.pointer (some ⟨b,off+n.toNat*l,none⟩),?_,Lf.fp hS λm a z=> ?_⟩
      . simp only[execOp,U,Q,q,C,Sem.run_bind,run_indexAt_slice V T H (show n<(rows.length:Nat)by omega),Result.andThen_ok,Sem.run_pure]
      . refine⟨vs n.toNat m,?_,hr _ _ _ _ u z⟩
        have:=Bf _ _ _ _ u z;rw[show off+n.toNat*l+m=off+(n.toNat*l+m)from by omega];exact this
   . cases g
 . cases g
theorem sZ (h:St G w S δ Fr) {a:Act} (z:Rd δ a) {o:Oper} {op:BinOp} {t u:TypeId} {x y:Operand} {D E:Ar} (p:o.op= .binOp op t x y u) (H:CB x D=true) (F:CB y E=true) {v:AV}
 (b:valOf (.bin op D E) (λs=>(δ s).er)=some v):Gives P w S δ a o v:=by
 obtain⟨B,g⟩:=Aj H z;obtain⟨C,i⟩:=Aj F z;simp only[valOf]at b;unfold binF at b;split at b
 . rename_i k n K m j l;obtain⟨d,_⟩:=h.Ey B j;obtain⟨e,_⟩:=h.Ey C l;split at b
   . rename_i I;subst I;rw[AAt]at b;obtain⟨q,c,rfl⟩:=b;have f:(eqGuard op t x y (.int k n) (.int k m)).run P w= .ok () w:=(by cases op<;>simp[eqGuard]);have J:(binOp op t (.int k n) (.int k m)).run P w= .ok q w:=by
      cases op<;>simp[binI]at c<;>first
       | (subst c;simp[binOp,Op.intArith,Op.intCmp];done)
       | (obtain⟨r,rfl⟩:=c;simp[binOp,Op.intDiv,r];done)
     refine⟨q,?_,Lf.sc q ?_⟩
     . simp only[execOp,p,g,i,d,e,Sem.run_bind,f,J,Result.andThen_ok,Sem.run_pure]
     . cases op<;>simp[binI]at c<;>first
        | (subst c;rfl)
        | (obtain⟨r,rfl⟩:=c;rfl)
   . cases b
 . rename_i n m j l;obtain⟨d,_⟩:=h.Ey B j;obtain⟨e,_⟩:=h.Ey C l;have f:∀op,(eqGuard op t x y (.string n) (.string m)).run P w= .ok () w:=(by intro op;cases op<;>simp[eqGuard]);split at b
   . simp only[AAQ]at b;subst b;refine⟨_,?_,Lf.sc _ rfl⟩;simp only[execOp,p,g,i,d,e,Sem.run_bind,f,Result.andThen_ok];simp[binOp,Op.stringOp]
   . simp only[AAQ]at b;subst b;refine⟨_,?_,Lf.sc _ rfl⟩;simp only[execOp,p,g,i,d,e,Sem.run_bind,f,Result.andThen_ok];simp[binOp,Op.stringOp]
   . cases b
 . cases b
theorem sY (h:St G w S δ Fr) {a:Act} (j:Rd δ a) {o:Oper} {op:BinOp} {t u:TypeId} {x y:Operand} {q r:Ar} {b:Bool} (l:o.op= .binOp op t x y u) (d:op=if b=true then .neq else .eql) (p:P.underlying t=some .bool) (D:CB x q=true) (z:CB y r=true) {v:AV}
 (c:valOf (.beq b q r) (λs=>(δ s).er)=some v):Gives P w S δ a o v:=by
 obtain⟨E,g⟩:=Aj D j;obtain⟨F,i⟩:=Aj z j;simp only[valOf]at c;split at c
 . rename_i n m B C;obtain⟨e,_⟩:=h.Ey E B;obtain⟨f,_⟩:=h.Ey F C;simp only[AAQ]at c;subst c;refine⟨_,?_,Lf.sc _ rfl⟩;have k:∀op,(eqGuard op t x y (.bool n) (.bool m)).run P w= .ok () w:=(by intro op;cases op<;>simp[eqGuard]);cases b with
   |true=>simp only[AAq]at d;subst d;simp only[execOp,l,g,i,e,f,Sem.run_bind,k,Result.andThen_ok,run_neq_bool w t n m p,Sem.run_pure,AAq]
   |false=>simp only[AAY,AAd]at d;subst d;simp only[execOp,l,g,i,e,f,Sem.run_bind,k,Result.andThen_ok,run_eql_bool w t n m p,Sem.run_pure,AAY,AAd]
 . cases c
theorem AAH (h:St G w S δ Fr) {a:Act} (j:Rd δ a) {o:Oper} {op:UnOp} {t:TypeId} {x:Operand} {i:Ar} (f:o.op= .unOp op t x) (l:CB x i=true) {v:AV} (b:valOf (.un op i) (λs=>(δ s).er)=some v):Gives P w S δ a o v:=by
 obtain⟨g,e⟩:=Aj l j;simp only[valOf]at b;unfold unF at b;split at b
 . rename_i n d;obtain⟨c,_⟩:=h.Ey g d;split at b
   . simp only[AAQ]at b;subst b;exact⟨_,by simp[execOp,f,e,c,Op.unary],Lf.sc _ rfl⟩
   . cases b
 . rename_i k n d;obtain⟨c,_⟩:=h.Ey g d;split at b
   . simp only[AAQ]at b;subst b;exact⟨.int k (k.wrap (0-n)),by simp[execOp,f,e,c,Op.unary,Op.intArith],Lf.sc _ rfl⟩
   . cases b
 . cases b
theorem s6 (h:St G w S δ Fr) {a:Act} (i:Rd δ a) {o:Oper} {s d:TypeId} {k q:IntKind} {x:Operand} {c:Ar} (l:o.op= .convert s d x) (m:P.underlying s=some (.int q)) (hd:P.underlying d=some (.int k)) (j:CB x c=true) {v:AV} (b:valOf (.cvt k c) (λs=>(δ s).er)=some v):Gives P w S δ a o v:=by
 obtain⟨p,f⟩:=Aj j i;simp only[valOf]at b;split at b
 . rename_i r n g;obtain⟨e,_⟩:=h.Ey p g;simp only[AAQ]at b;subst b;exact⟨.int k (k.wrap n),by simp[execOp,l,f,e,convert,underlying,m,hd,Conv.intToInt],Lf.sc _ rfl⟩
 . cases b
end Go.Abs
namespace Go.Abs
variable {w w':World} {S S':Nat->Prop} {G:Gi} {δ:Nat->DV} {Fr:Nat->Nat->Prop} {P:Program}
theorem aE {v:Value} {k:Nat} {rows:List (List DV)} {F:Nat->Prop} (h:Ok w S (.own v false k rows) F):∃a c,v= .slice a rows.length c:=by
 cases h with
 |nil=>simp_all
 |own _ _ _ b c=>exact⟨some ⟨b,0,none⟩,c,by simp[JW]⟩
theorem O6 {v:Value} {e:Bool} {k:Nat} {rows:List (List AV)} (h:Fz w S (.sl e k rows) v):∃a c,v= .slice a rows.length c:=by
 cases h with
 |nil _ _ a c=>simp_all
 |sl _ _ _ b off c=>simp_all
theorem St.hdSl (h:St G w S δ Fr) {x:Ar} (j:WL x) {e:Bool} {k:Nat} {rows:List (List AV)} {m:ABr (Nat×List Step)} (a:hd (λs=>(δ s).er) x=some (.sl e k rows,m)):
 ∃s,x= .t s/\(δ s).er= .sl e k rows:=by
 cases x with
 |c c=>obtain⟨D,b⟩:=j;simp only[hd]at a;grind
 |t s=>
  refine⟨s,rfl,?_⟩;simp only[hd]at a;cases hs:(δ s).er with
  |sl e2 l It=>simp_all
  |al r p=>
   simp only[hs]at a;split at a
   . rename_i q n;simp only[AAQ,AAf]at a;obtain⟨rfl,_⟩:=a;obtain⟨_,_,g⟩:=h.leaf hs rfl;obtain⟨o,l,d,i⟩:=g;obtain⟨D,b,f⟩:=Dj (h.ok r).Kw n;rw[i]at b;obtain rfl:=AAU b;simp at f
   . cases a
  |own=>simp_all
  |_=>simp_all
theorem run_len_slice {t:TypeId} (a:ABr Addr) (n c:Nat) (d:∃e,P.underlying t=some (.slice e)) (ty:TypeId) (w:World):
 (Builtin.len_ #[t] ty #[.slice a n c]).run P w= .ok (.int .i64 n) w:=by
 obtain⟨e,b⟩:=d;simp[Builtin.len_,underlying,b,goInt]
theorem tF (h:St G w S δ Fr) {a:Act} (B:Rd δ a) {o:Oper} {c:Call} {x:Operand} {t:TypeId} {l:Ar} (D:o.op= .call c) (q:c.callee= .builtin .len) (p:c.args.toList=[x]) (i:c.argTypes.toList=[t])
 (H:(∃e,P.underlying t=some (.slice e))) (C:CB x l=true) {v:AV} (d:valOf (.len l) (λs=>(δ s).er)=some v):Gives P w S δ a o v:=by
 obtain⟨j,z⟩:=Aj C B;have u:c.args= #[x]:=by apply ABe;simpa using p
 have y:c.argTypes= #[t]:=by apply ABe;simpa using i
 have key:∀(b:ABr Addr) (n cc:Nat),Cx δ l= .slice b n cc->v= .sc (.int .i64 n)->Gives P w S δ a o v:=by
  rintro b n cc g rfl;refine⟨.int .i64 n,?_,Lf.sc _ rfl⟩
  have:=run_len_slice (P:=P) b n cc H o.type w;simp only[execOp,D,resolve,q,u,y,invoke,builtin,Sem.run_bind,Sem.run_pure,Result.andThen_ok,List.map_toArray,AAi,AA1,z,g,this]
 simp only[valOf]at d;split at d
 . rename_i k rows I f;simp only[AAQ]at d;obtain⟨J,F,K,m,_⟩:=(h.p7 j f).1 _ _ _ rfl;obtain⟨b,cc,E⟩:=aE m;grind
 . rename_i e k rows I f;simp only[AAQ]at d;have r:=(h.p7 j f).2 _ _ _ rfl (h.hdSl j f);obtain⟨b,cc,E⟩:=O6 r;simp_all
 . cases d
theorem mO (h:St G w S δ Fr) {a:Act} (m:Rd δ a) {o:Oper} {c:Call} {x:Operand} {t:TypeId} {e:Ar} (p:o.op= .call c) (g:c.callee= .builtin .len) (f:c.args.toList=[x]) (d:c.argTypes.toList=[t])
 (r:P.underlying t=some .string) (n:CB x e=true) {v:AV} (b:valOf (.ZN e) (λs=>(δ s).er)=some v):Gives P w S δ a o v:=by
 obtain⟨u,l⟩:=Aj n m;have i:c.args= #[x]:=by apply ABe;simpa using f
 have j:c.argTypes= #[t]:=by apply ABe;simpa using d
 simp only[valOf]at b;split at b
 . rename_i s q;simp only[AAQ]at b;subst b;obtain⟨k,_⟩:=h.Ey u q;refine⟨.int .i64 s.size,?_,Lf.sc _ rfl⟩;simp only[execOp,p,resolve,g,i,j,invoke,builtin,Sem.run_bind,Sem.run_pure,Result.andThen_ok,List.map_toArray,AAi,AA1,l,k];simp[Builtin.len_,underlying,r,goInt]
 . cases b
theorem s7 (h:St G w S δ Fr) {a:Act} (y:Rd δ a) {o:Oper} {x:Operand} {i:Nat} {j:Ar} (C:o.op= .extract x i) (z:CB x j=true) {v:AV} (b:valOf (.ext j i) (λs=>(δ s).er)=some v):Gives P w S δ a o v:=by
 obtain⟨E,n⟩:=Aj z y;cases j with
 |c c=>simp[valOf]at b
 |t s=>
  simp only[valOf]at b;split at b
  . rename_i m g;split at b
    . rename_i c l;simp only[AAQ]at b;subst b;obtain⟨ds,f,B⟩:∃ds,δ s= .BI ds/\ds.map DV.er=m:=by
       have:=(h.ok s).Kw;cases hd:δ s with
       |BI ds=>simp_all
       |lf c v=>rw[hd]at g this;cases this with|lf _ _ hl=>simp at g;subst g;simp[C0]at hl
       |own=>simp_all
       |agg=>simp_all
      rw[← B,AAb,AAt]at l;obtain⟨d,hd,rfl⟩:=l;have k:=h.ok s;have e:=h.al s;rw[f]at k e;cases k with
      |BI _ Fs _ hr ME Ba hF=>
       cases e with
       |BI _ e=>obtain⟨D,p,q,r,u⟩:=viewD (δ:=δ) s (hr i d hd) [(0,i,0)] (by simp[Aq,f,hd]) (e i d hd);refine⟨d.Aw,?_,D,p,q,r,u⟩;have:(ds.map DV.Aw).toArray[i]? =some d.Aw:=(by simp[hd]);simp only[execOp,C,n,Cx,f,LJ,Instr.extract,Sem.run_bind,this,Sem.run_pure,Result.andThen_ok]
    . cases b
  . cases b
theorem run_indexAt_array {t e:TypeId} {len k:Nat} (f:P.underlying t=some (.array len e)) (d:Gg P e=some k) {b off:Nat} {g:IntKind} {n:Int} (a:0≤n) (c:n<len) (w:World):
 (Instr.indexAt t (.pointer (some ⟨b,off,none⟩)) (.int g n)).run P w= .ok (.pointer (some ⟨b,off+n.toNat*k,none⟩)) w:=by
 simp[Instr.indexAt,asIntOf,underlying,f,a,c,run_sizeOf d,Addr.add_lit,Instr.sureAddr]
theorem sX (h:St G w S δ Fr) {a:Act} (z:Rd δ a) {o:Oper} {t e:TypeId} {x i:Operand} {len k:Nat} {y j:Ar} (D:o.op= .indexAddr t x i) (E:P.underlying t=some (.array len e)) (C:Gg P e=some k) (Q:CB x y=true) (J:CB i j=true) {v:AV}
 (d:valOf (.aad len k y j) (λs=>(δ s).er)=some v):Gives P w S δ a o v:=by
 obtain⟨Z,B⟩:=Aj Q z;obtain⟨R,f⟩:=Aj J z;cases y with
 |c c=>simp[valOf]at d
 |t s=>
  simp only[valOf]at d;split at d
  . rename_i s' n g hn;simp only[Ar.t.injEq]at g;subst g;split at d
    . rename_i I;obtain⟨q,u⟩:=I;obtain⟨kk,hn⟩:=Nc hn;obtain⟨L,_⟩:=h.Ey R hn;rw[L]at f;cases hs:(δ s).er with
      |fp cs=>
       simp only[hs,AAQ]at d;subst d;obtain⟨_,M,_⟩:=h.leaf hs rfl;obtain⟨b,off,l,N,V⟩:=M;refine⟨.pointer (some ⟨b,off+n.toNat*k,none⟩),?_,Lf.fp N λm a X=> ?_⟩
       . simp only[execOp,D,B,f,Cx,l,Sem.run_bind,run_indexAt_array E C q u,Result.andThen_ok,Sem.run_pure]
       grind
      |_=>
       simp only[hs]at d;split at d
       . rename_i r p i j T K;simp only[AAQ]at d;subst d;obtain⟨vh,bx,U,b,F,H,O,l,W,_⟩:=h.EB K;refine⟨.pointer (some ⟨b,i*T+(j+n.toNat*k),none⟩),?_,Lf.Kn H O⟩;simp only[execOp,D,B,f,Cx,l,Sem.run_bind,run_indexAt_array E C q u,Result.andThen_ok,Sem.run_pure,Nat.add_assoc]
       . cases d
    . cases d
  . cases d
theorem YB {t:TypeId} {g:Bool} {n off:Nat} {vals:List Value} (hn:Gg P t=some n) (b:JP P t=some g) (c:g=true∨n=1) (a:((vals.drop off).take n).length=n):
 (part t vals.toArray off).run P w= .ok (if g=true then .agg ((vals.drop off).take n).toArray else((vals.drop off).take n).headD undef) w:=by
 cases g with
 |true=>
  have e:vals.toArray.extract off (off+n)=((vals.drop off).take n).toArray:=by apply ABe;simp[List.extract_eq_take_drop]
  simp[part,QI b,run_sizeOf hn,e]
 |false=>
  obtain rfl:=c.resolve_left (by simp)
  match hd:(vals.drop off).take 1,a with
  |[v],_=>have d:vals[off]? =some v:=(by have:((vals.drop off).take 1)[0]? =some v:=(by rw[hd];rfl);simpa using this);simp[part,QI b,d]
theorem s8 (h:St G w S δ Fr) {a:Act} (m:Rd δ a) {o:Oper} {t:TypeId} {x:Operand} {f:Nat} {agg:Bool} {off n:Nat} {y:Ar} {i:Array Field} {e:Field} (z:o.op= .field t x f) (C:P.underlying t=some (.struct i)) (r:i[f]? =some e) (j:e.offset=off)
 (hn:Gg P e.type=some n) (u:JP P e.type=some agg) (l:agg=true∨n=1) (p:CB x y=true) {v:AV} (d:valOf (.fld agg off n y) (λs=>(δ s).er)=some v):Gives P w S δ a o v:=by
 obtain⟨E,q⟩:=Aj p m;cases y with
 |c c=>simp[valOf]at d
 |t s=>
  simp only[valOf]at d;split at d
  . rename_i D B;obtain⟨vals,g,b,k⟩:=RT h B d;refine⟨_,?_,k⟩
    have:=YB (w:=w) hn u l b;simp only[execOp,z,q,Cx,g,Instr.field,run_underlying C,r,asAgg,j,Sem.run_bind,Sem.run_pure,Result.andThen_ok,this]
  . cases d
theorem s9 (h:St G w S δ Fr) {a:Act} (m:Rd δ a) {o:Oper} {t e:TypeId} {x i:Operand} {agg:Bool} {len k:Nat} {y j:Ar} (H:o.op= .index t x i) (J:P.underlying t=some (.array len e)) (p:Gg P e=some k) (E:JP P e=some agg) (B:agg=true∨k=1)
 (C:CB x y=true) (r:CB i j=true) {v:AV} (b:valOf (.idx agg len k y j) (λs=>(δ s).er)=some v):Gives P w S δ a o v:=by
 obtain⟨L,D⟩:=Aj C m;obtain⟨F,d⟩:=Aj r m;cases y with
 |c c=>simp[valOf]at b
 |t s=>
  simp only[valOf]at b;split at b
  . rename_i N n f hn;simp only[Ar.t.injEq]at f;subst f;split at b
    . rename_i q;obtain⟨M,hn⟩:=Nc hn;obtain⟨z,_⟩:=h.Ey F hn;rw[z]at d;split at b
      . rename_i K I;obtain⟨vals,l,g,u⟩:=RT h I b;refine⟨_,?_,u⟩
        have:=YB (w:=w) p E B g;simp only[execOp,H,D,d,Cx,l,Instr.index,asIntOf,run_underlying J,q,and_self,AAq,run_sizeOf p,Sem.run_bind,Sem.run_pure,Result.andThen_ok,this]
      . cases b
    . cases b
  . cases b
theorem mN (h:St G w S δ Fr) {a:Act} (e:Rd δ a) {o:Oper} {t:TypeId} {x i:Operand} {y j:Ar} (u:o.op= .index t x i) (B:P.underlying t=some .string) (p:CB x y=true) (f:CB i j=true) {v:AV}
 (c:valOf (.jI y j) (λs=>(δ s).er)=some v):Gives P w S δ a o v:=by
 obtain⟨C,q⟩:=Aj p e;obtain⟨r,d⟩:=Aj f e;simp only[valOf]at c;split at c
 . rename_i s n z hn;obtain⟨D,hn⟩:=Nc hn;obtain⟨g,_⟩:=h.Ey r hn;obtain⟨k,_⟩:=h.Ey C z;split at c
   . rename_i l;rw[AAt]at c;obtain⟨b,m,rfl⟩:=c;refine⟨.int .u8 b.toNat,?_,Lf.sc _ rfl⟩;simp only[execOp,u,q,d,g,k,Instr.index,asIntOf,run_underlying B,l,AAq,m,Sem.run_bind,Sem.run_pure,Result.andThen_ok]
   . cases c
 . cases c
theorem St.yB (h:St G w S δ Fr) {x:Ar} (n:WL x) {f:List AV} (g:ar (λs=>(δ s).er) x= .agg f):∃vals:List Value,Cx δ x= .agg vals.toArray/\∀(j:Nat) u,f[j]? =some (.sc u)->vals[j]? =some u:=by
 obtain⟨D,F,e,o,i⟩:∃(D:DV) (F:Nat->Prop),D.er= .agg f/\D.Aw=Cx δ x/\Ok w S D F:=by
  cases x with
  |t s=>exact⟨δ s,Fr s,g,rfl,h.ok s⟩
  |c c=>obtain⟨k,l⟩:=n;obtain⟨m,g2,p,_⟩:=Ib (w:=w) (S:=S) (δ:=δ) c k l;simp only[ar]at g;exact⟨k,_,m.trans g,by simp[Cx,l],g2⟩
 obtain⟨ds,rfl⟩:∃ds,D= .agg ds:=by
  have:=i.Kw;cases D with
  |agg ds=>simp_all
  |lf c v=>cases this with|lf _ _ hl=>simp at e;subst e;simp[C0]at hl
  |own=>simp at e
  |BI=>simp at e
 refine⟨ds.map DV.Aw,by simp_all,λj u b=> ?_⟩;simp only[HU,AV.agg.injEq]at e;subst e;simp only[AAb]at b ⊢;cases hd:ds[j]? with
 |none=>simp_all
 |some d=>
  simp only[hd,AAw,AAQ]at b ⊢;cases i with
  |agg _ Fs _ hr _ _ _=>
   have:=hr j d hd;cases this with
   |lf a v _ hl _=>simp only[EU]at b;subst b;simpa using hl.1
   |nil=>simp at b
   |own=>simp at b
   |agg=>simp at b
   |BI=>simp at b
def kdOf:TypeDesc->ABr Nat
 | .bool=>some 0
 | .int _=>some 1
 | .string=>some 2
 |_=>none
def P6 (P:Program):Nat->List Field->List Nat->Bool
 |_,[],[]=>true
 |i,f::fs,k::ks=>f.name != "_" &&f.offset==i&&Gg P f.type==some 1&&JP P f.type==some false&&((P.underlying f.type).bind kdOf==some k)&&P6 P (i+1) fs ks
 |_,_,_=>false
def l6 (P:Program) (t:TypeId) (kd:List Nat):Bool:=match P.underlying t with
 |some (.struct fs)=> !P.stoodInHeld t&& !P.eqGuardType P.depth t&&P6 P 0 fs.toList kd
 |_=>false
theorem zV (d:Nat) {t:TypeId} {k:Nat} {u v:Value} {b:Bool} (a:(P.underlying t).bind kdOf=some k) (h:sS k u v=some b):(Op.equalIn (d+1) t u v).run P w= .ok b w:=by
 cases hu:P.underlying t with
 |none=>simp_all
 |some T=>
  simp only[hu,AAP]at a;cases T<;>simp only[kdOf,AAQ,reduceCtorEq]at a<;>subst a
  . cases u<;>cases v<;>simp only[sS,AAQ,reduceCtorEq]at h;subst h;exact run_equalIn_bool' w d t _ _ hu
  . cases u<;>cases v<;>simp only[sS,reduceCtorEq]at h;split at h
    . rename_i e;subst e;simp only[AAQ]at h;subst h;exact run_equalIn_int w d t _ _ _ _ hu
    . cases h
  . cases u<;>cases v<;>simp only[sS,AAQ,reduceCtorEq]at h;subst h;exact run_equalIn_string w d t _ _ hu
theorem bX (d:Nat) (q r:List Value) (p:List Field):∀(h:List Nat) (i:Nat) (c g:List AV) (b:Bool),P6 P i p h=true->P7 h c g=some b->
 (∀(j:Nat) u,c[j]? =some (.sc u)->q[i+j]? =some u)->(∀(j:Nat) u,g[j]? =some (.sc u)->r[i+j]? =some u)->(Op.eqFields (d+1) q.toArray r.toArray p).run P w= .ok b w:=by
 induction p with
 |nil=>
  intro h i c g b m e _ _;cases h with
  |cons=>simp[P6]at m
  |nil=>cases c<;>cases g<;>simp only[P7,AAQ,reduceCtorEq]at e;subst e;simp[Op.eqFields]
 |cons f p ih=>
  intro h i c g b m e n o;cases h with
  |nil=>simp[P6]at m
  |cons k ks=>
   simp only[P6,AAR,AAg,bne_iff_ne]at m;obtain⟨⟨⟨⟨⟨E,F⟩,G⟩,H⟩,I⟩,J⟩:=m
   match c,g,e with
   | .sc u::c,.sc v::g,e=>
    simp only[P7]at e;split at e
    . rename_i a B D g2;simp only[AAQ]at e;have t:q[i]? =some u:=(by have:=n 0 u rfl;simpa using this);have x:r[i]? =some v:=(by have:=o 0 v rfl;simpa using this);have one:∀(l:List Value) (u:Value),l[i]? =some u->(part f.type l.toArray i).run P w= .ok u w:=by
       intro l u K;have C:(l.drop i).take 1=[u]:=by obtain⟨z,rfl⟩:=AAS.1 K;rw[ABQ z];rfl
       have:=YB (w:=w) (off:=i) (vals:=l) G H (.inr rfl) (by grind);rw[this,C];rfl
      have y:=ih ks (i+1) c g B J g2 (λj u s=>by have:=n (j+1) u s;grind) (λj u s=>by have:=o (j+1) u s;grind);simp only[Op.eqFields,E,ne_eq,not_false_eq_true,AAq,F,Sem.run_bind,one q u t,one r v x,Result.andThen_ok,zV d I D];cases a with
      |true=>simp_all
      |false=>simp_all
    . cases e
theorem mM (h:St G w S δ Fr) {a:Act} (C:Rd δ a) {o:Oper} {op:BinOp} {t u:TypeId} {x y:Operand} {F H:Ar} {c:Bool} {k:List Nat} (E:o.op= .binOp op t x y u) (f:op=if c=true then .neq else .eql) (d:l6 P t k=true) (Q:CB x F=true) (I:CB y H=true) {v:AV}
 (e:valOf (.jH c k F H) (λs=>(δ s).er)=some v):Gives P w S δ a o v:=by
 obtain⟨U,r⟩:=Aj Q C;obtain⟨V,z⟩:=Aj I C;simp only[valOf]at e;split at e
 . rename_i g J M N;obtain⟨l,p,f1⟩:=h.yB U M;obtain⟨m,q,f2⟩:=h.yB V N;rw[AAt]at e;obtain⟨b,O,rfl⟩:=e;refine⟨_,?_,Lf.sc _ rfl⟩;unfold l6 at d;split at d
   . rename_i B T;simp only[AAR,ABA]at d;obtain⟨⟨K,g2⟩,L⟩:=d;have i:P.fieldsOf t=B:=(by simp[Program.fieldsOf,T]);have n:(Op.equalIn 10000 t (.agg l.toArray) (.agg m.toArray)).run P w= .ok b w:=(by rw[run_equalIn_struct w 9999 t _ _ (by simp_all) K,i];exact bX 9998 l m B.toList k 0 g J b L O (λj u R=>by simp_all) (λj u R=>by simp_all));have D:∀op,(eqGuard op t x y (.agg l.toArray) (.agg m.toArray)).run P w= .ok () w:=λop=>run_eqGuard_agg w op t x y _ _ g2;cases c with
     |true=>simp only[AAq]at f;subst f;simp only[execOp,E,r,z,p,q,Sem.run_bind,D,Result.andThen_ok,run_neq_struct,n,Sem.run_pure,AAq]
     |false=>simp only[AAY,AAd]at f;subst f;simp only[execOp,E,r,z,p,q,Sem.run_bind,D,Result.andThen_ok,run_eql_struct,n,Sem.run_pure,AAY,AAd]
   . cases d
 . cases e
theorem AAG (h:St G w S δ Fr) {a:Act} (i:Rd δ a) {o:Oper} {c:Call} {x y:Operand} {l p:Ar} {mx:Bool} (j:o.op= .call c) (d:c.callee= .builtin (if mx=true then .max else .min)) (q:c.args.toList=[x,y])
 (u:CB x l=true) (r:CB y p=true) {v:AV} (b:valOf (.mm mx l p) (λs=>(δ s).er)=some v):Gives P w S δ a o v:=by
 obtain⟨B,f⟩:=Aj u i;obtain⟨C,g⟩:=Aj r i;have e:c.args= #[x,y]:=by apply ABe;simpa using q
 simp only[valOf]at b;split at b
 . rename_i k n D m t g2;obtain⟨f1,_⟩:=h.Ey B t;obtain⟨f2,_⟩:=h.Ey C g2;split at b
   . rename_i z;subst z;simp only[AAQ]at b;subst b;refine⟨_,?_,Lf.sc _ rfl⟩;cases mx with
     |true=>simp only[AAq]at d;simp only[execOp,j,resolve,d,e,invoke,builtin,Sem.run_bind,Sem.run_pure,Result.andThen_ok,List.map_toArray,AAi,AA1,f,g,f1,f2,run_max_int2,AAq]
     |false=>simp only[AAY,AAd]at d;simp only[execOp,j,resolve,d,e,invoke,builtin,Sem.run_bind,Sem.run_pure,Result.andThen_ok,List.map_toArray,AAi,AA1,f,g,f1,f2,run_min_int2,AAY,AAd]
   . cases b
 . cases b
theorem qN {v:Value} {k:Nat} {rows:List (List DV)} {F:Nat->Prop} (h:Ok w S (.own v true k rows) F):∃b,v= .pointer (some ⟨b,0,none⟩):=by
 cases h with
 |own _ _ _ b c arr E Fs _=>exact⟨b,by simp[JW]⟩
theorem mK (h:St G w S δ Fr) {a:Act} (F:Rd δ a) {o:Oper} {x:Operand} {y:Ar} (l:o.op= .nilCheck x) (H:CB x y=true) {v:AV} (d:valOf (.Hx y) (λs=>(δ s).er)=some v):Gives P w S δ a o v:=by
 obtain⟨I,f⟩:=Aj H F;cases y with
 |c c=>
  obtain⟨K,J⟩:=I;simp only[valOf,ar]at d;cases c<;>first
   | (simp[Ix]at J;done)
   |grind
   |grind
 |t s=>
  simp only[valOf,ar]at d;cases hs:(δ s).er with
  |Kn r p i j k=>rw[hs]at d;simp only[AAQ]at d;subst d;obtain⟨B,_,g,bx,rows,b,m,g2,n⟩:=h.leaf hs rfl;exact⟨_,by simp only[execOp,l,f,Cx,n,Sem.run_pure],Lf.Kn m g2⟩
  |fp cs=>rw[hs]at d;simp only[AAQ]at d;subst d;obtain⟨B,⟨b,off,m,g2,n⟩,_⟩:=h.leaf hs rfl;exact⟨_,by simp only[execOp,l,f,Cx,m,Sem.run_pure],Lf.fp g2 n⟩
  |own b k rows=>
   rw[hs]at d;cases b with
   |false=>simp at d
   |true=>simp only[AAQ]at d;subst d;obtain⟨E,hd,L⟩:=h.Xc hs;have e:=h.ok s;rw[hd]at e;obtain⟨b,g⟩:=qN e;refine⟨(δ s).Aw,?_,Lf.al (r:=s) (p:=[]) (bx:=true) (k:=k) (rows:=E) (by simp[Aq];exact hd)⟩;simp only[execOp,l,f,Cx];rw[g];simp only[Sem.run_pure]
  |al r p=>
   rw[hs]at d;simp only at d;split at d
   . rename_i k rows hn;simp only[AAQ]at d;subst d;obtain⟨B,_,bx,M,u,q⟩:=h.leaf hs rfl;obtain⟨D,C,z⟩:=Dj (h.ok r).Kw hn;rw[q]at C;obtain rfl:=AAU C;simp only[Ee,AV.own.injEq]at z;obtain⟨rfl,rfl,_⟩:=z;obtain⟨F',e,_⟩:=(h.ok r).Aq q;obtain⟨b,g⟩:=qN e;refine⟨(δ s).Aw,?_,Lf.al q⟩;simp only[execOp,l,f,Cx];rw[g];simp only[Sem.run_pure]
   . cases d
  |_=>simp_all
theorem lR (h:St G w S δ Fr) {a:Act} (F:Rd δ a) (j:List Ar):∀{d:List Operand} {rs:List (Nat×List Step)},Gm d j=true->SH (λs=>(δ s).er) j=some rs->
 d.length=rs.length/\∀(i:Nat) r p u,rs[i]? =some (r,p)->(d.map a.eval)[i]? =some u->∃bx k rows,Aq (δ r) p=some (.own u bx k rows):=by
 induction j with
 |nil=>
  intro d rs f b;cases d with
  |cons=>simp[Gm]at f
  |nil=>simp only[SH,AAQ]at b;subst b;exact⟨rfl,by simp⟩
 |cons y j ih=>
  intro d rs f b;cases d with
  |nil=>simp[Gm]at f
  |cons x d=>
   simp only[Gm,AAR]at f;obtain⟨I,z⟩:=Aj f.1 F;cases y with
   |c=>simp[SH]at b
   |t s=>
    simp only[SH]at b;have step:∀v o l,SH (λs=>(δ s).er) j=some l->rs=(v,o)::l->(∃bx k rows,Aq (δ v) o=some (.own (a.eval x) bx k rows))->(x::d).length=rs.length/\∀(i:Nat) r p u,rs[i]? =some (r,p)->((x::d).map a.eval)[i]? =some u->∃bx k rows,Aq (δ r) p=some (.own u bx k rows):=by
     rintro v o l g rfl E;obtain⟨D,g2⟩:=ih f.2 g;refine⟨by simp[D],λi r p u hi n=> ?_⟩;cases i with
     |zero=>simp only[AA7,AAQ,AAf,AAi]at hi n;obtain⟨rfl,rfl⟩:=hi;subst n;exact E
     |succ i=>exact g2 i r p u (by simpa using hi) (by simpa using n)
    split at b
    . rename_i k rows l m g;simp only[AAQ]at b;obtain⟨B,hd,_⟩:=h.Xc m;exact step s [] l g b.symm ⟨true,k,B,by rw[z];simp[Aq,Cx];exact hd⟩
    . rename_i q p l m g;split at b
      . rename_i k rows hn;simp only[AAQ]at b;obtain⟨_,_,bx,H,e,C⟩:=h.leaf m rfl;exact step q p l g b.symm ⟨bx,H,e,by rw[z];exact C⟩
      . cases b
    . cases b
theorem Lf.cl {f:Nat} {rs:List (Nat×List Step)} {vs:List Value} (a:vs.length=rs.length) (b:∀(i:Nat) r p u,rs[i]? =some (r,p)->vs[i]? =some u->∃bx k rows,Aq (δ r) p=some (.own u bx k rows)):Lf w S δ (.cl f rs) (.func (.func f) #[] vs.toArray):=
 ⟨.lf (.cl f rs) _,by simp,by simp,.lf _ _ _ trivial (λ_ h=>h),.lf _ _ ⟨vs,rfl,a,b⟩⟩
theorem Zq (h:St G w S δ Fr) {a:Act} (g:Rd δ a) {o:Oper} {f:Nat} {first b:Array Operand} {c:List Ar} (k:o.op= .makeFunc (.func f) first b) (j:first= #[]) (i:Gm b.toList c=true) {v:AV} (d:valOf (.mkf f c) (λs=>(δ s).er)=some v):Gives P w S δ a o v:=by
 simp only[valOf,AAt]at d;obtain⟨rs,l,rfl⟩:=d;obtain⟨m,g2⟩:=lR h g c i l;refine⟨.func (.func f) #[] (b.toList.map a.eval).toArray,?_,Lf.cl (by simp_all) g2⟩;subst j;have e:b.map a.eval=(b.toList.map a.eval).toArray:=by apply ABe;simp
 simp[execOp,k,Instr.makeFunc,e]
end Go.Abs
namespace Go.Abs
variable {w w':World} {S S':Nat->Prop} {G:Gi} {δ:Nat->DV} {Fr:Nat->Nat->Prop} {P:Program}
theorem Kr {d:Type} {rows:List (List d)} {k i j:Nat} {a:List d} {x:d} (c:∀a∈rows,a.length=k) (b:rows[i]? =some a) (e:a[j]? =some x):rows.flatten[i*k+j]? =some x:=by
 induction rows generalizing i with
 |nil=>simp at b
 |cons r rs ih=>
  have f:=c r (by simp);have h:=Rl c b e;cases i with
  |zero=>simp only[AA7,AAQ]at b;subst b;simp only[List.flatten_cons,Nat.zero_mul,ABX];rw[AAr (by omega)];exact e
  |succ i=>simp only[ABH]at b;simp only[List.flatten_cons];rw[AAy (by rw[f,ABk];omega),f,show(i+1)*k+j-k=i*k+j from by rw[ABk];omega];exact ih (λa g=>c a (by simp[g])) b
theorem Dd {d:Type} {rows:List (List d)} {k:Nat} (b:∀a∈rows,a.length=k):rows.flatten.length=rows.length*k:=by
 induction rows with
 |nil=>simp
 |cons r rs ih=>simp only[List.flatten_cons,AAz,AA4,b r (by simp),ih (λa c=>b a (by simp[c])),ABk];omega
theorem LY {f k:List DV} {b a:Nat->Prop} (j:JS w S f b) (m:JS w S k a) (hd:∀x,b x->¬a x):JS w S (f++k) (λx=>b x∨a x):=by
 induction f generalizing b with
 |nil=>have:(λx=>b x∨a x)=a:=funext λx=>propext ⟨λh=>h.elim (λh=>absurd h (j x)) id,.inr⟩;rw[this];exact m
 |cons d l ih=>
  obtain⟨g,i,n,o,p,e⟩:=j;refine⟨g,λx=>i x∨a x,n,ih o (λx c=>hd x ((e x).2 (.inr c))),?_,λx=> ?_⟩
  . rintro x c (h|h)
    . exact p x c h
    . exact hd x ((e x).2 (.inl c)) h
  . show b x∨a x↔g x∨i x∨a x;rw[e x];exact or_assoc
theorem JS.congr {l:List DV} {F F':Nat->Prop} (h:JS w S l F) (a:∀x,F' x↔F x):JS w S l F':=by have:F'=F:=funext λx=>propext (a x);exact this▸h
theorem nO {bx:Bool} {k:Nat} {rows:List (List DV)} {b c:Nat} {arr:Array Value} {E:TypeId} {F:Nat->Prop} (D:w.heap[b]? =some (.cells arr E (0,0))) (f:∀a∈rows,a.length=k)
 (q:if bx then rows.length=1/\arr.size=k else c*k=arr.size/\rows.length≤c) (B:¬S b) (p:JS w S rows.flatten F) (t:¬F b) (C:∀(n:Nat) d,rows.flatten[n]? =some d->arr[n]? =some d.Aw):
 Ok w S (.own (JW bx b rows.length c) bx k rows) (λx=>x=b∨F x):=by
 obtain⟨r,v,y,z,g⟩:=Jh.1 p;refine .own bx k rows b c arr E (λi j x=>(∃a d,rows[i]? =some a/\a[j]? =some d)/\r (i*k+j) x) _ D f q B ?_ ?_ ?_ ?_ ?_ ?_
 . intro i j a d hi e;exact C _ d (Kr f hi e)
 . intro i j a d hi e;refine(v _ d (Kr f hi e)).congr λx=>⟨λh=>h.2,λh=>⟨⟨a,d,hi,e⟩,h⟩⟩
 . rintro i j I J x ⟨⟨a,d,hi,e⟩,G⟩ ⟨⟨o,H,hi',l⟩,s⟩;exact qG (Rl f hi e) (Rl f hi' l) (y _ _ x G s)
 . rintro i j x ⟨h,_⟩;exact h
 . rintro i j ⟨_,h⟩;exact t ((g b).2 ⟨_,h⟩)
 . intro x;constructor
   . rintro(h|h)
     . exact .inl h
     . obtain⟨n,hn⟩:=(g x).1 h;obtain⟨d,hd⟩:=z n x hn;have m:n<rows.length*k:=(by rw[← Dd f];exact(AAS.1 hd).1);have u:0<k:=(Nat.eq_zero_or_pos k).elim (λh=>by subst h;simp at m) id;have hi:n/k<rows.length:=Nat.div_lt_of_lt_mul (by rw[ABT];exact m);have e:n%k<(rows[n/k]).length:=(by rw[f _ (AAl hi)];exact Nat.mod_lt _ u);refine .inr ⟨n/k,n%k,⟨_,_,AAV hi,AAV e⟩,?_⟩;rw[ABT,Nat.div_add_mod];exact hn
   . rintro(h|⟨i,j,_,h⟩)
     . exact .inl h
     . exact .inr ((g x).2 ⟨_,h⟩)
theorem aC {v:Value} {bx:Bool} {k:Nat} {rows:List (List DV)} {F:Nat->Prop} (h:Ok w S (.own v bx k rows) F):
 (v= .slice none 0 0/\bx=false/\rows=[]/\∀x,¬F x)∨
 ∃b c arr E p,v=JW bx b rows.length c/\w.heap[b]? =some (.cells arr E (0,0))/\(∀o∈rows,o.length=k)/\(if bx then rows.length=1/\arr.size=k else c*k=arr.size/\rows.length≤c)/\¬S b/\JS w S rows.flatten p/\¬p b/\
  (∀x,F x↔x=b∨p x)/\(∀(n:Nat) d,rows.flatten[n]? =some d->arr[n]? =some d.Aw):=by
 cases h with
 |nil k _ hF=>exact .inl ⟨rfl,rfl,rfl,hF⟩
 |own _ _ _ b c arr E Fs _ hb hk Dv LO hv hr hd Ba KG hF=>
  refine .inr ⟨b,c,arr,E,λx=>∃i j,Fs i j x,rfl,hb,hk,Dv,LO,?_,λ⟨i,j,h⟩=>KG i j h,hF,?_⟩
  . refine Jh.2 ⟨λn x=>n<rows.length*k/\Fs (n/k) (n%k) x,?_,?_,?_,?_⟩
    . intro n d f;have e:n<rows.length*k:=(by rw[← Dd hk];exact(AAS.1 f).1);have g:0<k:=(Nat.eq_zero_or_pos k).elim (λh=>by subst h;simp at e) id;have hi:n/k<rows.length:=Nat.div_lt_of_lt_mul (by rw[ABT];exact e);have l:n%k<(rows[n/k]).length:=(by rw[hk _ (AAl hi)];exact Nat.mod_lt _ g);have a:=Kr hk (AAV hi) (AAV l);rw[ABT,Nat.div_add_mod,f]at a;obtain rfl:=AAU a;exact(hr _ _ _ _ (AAV hi) (AAV l)).congr λx=>⟨λh=>h.2,λh=>⟨e,h⟩⟩
    . rintro n u x ⟨a,q⟩ ⟨y,t⟩
      have:=hd _ _ _ _ x q t;rw[← Nat.div_add_mod n k,← Nat.div_add_mod u k,this.1,this.2]
    . rintro n x ⟨a,_⟩;exact⟨_,AAV (by rw[Dd hk];exact a)⟩
    . intro x;constructor
      . rintro⟨i,j,h⟩;obtain⟨o,d,a,q⟩:=Ba i j x h;have m:=Rl hk a q;have hi:=(AAS.1 a).1;have g:0<k:=(by omega);refine⟨i*k+j,?_,?_⟩
        . calc i*k+j<i*k+k:=by omega
           _=(i+1)*k:=by rw[ABk]
           _≤rows.length*k:=ABF _ hi
        . have r:(i*k+j)/k=i:=(by rw[ABT,Nat.mul_add_div g,Nat.div_eq_of_lt m];rfl);have s:(i*k+j)%k=j:=(by rw[ABT,Nat.mul_add_mod];exact Nat.mod_eq_of_lt m);rw[r,s];exact h
      . rintro⟨n,_,h⟩;exact⟨_,_,h⟩
  . intro n d f;have e:n<rows.length*k:=(by rw[← Dd hk];exact(AAS.1 f).1);have g:0<k:=(Nat.eq_zero_or_pos k).elim (λh=>by subst h;simp at e) id;have hi:n/k<rows.length:=Nat.div_lt_of_lt_mul (by rw[ABT];exact e);have l:n%k<(rows[n/k]).length:=(by rw[hk _ (AAl hi)];exact Nat.mod_lt _ g);have a:=Kr hk (AAV hi) (AAV l);rw[ABT,Nat.div_add_mod,f]at a;obtain rfl:=AAU a
    have:=hv _ _ _ _ (AAV hi) (AAV l);rw[ABT,Nat.div_add_mod]at this;exact this
theorem Kj {d:DV} {F:Nat->Prop} (h:Ok w S d F) (f:FL d.er=true):GM d.Aw=true:=by
 cases h with
 |lf a v _ ha _=>
  cases a with
  |sc u=>rw[KP,ha.1];exact ha.2
  |sl e k rows=>obtain⟨i,c,g⟩:=O6 (w:=w) (S:=S) ha;rw[KP,g];rfl
  |own=>exact ha.elim
  |_=>simp[FL]at f
 |nil=>rfl
 |own bx k rows b c=>cases bx<;>simp[JW,GM]
 |agg=>simp[FL]at f
 |BI=>simp[FL]at f
def cellsD:DV->List DV
 | .agg cs=>cs
 |d=>[d]
theorem LU (d:DV) (b:ZU d):(cellsD d).map DV.er=cellsOf d.er:=by
 cases d with
 |agg cs=>simp[cellsD,cellsOf]
 |lf a v=>cases b with|lf _ _ h=>cases a<;>simp_all [cellsD,cellsOf,C0]
 |own=>simp[cellsD,cellsOf]
 |BI=>simp[cellsD,cellsOf]
theorem Ud {v:Value} (h:GM v=true):v.cells= #[v]:=by cases v<;>simp_all [GM,Value.cells]
theorem La {d:DV} {F:Nat->Prop} (h:Ok w S d F) (c:(cellsOf d.er).all FL=true):d.Aw.cells=((cellsD d).map DV.Aw).toArray:=by
 cases hd:d with
 |agg cs=>simp[cellsD,Value.cells]
 |lf a v=>
  subst hd;have e:=h.Kw;rw[← LU _ e]at c;simp only[cellsD,AAi,AA1,ABL,List.all_nil,Bool.and_true]at c
  have:=Kj h c;simp only[cellsD,AAi,AA1];exact Ud this
 |own hh b k rows=>
  subst hd
  have:=Kj h (by simp[FL]);simp only[cellsD,AAi,AA1];exact Ud this
 |BI cs=>subst hd;simp[cellsOf,FL]at c
theorem NB {d:DV} {F:Nat->Prop} (h:Ok w S d F):JS w S (cellsD d) F:=by
 have b:JS w S [d] F:=⟨F,λ_=>False,h,λ_ h=>h,λ_ _ h=>h,λx=>by simp⟩;cases d with
 |agg cs=>exact Bt.1 h
 |lf a v=>exact b
 |own=>exact b
 |BI=>exact b
theorem Il (a:Act) (d:Nat) (v:Value) (h:d<a.tmps.size) (s:Nat):(a.put (some d) v).tmps.getD s undef=if s=d then v else a.tmps.getD s undef:=by
 simp only[Act.put,AAo,ABU];by_cases b:d=s
 . subst b;simp[h]
 . have:¬s=d:=λe=>b e.symm;simp[b,this]
def QO (P:Program) (G:Gi) (w:World) (S:Nat->Prop) (Fr:Nat->Nat->Prop) (a:Act) (o:Oper) (σ':Sg):Prop:=
 ∃(n:Next) (v:Value) (w':World) (S':Nat->Prop) (δ':Nat->DV) (F':Nat->Nat->Prop),(execOp a.eval o).run P w= .ok n w'/\(n= .value v∨n= .skip/\v=undef)/\Rd δ' (a.put o.dst v)/\(λs=>(δ' s).er)=σ'/\
  St G w' S' δ' F'/\Nx w S (BA Fr) w' S' (BA F')
def I7 (G:Gi) (a:Act) (o:Oper) (d:ABr Dk):Prop:=
 match d with
 |none=>o.dst=none
 |some d=>o.dst=some d.d/\d.kl=G.OB d.d/\d.rs=G.Gy d.d/\d.d<a.tmps.size
theorem KB {S1:Nat->Prop} {D:DV} {Ff:Nat->Prop} {c:Nat->DV} {e:Nat->Nat->Prop} {a:Act} {o:Oper} {d:Dk} {σ':Sg} (h:St G w S1 c e) (B:Rd c a) (hd:I7 G a o (some d)) (E:(execOp a.eval o).run P w= .ok (.value D.Aw) w')
 (F:∀b,S1 b->w'.heap[b]? =w.heap[b]?) (C:∀s x,e s x->w'.heap[x]? =w.heap[x]?) (p:∀b,S1 b->S' b) (r:∀s x,e s x->¬S' x)
 (z:Ok w' S' D Ff) (i:∀s x,e s x->¬Ff x) (m:DU c D) (q:wr d D.er (λs=>(c s).er)=some σ') (l:Nx w S (BA Fr) w' S' (λx=>BA e x∨Ff x)):QO P G w S Fr a o σ':=by
 obtain⟨t,u,v,y⟩:=hd;obtain⟨f,F',g,n,j,k⟩:=h.wr u v F C p r z i m q;refine⟨_,D.Aw,w',S',f,F',E,.inl rfl,?_,n,g,l.trans (Nx.less k)⟩;intro s;rw[t,Il a d.d D.Aw y s,j s];split
 . rfl
 . exact B s
theorem ZK {a:Act} {o:Oper} {d:Dk} {σ':Sg} {v:AV} (h:St G w S δ Fr) (g:Rd δ a) (hd:I7 G a o (some d)) (i:Gives P w S δ a o v) (f:wr d v (λs=>(δ s).er)=some σ'):QO P G w S Fr a o σ':=by obtain⟨u,j,D,rfl,rfl,c,e⟩:=i;exact KB h g hd j (λ_ _=>rfl) (λ_ _ _=>rfl) (λ_ h=>h) (λs x b=>(h.ok s).Et x b) c (λ_ _ _ h=>h) e f (Nx.less λx b=>b.elim id False.elim)
end Go.Abs
namespace Go.Abs
variable {w w':World} {S S':Nat->Prop} {G:Gi} {δ:Nat->DV} {Fr:Nat->Nat->Prop} {P:Program}
theorem alloc_old (w:World) (o:Obj) (b:Nat) (h:b<w.heap.size):(w.alloc o).heap[b]? =w.heap[b]? :=by show(w.heap.push o)[b]? =_;rw[Array.getElem?_push,AAZ (by omega)]
theorem ZX (w:World) (o:Obj):(w.alloc o).heap[w.heap.size]? =some o:=by show(w.heap.push o)[w.heap.size]? =_;simp
theorem Nx.alloc (w:World) (S U c:Nat->Prop) (o:Obj) (h:∀x,c x->U x∨x=w.heap.size):Nx w S U (w.alloc o) S c:=
 ⟨rfl,rfl,rfl,by simp,λb a _=>alloc_old w o b a,λ_ h=>h,λ_ h=>.inl h,λd b a=>by have:=d b a;simp;omega,λx f=>(h x f).imp id (λe=>by omega)⟩
theorem Nx.JM {w:World} {S U d a:Nat->Prop} (h:∀x,d x∨a x->U x) (e:∀x,a x->x<w.heap.size):Nx w S U w (λx=>S x∨a x) d:=
 ⟨rfl,rfl,rfl,AAv _,λ_ _ _=>rfl,λ_ h=>.inl h,λx c=>c.imp id λg=>.inl (h x (.inr g)),λi b f=>f.elim (i b) (e b),λx c=>.inl (h x (.inl c))⟩
theorem runs_mv (h:St G w S δ Fr) {a:Act} (e:Rd δ a) {o:Oper} {x:Operand} {y:Ar} {d:Dk} (hd:I7 G a o (some d)) (l:o.op= .assign x) (k:CB x y=true) {σ':Sg} (c:GU G (.mv y) (some d) (λs=>(δ s).er)=some σ'):QO P G w S Fr a o σ':=by
 obtain⟨p,i⟩:=Aj k e;simp only[GU]at c;split at c
 . rename_i v τ m;obtain⟨q,r,D,Ff,b,g,f,j⟩:=h.tk p m;subst g;subst f;exact KB b.st (λs=>(e s).trans (b.Aw s).symm) hd (by simp[execOp,l,i,j]) (λ_ _=>rfl) (λ_ _ _=>rfl) (λ_ h=>h) (λs x n=>(b.st.ok s).Et x n) b.ok b.MC b.al c (Nx.less b.own)
 . cases c
theorem YD {i:Nat->DV} {m:Nat->Nat->Prop} {a:Act} {o:Oper} {d:Dk} {σ':Sg} {bx:Bool} {k c:Nat} {rows:List (List DV)} {Fd:Nat->Prop} {arr:Array Value} {E:TypeId} (h:St G w S i m) (l:∀b,S b->b<w.heap.size) (C:Rd i a)
 (hd:I7 G a o (some d)) (H:(execOp a.eval o).run P w= .ok (.value (JW bx w.heap.size rows.length c)) (w.alloc (.cells arr E))) (j:JS w S rows.flatten Fd) (v:∀s x,m s x->¬Fd x) (F:∀r∈rows,r.length=k)
 (y:if bx then rows.length=1/\arr.size=k else c*k=arr.size/\rows.length≤c) (I:∀(n:Nat) d,rows.flatten[n]? =some d->arr[n]? =some d.Aw)
 (z:wr d (.own bx k (rows.map (·.map DV.er))) (λs=>(i s).er)=some σ') (u:∀x,BA m x∨Fd x->BA Fr x):QO P G w S Fr a o σ':=by
 have t:=(Bt.2 j).lt;have p:=(Bt.2 j).Et;have e:∀b,b<w.heap.size->(w.alloc (.cells arr E)).heap[b]? =w.heap[b]? :=λb g=>alloc_old _ _ _ g;have B:Ok (w.alloc (.cells arr E)) S (.own (JW bx w.heap.size rows.length c) bx k rows) (λx=>x=w.heap.size∨Fd x):=by refine nO (ZX w _) F y (λq=>by have:=l _ q;omega) ?_ (λq=>by have:=t _ q;omega) I;exact j.mono (λb g=>e b (l b g)) (λb g=>e b (t b g)) (λ_ h=>h) p
 refine KB (D:=.own (JW bx w.heap.size rows.length c) bx k rows) h C hd (by simpa using H) (λb g=>e b (l b g)) (λs x f=>e x ((h.ok s).lt x f)) (λ_ h=>h) (λs x f=>(h.ok s).Et x f) B ?_ (.own _ _ _ _) (by simpa using z) ?_
 . rintro s x f (rfl|hf)
   . have:=(h.ok s).lt _ f;omega
   . exact v s x f hf
 . refine Nx.alloc _ _ _ _ _ ?_;rintro x (f|rfl|f)
   . exact .inl (u x (.inl f))
   . exact .inr rfl
   . exact .inl (u x (.inr f))
theorem qQ (h:St G w S δ Fr) (r:∀b,S b->b<w.heap.size) {a:Act} (C:Rd δ a) {o:Oper} {y:Ar} {n:Nat} {d:Dk} (hd:I7 G a o (some d)) (I:WL y) {t:TypeId}
 (F:(execOp a.eval o).run P w= .ok (.value (.pointer (some ⟨w.heap.size,0,none⟩))) (w.alloc (.cells (Cx δ y).cells t))) {σ':Sg} (g:GU G (.bx n y) (some d) (λs=>(δ s).er)=some σ'):QO P G w S Fr a o σ':=by
 simp only[GU]at g;split at g
 . rename_i v τ H;split at g
   . rename_i x;obtain⟨hn,q⟩:=x;obtain⟨J,K,D,Ff,f,z,u,B⟩:=h.tk I H;subst z;subst u;have p:=LU D f.ok.Kw;have l:(cellsD D).length=n:=(by rw[← hn,← p];simp);have j:=La f.ok q;rw[B]at j;refine YD (bx:=true) (k:=n) (c:=0) (rows:=[cellsD D]) (Fd:=Ff) (arr:=(Cx δ y).cells) (E:=t) f.st r (λs=>(C s).trans (f.Aw s).symm) hd (by rw[F];simp[JW]) (by simpa using NB f.ok) f.MC (by simpa using l) ?_ ?_ ?_ f.own
     . simp[j,l]
     . intro m e i;simp only[List.flatten_cons,List.flatten_nil,List.append_nil]at i;simp[j,i]
     . simp only[AAi,AA1,p];exact g
   . cases g
 . cases g
theorem qP {P:Program} (t:TypeId) (v:Value) (w:World):(Instr.box t v).run P w= .ok (.pointer (some ⟨w.heap.size,0,none⟩)) (w.alloc (.cells v.cells t)):=by simp[Instr.box,newVar,newRow]
theorem vP {P:Program} (t:TypeId) (i:TypeInfo) (z:Value) (hi:P.info? t=some i) (a:i.zero=some z) (w:World):(Instr.alloc t true (.tuple #[])).run P w= .ok (.pointer (some ⟨w.heap.size,0,none⟩)) (w.alloc (.cells z.cells t)):=by simp[Instr.alloc,zeroValue,typeInfo,hi,a,newVar,newRow]
theorem WW {l r:List DV} {n o:Nat->Prop} (off:Nat) (z:JS w S l n) (B:JS w S r o) (hd:∀x,n x->¬o x) (G:off+r.length≤l.length):
 ∃F,JS w S (l.take off++r++l.drop (off+r.length)) F/\∀x,F x->n x∨o x:=by
 obtain⟨g,q,g2,s,p⟩:=Jh.1 z;obtain⟨Fr,C,D,E,u⟩:=Jh.1 B;have d:∀i,(l.take off++r++l.drop (off+r.length))[i]? =if i<off then l[i]? else if i<off+r.length then r[i-off]? else l[i]? :=by
  intro i;have j:(l.take off).length=off:=by simp;omega
  by_cases b:i<off
  . rw[ABB,AAr (by omega),ABV,AAa b,AAa b]
  . by_cases c:i<off+r.length
    . rw[AAr (by simp;omega),AAy (by omega),j,AAZ b,AAa c]
    . rw[AAy (by simp;omega),List.getElem?_drop,AAZ b,AAZ c];congr 1;simp;omega
 refine⟨λx=>∃i,(if i<off then g i x else if i<off+r.length then Fr (i-off) x else g i x),Jh.2 ⟨λi x=>if i<off then g i x else if i<off+r.length then Fr (i-off) x else g i x,?_,?_,?_,λx=>Iff.rfl⟩,?_⟩
 . intro i e f;rw[d]at f;by_cases b:i<off
   . simp only[b,AAq]at f ⊢;exact q i e f
   . by_cases c:i<off+r.length
     . simp only[b,c,AAq,AAd]at f ⊢;exact C _ e f
     . simp only[b,c,AAd]at f ⊢;exact q i e f
 . intro i t x a k;have out:∀i,g i x->n x:=λi h=>(p x).2 ⟨i,h⟩;have m:∀i,Fr i x->o x:=λi h=>(u x).2 ⟨i,h⟩;by_cases b:i<off<;>by_cases c:t<off<;>by_cases v:i<off+r.length<;>by_cases y:t<off+r.length<;>simp only[b,c,v,y,AAq,AAd]at a k<;>
    first
     |exact g2 _ _ x a k
     |exact absurd (m _ k) (hd x (out _ a))
     |exact absurd (m _ a) (hd x (out _ k))
     | (have:=D _ _ x a k;omega)
     |omega
 . intro i x a;rw[d];by_cases b:i<off
   . simp only[b,AAq]at a ⊢;exact s i x a
   . by_cases c:i<off+r.length
     . simp only[b,c,AAq,AAd]at a ⊢;exact E _ x a
     . simp only[b,c,AAd]at a ⊢;exact s i x a
 . rintro x ⟨i,a⟩;by_cases b:i<off
   . simp only[b,AAq]at a;exact .inl ((p x).2 ⟨i,a⟩)
   . by_cases c:i<off+r.length
     . simp only[b,c,AAq,AAd]at a;exact .inr ((u x).2 ⟨_,a⟩)
     . simp only[b,c,AAd]at a;exact .inl ((p x).2 ⟨i,a⟩)
theorem oC (ds r:List DV) (off:Nat):(ds.take off++r++ds.drop (off+r.length)).map DV.er=dG (ds.map DV.er) off (r.map DV.er):=by simp[dG,ABh,List.map_drop]
theorem AAB (vs:List Value) (off:Nat) (a:Array Value) (h:off+vs.length≤a.size) (m:Nat):
 ((vs.zipIdx m).foldl (λe (x:Value×Nat)=>e.setIfInBounds (off+x.2) x.1) a).toList=a.toList.take (off+m)++vs++a.toList.drop (off+m+vs.length)∨off+m+vs.length>a.size:=by
 induction vs generalizing a m with
 |nil=>left;simp
 |cons v vs ih=>
  by_cases c:off+m+(v::vs).length>a.size
  . exact .inr c
  . left
    simp only[List.zipIdx_cons,List.foldl_cons];have b:=ih (a.setIfInBounds (off+m) v) (by simp at h ⊢;omega) (m+1);simp only[Array.size_setIfInBounds]at b;rcases b with b|b
    . rw[b];have d:off+m<a.toList.length:=(by simp at c ⊢;omega);simp only[Array.toList_setIfInBounds];rw[List.take_set,List.drop_set_of_lt (by omega)];rw[show off+(m+1)=off+m+1 from by omega,List.take_succ_eq_append_getElem d,List.set_append_right _ _ (by simp;omega)];simp only[List.length_take,Nat.min_eq_left (Nat.le_of_lt d),Nat.sub_self,List.set_cons_zero,ABB,AA6,AA4,ABN];rw[show off+m+1+vs.length=off+m+(vs.length+1)from by omega]
    . simp at b c;omega
end Go.Abs
