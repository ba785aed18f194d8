/- A calculus of abstract states of Go memory, and that it is sound. -/
import Derived.Orders
import Derived.Deep.LoopGhost
import Derived.Laws.Cells
import Derived.Laws.Small
import Derived.Laws.AppendOwn
import Derived.Laws.CopyRow
import Derived.Laws.StructEq
set_option linter.unusedSimpArgs false
set_option linter.unusedVariables false
set_option linter.defProp false
namespace Go.Abs
def AA0:=@List.getElem_mem
def AA1:=@decide_eq_true_eq
def AA2:=@List.take_append_getElem
def AA3:=@List.contains_iff_mem
def AA4:=@Array.getD_eq_getD_getElem?
def AA5:=@if_true
def AA6:=@Option.map_eq_some_iff
def AA7:=@List.getElem?_of_mem
def AA8:=@Nat.le_refl
def AA9:=@Option.map_some
def AAg:=@Option.bind_some
def AAh:=@Option.some.injEq
def AAi:=@Bool.and_eq_true
def AAj:=@List.getElem?_eq_some_iff
def AAk:=@List.getElem?_set_self
def AAl:=@Option.some.inj
def AAm:=@List.all_eq_true
def AAn:=@List.getElem?_set_ne
def AAo:=@List.getElem?_eq_getElem
def AAp:=@if_neg
def AAq:=@of_decide_eq_true
def AAr:=@Bool.false_eq_true
def AAs:=@if_pos
def AAt:=@List.getElem?_map
def AAu:=@List.mem_of_getElem?
def AAv:=@Prod.mk.injEq
def AAw:=@beq_iff_eq
def AAx:=@if_false
def AAy:=@List.map_cons
def AAz:=@List.mem_append
def AB0:=@List.mem_map
def AB1:=@List.mem_of_find?_eq_some
def AB2:=@or_true
def AB3:=@true_or
def AB4:=@List.mem_of_mem_take
def AB5:=@List.replicate_succ'
def AB6:=@congrArg
def AB7:=@Iff.rfl
def ABA:=@List.getElem?_append_left
def ABB:=@List.mem_or_eq_of_mem_set
def ABC:=@List.getElem?_append_right
def ABD:=@Bool.true_and
def ABE:=@Bool.or_eq_true
def ABF:=@List.map_nil
def ABG:=@List.mem_singleton
def ABH:=@List.mem_cons
def ABI:=@List.length_map
def ABJ:=@List.drop_zero
def ABK:=@List.length_append
def ABL:=@List.map_append
def ABM:=@List.take_of_length_le
def ABN:=@Array.getElem?_eq_some_iff
def ABO:=@List.getElem?_cons_zero
def ABP:=@List.eq_nil_iff_forall_not_mem
def ABQ:=@Nat.mul_le_mul_right
def ABR:=@Bool.not_eq_true'
def ABS:=@Int.toNat_natCast
def ABT:=@List.getElem?_cons_succ
def ABU:=@or_false
def ABV:=@List.cons_append
def ABW:=@List.all_cons
def ABX:=@Option.isNone_iff_eq_none
def ABY:=@List.map_set
def ABZ:=@Nat.mul_comm
def ABa:=@List.not_mem_nil
def ABb:=@beq_self_eq_true
def ABc:=@Nat.le_trans
def ABd:=@List.drop_eq_getElem_cons
def ABe:=@List.length_cons
def ABf:=@List.all_map
def ABg:=@List.eq_of_mem_replicate
def ABh:=@Array.getElem?_setIfInBounds
def ABi:=@List.getElem?_take
def ABj:=@List.mem_cons_self
def ABk:=@Nat.lt_of_lt_of_le
def ABl:=@Nat.succ_mul
def ABm:=@List.mem_map_of_mem
def ABn:=@List.map_eq_singleton_iff
def ABo:=@List.length_nil
def ABp:=@List.length_replicate
def ABq:=@List.take_append_drop
def ABr:=@Nat.zero_add
def ABs:=@List.eq_nil_of_length_eq_zero
def ABt:=@List.append_assoc
def ABu:=@List.ext_getElem?
def ABv:=@beq_eq_false_iff_ne
def ABw:=@List.length_take_of_le
def ABx:=@Array.ext'
def ABy:=@List.getElem?_eq_none
def ABz:=@List.map_take
abbrev AB8 (a:Type _):=Option a
abbrev AB9:=ByteArray
abbrev Step:=Nat×Nat×Nat
inductive AV where
 |sc (v:Value)
 |sl (x:Bool) (k:Nat) (rows:List (List AV))
 |own (b:Bool) (k:Nat) (rows:List (List AV))
 |agg (cs:List AV)
 |BM (cs:List AV)
 |al (r:Nat) (p:List Step)
 |K2 (r:Nat) (p:List Step) (i j k:Nat)
 |fp (cs:List AV)
 |dead
 |un
 |cl (f:Nat) (rs:List (Nat×List Step))
 |vb (s off:Nat) (us:List Value)
 |nY (f:Nat) (Wt:List (List AV))
 deriving Inhabited
abbrev Sg:=Nat->AV
def DZ {α:Type} (σ:Nat->α) (d:Nat) (v:α):Nat->α:=λs=>if s=d then v else σ s
theorem BI {a:Type} (σ:Nat->a) (d:Nat) (v:a):DZ σ d v d=v:=by simp[DZ]
theorem Ba {a:Type} (σ:Nat->a) {d s:Nat} (v:a) (h:s≠d):DZ σ d v s=σ s:=by simp[DZ,h]
def sub:AV->List Step->AB8 AV
 |a,[]=>some a
 | .own _ _ rows,(i,j,_)::p=>match rows[i]? with
  |some row=>match row[j]? with
   |some c=>sub c p
   |none=>none
  |none=>none
 | .agg cs,(_,j,_)::p=>match cs[j]? with
  |some c=>sub c p
  |none=>none
 | .BM cs,(_,j,_)::p=>match cs[j]? with
  |some c=>sub c p
  |none=>none
 |_,_::_=>none
def put:AV->List Step->AV->AB8 AV
 |_,[],x=>some x
 | .own b k rows,(i,j,_)::p,x=>match rows[i]? with
  |some row=>match row[j]? with
   |some c=>match put c p x with
    |some c'=>some (.own b k (rows.set i (row.set j c')))
    |none=>none
   |none=>none
  |none=>none
 | .agg cs,(_,j,_)::p,x=>match cs[j]? with
  |some c=>match put c p x with
   |some c'=>some (.agg (cs.set j c'))
   |none=>none
  |none=>none
 | .BM cs,(_,j,_)::p,x=>match cs[j]? with
  |some c=>match put c p x with
   |some c'=>some (.BM (cs.set j c'))
   |none=>none
  |none=>none
 |_,_::_,_=>none
inductive DV where
 |lf (a:AV) (v:Value)
 |own (h:Value) (b:Bool) (k:Nat) (rows:List (List DV))
 |agg (cs:List DV)
 |BM (cs:List DV)
 deriving Inhabited
mutual
def DV.er:DV->AV
 | .lf a _=>a
 | .own _ b k rows=>.own b k (erR rows)
 | .agg cs=>.agg (erL cs)
 | .BM cs=>.BM (erL cs)
def erL:List DV->List AV
 |[]=>[]
 |d::r=>d.er::erL r
def erR:List (List DV)->List (List AV)
 |[]=>[]
 |d::r=>erL d::erR r
end
theorem nX (l:List DV):erL l=l.map DV.er:=by
 induction l with
 |nil=>rfl
 |cons d r ih=>simp[erL,ih]
theorem erR_eq (l:List (List DV)):erR l=l.map (·.map DV.er):=by
 induction l with
 |nil=>rfl
 |cons d r ih=>simp[erR,ih,nX]
mutual
def DV.A0:DV->Value
 | .lf _ v=>v
 | .own h _ _ _=>h
 | .agg cs=>.agg (zY cs).toArray
 | .BM cs=>.tuple (zY cs).toArray
def zY:List DV->List Value
 |[]=>[]
 |d::r=>d.A0::zY r
end
theorem qI (l:List DV):zY l=l.map DV.A0:=by
 induction l with
 |nil=>rfl
 |cons d r ih=>simp[zY,ih]
@[simp]theorem Ei (a:AV) (v:Value):(DV.lf a v).er=a:=by simp[DV.er]
@[simp]theorem Et (h:Value) (b:Bool) (k:Nat) (rows:List (List DV)):(DV.own h b k rows).er= .own b k (rows.map (·.map DV.er)):=by simp[DV.er,erR_eq]
@[simp]theorem Hi (a:List DV):(DV.agg a).er= .agg (a.map DV.er):=by simp[DV.er,nX]
@[simp]theorem JY (a:List DV):(DV.BM a).er= .BM (a.map DV.er):=by simp[DV.er,nX]
@[simp]theorem Kh (a:AV) (v:Value):(DV.lf a v).A0=v:=by simp[DV.A0]
@[simp]theorem Kz (h:Value) (b:Bool) (k:Nat) (rows:List (List DV)):(DV.own h b k rows).A0=h:=by simp[DV.A0]
@[simp]theorem KE (a:List DV):(DV.agg a).A0= .agg (a.map DV.A0).toArray:=by simp[DV.A0,qI]
@[simp]theorem Lg (a:List DV):(DV.BM a).A0= .tuple (a.map DV.A0).toArray:=by simp[DV.A0,qI]
def Au:DV->List Step->Option DV
 |a,[]=>some a
 | .own _ _ _ rows,(i,j,_)::p=>match rows[i]? with
  |some row=>match row[j]? with
   |some c=>Au c p
   |none=>none
  |none=>none
 | .agg cs,(_,j,_)::p=>match cs[j]? with
  |some c=>Au c p
  |none=>none
 | .BM cs,(_,j,_)::p=>match cs[j]? with
  |some c=>Au c p
  |none=>none
 |_,_::_=>none
def Di:DV->List Step->DV->Option DV
 |_,[],x=>some x
 | .own h b k rows,(i,j,_)::p,x=>match rows[i]? with
  |some row=>match row[j]? with
   |some c=>match Di c p x with
    |some c'=>some (.own h b k (rows.set i (row.set j c')))
    |none=>none
   |none=>none
  |none=>none
 | .agg cs,(_,j,_)::p,x=>match cs[j]? with
  |some c=>match Di c p x with
   |some c'=>some (.agg (cs.set j c'))
   |none=>none
  |none=>none
 | .BM cs,(_,j,_)::p,x=>match cs[j]? with
  |some c=>match Di c p x with
   |some c'=>some (.BM (cs.set j c'))
   |none=>none
  |none=>none
 |_,_::_,_=>none
def C9:AV->Bool
 | .own .. | .agg _| .BM _=>false
 |_=>true
inductive aF:DV->Prop
 |lf (a v) (h:C9 a=true):aF (.lf a v)
 |own (h b k rows) (hr:∀(i j:Nat) row d,rows[i]? =some row->row[j]? =some d->aF d):aF (.own h b k rows)
 |agg (cs) (hr:∀(i:Nat) d,cs[i]? =some d->aF d):aF (.agg cs)
 |BM (cs) (hr:∀(i:Nat) d,cs[i]? =some d->aF d):aF (.BM cs)
theorem aF.Au {d x:DV} {p:List Step} (h:aF d) (e:Au d p=some x):aF x:=by
 induction p generalizing d with
 |nil=>simp only[Abs.Au,Option.some.injEq]at e;exact e▸h
 |cons s p ih=>
  obtain⟨i,j,k⟩:=s;cases h with
  |lf a v h=>simp[Abs.Au]at e
  |own hh b k' rows hr=>
   simp only[Abs.Au]at e;split at e
   . split at e
     . rename_i g l _ c f;exact ih (hr i j g c l f) e
     . cases e
   . cases e
  |agg cs hr=>
   simp only[Abs.Au]at e;split at e
   . rename_i c f;exact ih (hr j c f) e
   . cases e
  |BM cs hr=>
   simp only[Abs.Au]at e;split at e
   . rename_i c f;exact ih (hr j c f) e
   . cases e
theorem Dr {d:DV} {p:List Step} {a:AV} (h:aF d) (e:sub d.er p=some a):∃x,Au d p=some x/\x.er=a:=by
 induction p generalizing d with
 |nil=>simp only[sub,Option.some.injEq]at e;exact⟨d,rfl,e⟩
 |cons s p ih=>
  obtain⟨i,j,k⟩:=s;cases h with
  |lf b v h=>cases b<;>simp_all [sub,C9]
  |own hh b k' rows hr=>
   simp only[Et,sub,List.getElem?_map]at e;cases hi:rows[i]? with
   |none=>simp[hi]at e
   |some row=>
    simp only[hi,Option.map_some,List.getElem?_map]at e;cases hj:row[j]? with
    |none=>simp[hj]at e
    |some c=>simp only[hj,Option.map_some]at e;obtain⟨x,g,f⟩:=ih (hr i j row c hi hj) e;exact⟨x,by simp[Au,hi,hj,g],f⟩
  |agg cs hr=>
   simp only[Hi,sub,List.getElem?_map]at e;cases hj:cs[j]? with
   |none=>simp[hj]at e
   |some c=>simp only[hj,Option.map_some]at e;obtain⟨x,g,f⟩:=ih (hr j c hj) e;exact⟨x,by simp[Au,hj,g],f⟩
  |BM cs hr=>
   simp only[JY,sub,List.getElem?_map]at e;cases hj:cs[j]? with
   |none=>simp[hj]at e
   |some c=>simp only[hj,Option.map_some]at e;obtain⟨x,g,f⟩:=ih (hr j c hj) e;exact⟨x,by simp[Au,hj,g],f⟩
theorem HS {d:DV} {p:List Step} {a:AV} (x:DV) (h:aF d) (e:put d.er p x.er=some a):∃t,Di d p x=some t/\t.er=a:=by
 induction p generalizing d a with
 |nil=>simp only[put,Option.some.injEq]at e;exact⟨x,rfl,e⟩
 |cons s p ih=>
  obtain⟨i,j,k⟩:=s;cases h with
  |lf b v h=>cases b<;>simp_all [put,C9]
  |own hh b k' rows hr=>
   simp only[Et,put,List.getElem?_map]at e;cases hi:rows[i]? with
   |none=>simp[hi]at e
   |some row=>
    simp only[hi,Option.map_some,List.getElem?_map]at e;cases hj:row[j]? with
    |none=>simp[hj]at e
    |some c=>
     simp only[hj,Option.map_some]at e;cases hp:put c.er p x.er with
     |none=>simp[hp]at e
     |some c'=>simp only[hp,Option.some.injEq]at e;obtain⟨t,g,f⟩:=ih (hr i j row c hi hj) hp;refine⟨.own hh b k' (rows.set i (row.set j t)),by simp[Di,hi,hj,g],?_⟩;rw[← e,← f];simp[List.map_set]
  |agg cs hr=>
   simp only[Hi,put,List.getElem?_map]at e;cases hj:cs[j]? with
   |none=>simp[hj]at e
   |some c=>
    simp only[hj,Option.map_some]at e;cases hp:put c.er p x.er with
    |none=>simp[hp]at e
    |some c'=>simp only[hp,Option.some.injEq]at e;obtain⟨t,g,f⟩:=ih (hr j c hj) hp;refine⟨.agg (cs.set j t),by simp[Di,hj,g],?_⟩;rw[← e,← f];simp[List.map_set]
  |BM cs hr=>
   simp only[JY,put,List.getElem?_map]at e;cases hj:cs[j]? with
   |none=>simp[hj]at e
   |some c=>
    simp only[hj,Option.map_some]at e;cases hp:put c.er p x.er with
    |none=>simp[hp]at e
    |some c'=>simp only[hp,Option.some.injEq]at e;obtain⟨t,g,f⟩:=ih (hr j c hj) hp;refine⟨.BM (cs.set j t),by simp[Di,hj,g],?_⟩;rw[← e,← f];simp[List.map_set]
end Go.Abs
namespace Go.Abs
def Ge:Value->Bool
 | .agg _| .tuple _=>false
 |_=>true
def Jp (bx:Bool) (b n c:Nat):Value:=if bx then .pointer (some ⟨b,0,none⟩)else .slice (some ⟨b,0,none⟩) n c
inductive Fz (w:World) (S:Nat->Prop):AV->Value->Prop
 |sc (v:Value) (hp:Ge v=true):Fz w S (.sc v) v
 |dead (v:Value):Fz w S .dead v
 |nil (x:Bool) (k:Nat) (a:AB8 Addr) (c:Nat) (hx:x=true->c=0):Fz w S (.sl x k []) (.slice a 0 c)
 |sl (x:Bool) (k:Nat) (rows:List (List AV)) (b off c:Nat) (vs:Nat->Nat->Value) (hx:x=true->c=rows.length) (Qy:rows.length≤c) (hS:S b)
  (hk:∀row∈rows,row.length=k)
  (hc:∀i j row a,rows[i]? =some row->row[j]? =some a->w.cell? ⟨b,off+(i*k+j),none⟩=some (vs i j))
  (hr:∀i j row a,rows[i]? =some row->row[j]? =some a->Fz w S a (vs i j)):Fz w S (.sl x k rows) (.slice (some ⟨b,off,none⟩) rows.length c)
 |agg (cs:List AV) (vs:List Value) (hs:vs.length=cs.length) (h:∀(i:Nat) a v,cs[i]? =some a->vs[i]? =some v->Fz w S a v):Fz w S (.agg cs) (.agg vs.toArray)
 |BM (cs:List AV) (vs:List Value) (hs:vs.length=cs.length) (h:∀(i:Nat) a v,cs[i]? =some a->vs[i]? =some v->Fz w S a v):Fz w S (.BM cs) (.tuple vs.toArray)
theorem Fz.mono {w w':World} {S S':Nat->Prop} {a:AV} {v:Value} (h:Fz w S a v) (l:∀b,S b->w'.heap[b]? =w.heap[b]?) (g:∀b,S b->S' b):Fz w' S' a v:=by
 induction h with
 |sc v hp=>exact .sc v hp
 |dead v=>exact .dead v
 |nil x k a c hx=>exact .nil x k a c hx
 |sl x k rows b off c vs hx Qy hb hk hc hr ih=>refine .sl x k rows b off c vs hx Qy (g b hb) hk (λi j d a e f=> ?_) (λi j d a e f=>ih i j d a e f);rw[← hc i j d a e f];simp only[World.cell?,l b hb]
 |agg cs vs hs h ih=>exact .agg cs vs hs ih
 |BM cs vs hs h ih=>exact .BM cs vs hs ih
def zK (w:World) (S:Nat->Prop) (cs:List AV) (v:Value):Prop:=∃b off,v= .pointer (some ⟨b,off,none⟩)/\S b/\∀(j:Nat) a,cs[j]? =some a->∃u,w.cell? ⟨b,off+j,none⟩=some u/\Fz w S a u
theorem zK.mono {w w':World} {S S':Nat->Prop} {c:List AV} {v:Value} (h:zK w S c v) (f:∀b,S b->w'.heap[b]? =w.heap[b]?) (d:∀b,S b->S' b):zK w' S' c v:=by obtain⟨b,off,rfl,e,g⟩:=h;refine⟨b,off,rfl,d b e,λj a k=> ?_⟩;obtain⟨u,l,i⟩:=g j a k;refine⟨u,?_,i.mono f d⟩;rw[← l];simp only[World.cell?,f b e]
def IA (w:World) (S:Nat->Prop):AV->Value->Prop
 | .sc u,v=>v=u/\Ge u=true
 | .sl x k rows,v=>Fz w S (.sl x k rows) v
 | .fp cs,v=>∃b off,v= .pointer (some ⟨b,off,none⟩)/\S b/\∀(j:Nat) a,cs[j]? =some a->∃u,w.cell? ⟨b,off+j,none⟩=some u/\Fz w S a u
 | .un,v=>v=undef
 | .al ..,_=>True
 | .K2 ..,_=>True
 | .dead,_=>True
 | .cl ..,_=>True
 | .nY f Wt,v=>∃vs:List Value,v= .func (.func f) #[] vs.toArray/\vs.length=Wt.length/\∀(i:Nat) cs u,Wt[i]? =some cs->vs[i]? =some u->zK w S cs u
 | .vb _ off us,v=>∃b,v= .pointer (some ⟨b,off,none⟩)/\S b/\∀(j:Nat) u,us[j]? =some u->w.cell? ⟨b,j,none⟩=some u
 |_,_=>False
theorem IA.C9 {w:World} {S:Nat->Prop} {a:AV} {v:Value} (h:IA w S a v):C9 a=true:=by cases a<;>simp_all [IA,Abs.C9]
theorem IA.mono {w w':World} {S S':Nat->Prop} {a:AV} {v:Value} (h:IA w S a v) (e:∀b,S b->w'.heap[b]? =w.heap[b]?) (c:∀b,S b->S' b):IA w' S' a v:=by
 cases a with
 |sl x k rows=>exact Fz.mono h e c
 |fp n=>obtain⟨b,off,rfl,d,g⟩:=h;refine⟨b,off,rfl,c b d,λj a l=> ?_⟩;obtain⟨u,m,r⟩:=g j a l;refine⟨u,?_,r.mono e c⟩;rw[← m];simp only[World.cell?,e b d]
 |sc u=>exact h
 |own=>exact h
 |agg=>exact h
 |BM=>exact h
 |al=>exact h
 |K2=>exact h
 |dead=>exact h
 |un=>exact h
 |cl=>exact h
 |nY f Wt=>obtain⟨vs,o,p,q⟩:=h;exact⟨vs,o,p,λi n u hi m=>(q i n u hi m).mono e c⟩
 |vb s off us=>obtain⟨b,rfl,d,g⟩:=h;refine⟨b,rfl,c b d,λj u l=> ?_⟩;rw[← g j u l];simp only[World.cell?,e b d]
inductive Ok (w:World) (S:Nat->Prop):DV->(Nat->Prop)->Prop
 |lf (a:AV) (v:Value) (F:Nat->Prop) (ha:IA w S a v) (hF:∀x,¬F x):Ok w S (.lf a v) F
 |nil (k:Nat) (F:Nat->Prop) (hF:∀x,¬F x):Ok w S (.own (.slice none 0 0) false k []) F
 |own (bx:Bool) (k:Nat) (rows:List (List DV)) (b c:Nat) (arr:Array Value) (E:TypeId) (Fs:Nat->Nat->Nat->Prop) (F:Nat->Prop)
  (hb:w.heap[b]? =some (.cells arr E (0,0))) (hk:∀row∈rows,row.length=k)
  (D6:if bx then rows.length=1/\arr.size=k else c*k=arr.size/\rows.length≤c) (hS:¬S b)
  (hv:∀(i j:Nat) row d,rows[i]? =some row->row[j]? =some d->arr[i*k+j]? =some d.A0)
  (hr:∀(i j:Nat) row d,rows[i]? =some row->row[j]? =some d->Ok w S d (Fs i j))
  (hd:∀i j i' j' x,Fs i j x->Fs i' j' x->i=i'/\j=j')
  (Bi:∀i j x,Fs i j x->∃row d,rows[i]? =some row/\row[j]? =some d) (KW:∀i j,¬Fs i j b)
  (hF:∀x,F x↔x=b∨∃i j,Fs i j x):Ok w S (.own (Jp bx b rows.length c) bx k rows) F
 |agg (cs:List DV) (Fs:Nat->Nat->Prop) (F:Nat->Prop) (hr:∀(i:Nat) d,cs[i]? =some d->Ok w S d (Fs i))
  (hd:∀i i' x,Fs i x->Fs i' x->i=i') (Bi:∀i x,Fs i x->∃d,cs[i]? =some d) (hF:∀x,F x↔∃i,Fs i x):Ok w S (.agg cs) F
 |BM (cs:List DV) (Fs:Nat->Nat->Prop) (F:Nat->Prop) (hr:∀(i:Nat) d,cs[i]? =some d->Ok w S d (Fs i))
  (hd:∀i i' x,Fs i x->Fs i' x->i=i') (Bi:∀i x,Fs i x->∃d,cs[i]? =some d) (hF:∀x,F x↔∃i,Fs i x):Ok w S (.BM cs) F
variable {w w':World} {S S':Nat->Prop} {d:DV} {F F':Nat->Prop}
theorem Ok.LD (h:Ok w S d F):aF d:=by
 induction h with
 |lf a v F ha hF=>exact .lf a v ha.C9
 |nil k F hF=>exact .own _ _ _ _ (by simp)
 |own bx k rows b c arr E Fs F hb hk D6 hS hv hr hd Bi KW hF ih=>exact .own _ _ _ _ ih
 |agg cs Fs F hr hd Bi hF ih=>exact .agg cs ih
 |BM cs Fs F hr hd Bi hF ih=>exact .BM cs ih
theorem Ok.E7 (h:Ok w S d F):∀x,F x->¬S x:=by
 induction h with
 |lf a v F ha hF=>exactλx e=>absurd e (hF x)
 |nil k F hF=>exactλx e=>absurd e (hF x)
 |own bx k rows b c arr E Fs F hb hk D6 hS hv hr hd Bi KW hF ih=>
  intro x e;rcases(hF x).1 e with rfl|⟨i,j,h⟩
  . exact hS
  . obtain⟨g,d,f,l⟩:=Bi i j x h;exact ih i j g d f l x h
 |agg cs Fs F hr hd Bi hF ih=>intro x e;obtain⟨i,h⟩:=(hF x).1 e;obtain⟨d,f⟩:=Bi i x h;exact ih i d f x h
 |BM cs Fs F hr hd Bi hF ih=>intro x e;obtain⟨i,h⟩:=(hF x).1 e;obtain⟨d,f⟩:=Bi i x h;exact ih i d f x h
theorem Ok.lt (h:Ok w S d F):∀x,F x->x<w.heap.size:=by
 induction h with
 |lf a v F ha hF=>exactλx e=>absurd e (hF x)
 |nil k F hF=>exactλx e=>absurd e (hF x)
 |own bx k rows b c arr E Fs F hb hk D6 hS hv hr hd Bi KW hF ih=>
  intro x e;rcases(hF x).1 e with rfl|⟨i,j,h⟩
  . exact(ABN.1 hb).1
  . obtain⟨g,d,f,l⟩:=Bi i j x h;exact ih i j g d f l x h
 |agg cs Fs F hr hd Bi hF ih=>intro x e;obtain⟨i,h⟩:=(hF x).1 e;obtain⟨d,f⟩:=Bi i x h;exact ih i d f x h
 |BM cs Fs F hr hd Bi hF ih=>intro x e;obtain⟨i,h⟩:=(hF x).1 e;obtain⟨d,f⟩:=Bi i x h;exact ih i d f x h
theorem Ok.congr (h:Ok w S d F) (a:∀x,F' x↔F x):Ok w S d F':=by have:F'=F:=funext λx=>propext (a x);exact this▸h
theorem Ok.mono (h:Ok w S d F) (o:∀b,S b->w'.heap[b]? =w.heap[b]?) (g:∀b,F b->w'.heap[b]? =w.heap[b]?) (n:∀b,S b->S' b) (hn:∀x,F x->¬S' x):Ok w' S' d F:=by
 induction h with
 |lf a v F ha hF=>exact .lf a v F (ha.mono o n) hF
 |nil k F hF=>exact .nil k F hF
 |own bx k rows b c arr E Fs F hb hk D6 Lk hv hr hd Bi KW hF ih=>
  refine .own bx k rows b c arr E Fs F ?_ hk D6 (hn b ((hF b).2 (.inl rfl))) hv (λi j l d f m=>ih i j l d f m ?_ ?_) hd Bi KW hF
  . rw[g b ((hF b).2 (.inl rfl))];exact hb
  . exactλx e=>g x ((hF x).2 (.inr ⟨i,j,e⟩))
  . exactλx e=>hn x ((hF x).2 (.inr ⟨i,j,e⟩))
 |agg cs Fs F hr hd Bi hF ih=>exact .agg cs Fs F (λi d f=>ih i d f (λx e=>g x ((hF x).2 ⟨i,e⟩)) (λx e=>hn x ((hF x).2 ⟨i,e⟩))) hd Bi hF
 |BM cs Fs F hr hd Bi hF ih=>exact .BM cs Fs F (λi d f=>ih i d f (λx e=>g x ((hF x).2 ⟨i,e⟩)) (λx e=>hn x ((hF x).2 ⟨i,e⟩))) hd Bi hF
theorem Ok.Au {x:DV} {p:List Step} (h:Ok w S d F) (f:Au d p=some x):∃F',Ok w S x F'/\∀y,F' y->F y:=by
 induction p generalizing d F with
 |nil=>simp only[Abs.Au,AAh]at f;exact⟨F,f▸h,λ_ h=>h⟩
 |cons s p ih=>
  obtain⟨i,j,k⟩:=s;cases h with
  |lf a v _ ha hF=>simp[Abs.Au]at f
  |nil k _ hF=>simp[Abs.Au]at f
  |own bx k rows b c arr E Fs _ hb hk D6 Lk hv hr hd Bi KW hF=>
   simp only[Abs.Au]at f;split at f
   . split at f
     . rename_i o q _ e m;obtain⟨F',g,l⟩:=ih (hr i j o e q m) f;exact⟨F',g,λy n=>(hF y).2 (.inr ⟨i,j,l y n⟩)⟩
     . cases f
   . cases f
  |agg cs Fs _ hr hd Bi hF=>
   simp only[Abs.Au]at f;split at f
   . rename_i e m;obtain⟨F',g,l⟩:=ih (hr j e m) f;exact⟨F',g,λy n=>(hF y).2 ⟨j,l y n⟩⟩
   . cases f
  |BM cs Fs _ hr hd Bi hF=>
   simp only[Abs.Au]at f;split at f
   . rename_i e m;obtain⟨F',g,l⟩:=ih (hr j e m) f;exact⟨F',g,λy n=>(hF y).2 ⟨j,l y n⟩⟩
   . cases f
mutual
def JZ:AV->AV
 | .own false k rows=>.sl false k (Ni rows)
 | .own true _ _=>.dead
 | .agg cs=>.agg (Zg cs)
 | .BM cs=>.BM (Zg cs)
 | .sc v=>.sc v
 | .sl x k rows=>.sl x k rows
 |_=>.dead
def Zg:List AV->List AV
 |[]=>[]
 |a::r=>JZ a::Zg r
def Ni:List (List AV)->List (List AV)
 |[]=>[]
 |a::r=>Zg a::Ni r
end
theorem Wx (l:List AV):Zg l=l.map JZ:=by
 induction l with
 |nil=>rfl
 |cons d r ih=>simp[Zg,ih]
theorem Wy (l:List (List AV)):Ni l=l.map (·.map JZ):=by
 induction l with
 |nil=>rfl
 |cons d r ih=>simp[Ni,ih,Wx]
@[simp]theorem OK (k:Nat) (rows:List (List AV)):JZ (.own false k rows)= .sl false k (rows.map (·.map JZ)):=by simp[JZ,Wy]
@[simp]theorem qW (k:Nat) (rows:List (List AV)):JZ (.own true k rows)= .dead:=by simp[JZ]
@[simp]theorem qV (a:List AV):JZ (.agg a)= .agg (a.map JZ):=by simp[JZ,Wx]
@[simp]theorem qX (a:List AV):JZ (.BM a)= .BM (a.map JZ):=by simp[JZ,Wx]
@[simp]theorem frz_sc (v:Value):JZ (.sc v)= .sc v:=by simp[JZ]
@[simp]theorem frz_sl (x:Bool) (k:Nat) (rows:List (List AV)):JZ (.sl x k rows)= .sl x k rows:=by simp[JZ]
theorem frz_leaf {a:AV} {v:Value} (h:IA w S a v):Fz w S (JZ a) v:=by
 cases a with
 |sc u=>obtain⟨rfl,b⟩:=h;simpa using Fz.sc v b
 |sl x k rows=>rw[frz_sl];exact h
 |_=>first|exact h.elim| (simp only[JZ];exact .dead v)
theorem Ok.freeze (h:Ok w S d F):Fz w (λx=>S x∨F x) (JZ d.er) d.A0:=by
 induction h with
 |lf a v F ha hF=>simp only[Ei,Kh];exact(frz_leaf ha).mono (λ_ _=>rfl) (λ_ h=>.inl h)
 |nil k F hF=>simpa using Fz.nil false k none 0 (by simp)
 |own bx k rows b c arr E Fs F hb hk D6 Lk hv hr hd Bi KW hF ih=>
  cases bx with
  |true=>simp only[Et,qW];exact .dead _
  |false=>
   simp only[Et,OK,Kz,Jp,List.map_map];have g:((rows.map ((λx=>x.map JZ) ∘ λx=>x.map DV.er))).length=rows.length:=(by simp);rw[show(Value.slice (some ⟨b,0,none⟩) rows.length c)=Value.slice (some ⟨b,0,none⟩) (rows.map ((λx=>x.map JZ) ∘ λx=>x.map DV.er)).length c from by rw[g]];refine Fz.sl false k _ b 0 c (λi j=>(arr[i*k+j]?).getD undef) (by simp) (by rw[g];simp at D6;exact D6.2) (.inr ((hF b).2 (.inl rfl))) ?_ ?_ ?_
   . intro n q;obtain⟨m,l,rfl⟩:=List.mem_map.1 q;simpa using hk m l
   . intro i j n a e f;simp only[List.getElem?_map,Option.map_eq_some_iff]at e;obtain⟨m,l,rfl⟩:=e;simp only[Function.comp,List.map_map,List.getElem?_map,Option.map_eq_some_iff]at f;obtain⟨d0,o,rfl⟩:=f;simp[World.cell?,hb,hv i j m d0 l o]
   . intro i j n a e f;simp only[List.getElem?_map,Option.map_eq_some_iff]at e;obtain⟨m,l,rfl⟩:=e;simp only[Function.comp,List.map_map,List.getElem?_map,Option.map_eq_some_iff]at f;obtain⟨d0,o,rfl⟩:=f;simp only[hv i j m d0 l o,Option.getD_some];refine(ih i j m d0 l o).mono (λ_ _=>rfl) ?_;rintro x (h|h)
     . exact .inl h
     . exact .inr ((hF x).2 (.inr ⟨i,j,h⟩))
 |agg cs Fs F hr hd Bi hF ih=>
  simp only[Hi,qV,KE];refine Fz.agg _ _ (by simp) ?_;intro i a v e f;simp only[List.map_map,List.getElem?_map,Option.map_eq_some_iff]at e f;obtain⟨d1,e,rfl⟩:=e;obtain⟨p,f,rfl⟩:=f;obtain rfl:d1=p:=by rw[e]at f;exact Option.some.inj f
  refine(ih i d1 e).mono (λ_ _=>rfl) ?_;rintro x (h|h)
  . exact .inl h
  . exact .inr ((hF x).2 ⟨i,h⟩)
 |BM cs Fs F hr hd Bi hF ih=>
  simp only[JY,qX,Lg];refine Fz.BM _ _ (by simp) ?_;intro i a v e f;simp only[List.map_map,List.getElem?_map,Option.map_eq_some_iff]at e f;obtain⟨d1,e,rfl⟩:=e;obtain⟨p,f,rfl⟩:=f;obtain rfl:d1=p:=by rw[e]at f;exact Option.some.inj f
  refine(ih i d1 e).mono (λ_ _=>rfl) ?_;rintro x (h|h)
  . exact .inl h
  . exact .inr ((hF x).2 ⟨i,h⟩)
end Go.Abs
namespace Go.Abs
variable {w w':World} {S S':Nat->Prop} {d:DV} {F F':Nat->Prop}
def TQ:Value->AB8 Nat
 | .slice (some a) _ _=>some a.block
 | .pointer (some a)=>some a.block
 |_=>none
@[simp]theorem Xy (bx:Bool) (b n c:Nat):TQ (Jp bx b n c)=some b:=by cases bx<;>rfl
theorem rM {k i j a b:Nat} (g:j<k) (l:b<k) (h:i*k+j=a*k+b):i=a/\j=b:=by
 have c:0<k:=by omega
 have d:(i*k+j)/k=i:=by rw[ABZ,Nat.mul_add_div c,Nat.div_eq_of_lt g];rfl
 have e:(a*k+b)/k=a:=by rw[ABZ,Nat.mul_add_div c,Nat.div_eq_of_lt l];rfl
 have f:i=a:=by rw[← d,← e,h]
 subst f;exact⟨rfl,by omega⟩
theorem Rg (w:World) (b o:Nat) (v:Value) (arr:Array Value) (E:TypeId) (fz:Nat×Nat) (a:w.heap[b]? =some (.cells arr E fz)):
 (w.setCell ⟨b,o,none⟩ v).heap[b]? =some (.cells (arr.setIfInBounds o v) E fz):=by
 simp[World.setCell,Array.getElem?_modify,a]
theorem DK (w:World) (b o x:Nat) (v:Value) (h:x≠b):(w.setCell ⟨b,o,none⟩ v).heap[x]? =w.heap[x]? :=by simp only[World.setCell,Array.getElem?_modify];rw[AAp (by omega)]
theorem Si {b:Type} {rows:List (List b)} {k i j:Nat} {a:List b} {x:b} (e:∀a∈rows,a.length=k) (c:rows[i]? =some a) (d:a[j]? =some x):j<k:=by
 have:=e a (AAu c)
 have:=(AAj.1 d).1;omega
theorem Ok.store {new:DV} {Fn:Nat->Prop} {k i j:Nat} {bx:Bool} {rows:List (List DV)} {u:List DV} {X:DV} {K:Value} {b:Nat} (p:List Step)
 (h:Ok w S d F) (z:Abs.Au d p=some (.own K bx k rows)) (L:rows[i]? =some u) (Z:u[j]? =some X) (hb:TQ K=some b)
 (hn:Ok (w.setCell ⟨b,i*k+j,none⟩ new.A0) S new Fn) (G:∀x,Fn x->¬F x):
 ∃t F',Di d (p++[(i,j,k)]) new=some t/\Ok (w.setCell ⟨b,i*k+j,none⟩ new.A0) S t F'/\(∀x,F' x->F x∨Fn x)/\t.A0=d.A0/\F b:=by
 induction p generalizing d F with
 |nil=>
  simp only[Abs.Au,AAh]at z;subst z;generalize hvv:K=oS at h;cases h with
  |nil k _ hF=>simp at L
  |own _ _ _ b' c arr E Fs _ q8 hk D6 Lk K hr hd Bi KW hF=>
   subst hvv;simp only[Xy,AAh]at hb;subst hb;have hjk:=Si hk L Z;have J:=(AAj.1 L).1;have D:=(AAj.1 Z).1;have V1:i*k+j<arr.size:=(by have:=K i j u X L Z;exact(ABN.1 this).1);refine⟨.own (Jp bx b' rows.length c) bx k (rows.set i (u.set j new)),λx=>x=b'∨∃g o,(if g=i/\o=j then Fn else Fs g o) x,?_,?_,?_,by simp,(hF b').2 (.inl rfl)⟩
   . simp[Di,L,Z]
   . rw[show(Jp bx b' rows.length c)=Jp bx b' (rows.set i (u.set j new)).length c from by simp];refine Ok.own bx k _ b' c (arr.setIfInBounds (i*k+j) new.A0) E (λg o=>if g=i/\o=j then Fn else Fs g o) _ (Rg _ _ _ _ _ _ _ q8) ?_ ?_ Lk ?_ ?_ ?_ ?_ ?_ (λx=>AB7)
     . intro r eA;rcases ABB eA with h|rfl
       . exact hk r h
       . simp[hk u (AAu L)]
     . simpa using D6
     . intro g o r e m l;by_cases hi:g=i
       . subst hi;rw[AAk J]at m;obtain rfl:=AAl m;by_cases Q:o=j
         . subst Q;rw[AAk D]at l;obtain rfl:=AAl l;simp[V1]
         . rw[AAn (by omega)]at l;rw[Array.getElem?_setIfInBounds_ne (by have:=Si hk L l;omega)];exact K g o u e L l
       . rw[AAn (by omega)]at m;rw[Array.getElem?_setIfInBounds_ne]
         . exact K g o r e m l
         . intro he;exact hi (rM (Si hk m l) hjk he.symm).1
     . intro g o r e m l;by_cases y:g=i/\o=j
       . obtain⟨rfl,rfl⟩:=y;rw[AAk J]at m;obtain rfl:=AAl m;rw[AAk D]at l;obtain rfl:=AAl l;simpa using hn
       . simp only[y,AAx];have C:Ok w S e (Fs g o):=by
          by_cases hi:g=i
          . subst hi;have Q:o≠j:=λe=>y ⟨rfl,e⟩;rw[AAk J]at m;obtain rfl:=AAl m;rw[AAn (by omega)]at l;exact hr g o u e L l
          . rw[AAn (by omega)]at m;exact hr g o r e m l
         refine C.mono (λx f=>DK _ _ _ _ _ ?_) (λx f=>DK _ _ _ _ _ ?_) (λ_ h=>h) C.E7
         . rintro rfl;exact Lk f
         . rintro rfl;exact KW _ _ f
     . intro i1 j1 i2 j2 x f q;split at f<;>split at q
       . rename_i a b;omega
       . exact absurd ((hF x).2 (.inr ⟨i2,j2,q⟩)) (G x f)
       . exact absurd ((hF x).2 (.inr ⟨i1,j1,f⟩)) (G x q)
       . exact hd _ _ _ _ x f q
     . intro i1 j1 x f;split at f
       . rename_i y;obtain⟨rfl,rfl⟩:=y;exact⟨_,new,AAk J,AAk D⟩
       . obtain⟨r,e,m,l⟩:=Bi i1 j1 x f;by_cases hi:i1=i
         . subst hi;rename_i U;have Q:j1≠j:=λe=>U ⟨rfl,e⟩;obtain rfl:u=r:=(by rw[L]at m;exact AAl m);exact⟨_,e,AAk J,by rw[AAn (by omega)];exact l⟩
         . exact⟨r,e,by rw[AAn (by omega)];exact m,l⟩
     . intro i1 j1 f;split at f
       . exact G b' f ((hF b').2 (.inl rfl))
       . exact KW _ _ f
   . rintro x (rfl|⟨i1,j1,f⟩)
     . exact .inl ((hF x).2 (.inl rfl))
     . split at f
       . exact .inr f
       . exact .inl ((hF x).2 (.inr ⟨i1,j1,f⟩))
 |cons s p ih=>
  obtain⟨i0,j0,k0⟩:=s;cases h with
  |lf a v _ ha hF=>simp[Abs.Au]at z
  |nil k _ hF=>simp[Abs.Au]at z
  |own bx0 k1 LL b0 c arr E Fs _ q8 hk D6 Lk K hr hd Bi KW hF=>
   simp only[Abs.Au]at z;split at z
   . split at z
     . rename_i N M _ O B;obtain⟨t,P,W,R,H,T,I⟩:=ih (hr i0 j0 N O M B) z (λx f V=>G x f ((hF x).2 (.inr ⟨i0,j0,V⟩)));have U:b0≠b:=(by rintro rfl;exact KW _ _ I);have J:=(AAj.1 M).1;have D:=(AAj.1 B).1;refine⟨.own (Jp bx0 b0 LL.length c) bx0 k1 (LL.set i0 (N.set j0 t)),λx=>x=b0∨∃g o,(if g=i0/\o=j0 then P else Fs g o) x,?_,?_,?_,by simp,(hF b).2 (.inr ⟨i0,j0,I⟩)⟩
       . simp[Di,M,B,W]
       . rw[show(Jp bx0 b0 LL.length c)=Jp bx0 b0 (LL.set i0 (N.set j0 t)).length c from by simp];refine Ok.own bx0 k1 _ b0 c arr E (λg o=>if g=i0/\o=j0 then P else Fs g o) _ (by rw[DK _ _ _ _ _ U];exact q8) ?_ (by simpa using D6) Lk ?_ ?_ ?_ ?_ ?_ (λx=>AB7)
         . intro r eA;rcases ABB eA with h|rfl
           . exact hk r h
           . simp[hk N (AAu M)]
         . intro g o r e m l;by_cases hi:g=i0
           . subst hi;rw[AAk J]at m;obtain rfl:=AAl m;by_cases Q:o=j0
             . subst Q;rw[AAk D]at l;obtain rfl:=AAl l;rw[T];exact K g o N O M B
             . rw[AAn (by omega)]at l;exact K g o N e M l
           . rw[AAn (by omega)]at m;exact K g o r e m l
         . intro g o r e m l;by_cases y:g=i0/\o=j0
           . obtain⟨rfl,rfl⟩:=y;rw[AAk J]at m;obtain rfl:=AAl m;rw[AAk D]at l;obtain rfl:=AAl l;simpa using R
           . simp only[y,AAx];have C:Ok w S e (Fs g o):=by
              by_cases hi:g=i0
              . subst hi;have Q:o≠j0:=λe=>y ⟨rfl,e⟩;rw[AAk J]at m;obtain rfl:=AAl m;rw[AAn (by omega)]at l;exact hr g o N e M l
              . rw[AAn (by omega)]at m;exact hr g o r e m l
             refine C.mono (λx f=>DK _ _ _ _ _ ?_) (λx f=>DK _ _ _ _ _ ?_) (λ_ h=>h) C.E7
             . rintro rfl;exact(hr i0 j0 N O M B).E7 x I f
             . rintro rfl;exact y (hd _ _ _ _ x f I)
         . intro i1 j1 i2 j2 x f q;split at f<;>split at q
           . rename_i a b;omega
           . rename_i a b;rcases H x f with h|h
             . exact absurd (hd _ _ _ _ x q h) b
             . exact absurd ((hF x).2 (.inr ⟨i2,j2,q⟩)) (G x h)
           . rename_i a b;rcases H x q with h|h
             . exact absurd (hd _ _ _ _ x f h) a
             . exact absurd ((hF x).2 (.inr ⟨i1,j1,f⟩)) (G x h)
           . exact hd _ _ _ _ x f q
         . intro i1 j1 x f;split at f
           . rename_i y;obtain⟨rfl,rfl⟩:=y;exact⟨_,t,AAk J,AAk D⟩
           . obtain⟨r,e,m,l⟩:=Bi i1 j1 x f;by_cases hi:i1=i0
             . subst hi;rename_i U;have Q:j1≠j0:=λe=>U ⟨rfl,e⟩;obtain rfl:N=r:=(by rw[M]at m;exact AAl m);exact⟨_,e,AAk J,by rw[AAn (by omega)];exact l⟩
             . exact⟨r,e,by rw[AAn (by omega)];exact m,l⟩
         . intro i1 j1 f;split at f
           . rcases H b0 f with h|h
             . exact KW _ _ h
             . exact G b0 h ((hF b0).2 (.inl rfl))
           . exact KW _ _ f
       . rintro x (rfl|⟨i1,j1,f⟩)
         . exact .inl ((hF x).2 (.inl rfl))
         . split at f
           . rcases H x f with h|h
             . exact .inl ((hF x).2 (.inr ⟨i0,j0,h⟩))
             . exact .inr h
           . exact .inl ((hF x).2 (.inr ⟨i1,j1,f⟩))
     . cases z
   . cases z
  |agg cs Fs _ hr hd Bi hF=>
   simp only[Abs.Au]at z;split at z
   . rename_i O B;obtain⟨t,P,W,R,H,T,I⟩:=ih (hr j0 O B) z (λx f V=>G x f ((hF x).2 ⟨j0,V⟩));have D:=(AAj.1 B).1;refine⟨.agg (cs.set j0 t),λx=>∃g,(if g=j0 then P else Fs g) x,by simp[Di,B,W],?_,?_,?_,(hF b).2 ⟨j0,I⟩⟩
     . refine Ok.agg _ (λg=>if g=j0 then P else Fs g) _ ?_ ?_ ?_ (λx=>AB7)
       . intro g e l;by_cases hi:g=j0
         . subst hi;rw[AAk D]at l;obtain rfl:=AAl l;simpa using R
         . simp only[hi,AAx];rw[AAn (by omega)]at l;refine(hr g e l).mono (λx f=>DK _ _ _ _ _ ?_) (λx f=>DK _ _ _ _ _ ?_) (λ_ h=>h) (hr g e l).E7
           . rintro rfl;exact(hr j0 O B).E7 x I f
           . rintro rfl;exact hi (hd _ _ x f I)
       . intro i1 i2 x f q;split at f<;>split at q
         . omega
         . rename_i a b;rcases H x f with h|h
           . exact absurd (hd _ _ x q h) b
           . exact absurd ((hF x).2 ⟨i2,q⟩) (G x h)
         . rename_i a b;rcases H x q with h|h
           . exact absurd (hd _ _ x f h) a
           . exact absurd ((hF x).2 ⟨i1,f⟩) (G x h)
         . exact hd _ _ x f q
       . intro i1 x f;split at f
         . rename_i y;subst y;exact⟨t,AAk D⟩
         . rename_i y;obtain⟨e,m⟩:=Bi i1 x f;exact⟨e,by rw[AAn (by omega)];exact m⟩
     . rintro x ⟨i1,f⟩;split at f
       . rcases H x f with h|h
         . exact .inl ((hF x).2 ⟨j0,h⟩)
         . exact .inr h
       . exact .inl ((hF x).2 ⟨i1,f⟩)
     . simp only[KE,ABY,T];congr 2;apply ABu;intro n;by_cases hn:n=j0
       . subst hn;rw[AAk (by simpa using D)];simp[B]
       . rw[AAn (by omega)]
   . cases z
  |BM cs Fs _ hr hd Bi hF=>
   simp only[Abs.Au]at z;split at z
   . rename_i O B;obtain⟨t,P,W,R,H,T,I⟩:=ih (hr j0 O B) z (λx f V=>G x f ((hF x).2 ⟨j0,V⟩));have D:=(AAj.1 B).1;refine⟨.BM (cs.set j0 t),λx=>∃g,(if g=j0 then P else Fs g) x,by simp[Di,B,W],?_,?_,?_,(hF b).2 ⟨j0,I⟩⟩
     . refine Ok.BM _ (λg=>if g=j0 then P else Fs g) _ ?_ ?_ ?_ (λx=>AB7)
       . intro g e l;by_cases hi:g=j0
         . subst hi;rw[AAk D]at l;obtain rfl:=AAl l;simpa using R
         . simp only[hi,AAx];rw[AAn (by omega)]at l;refine(hr g e l).mono (λx f=>DK _ _ _ _ _ ?_) (λx f=>DK _ _ _ _ _ ?_) (λ_ h=>h) (hr g e l).E7
           . rintro rfl;exact(hr j0 O B).E7 x I f
           . rintro rfl;exact hi (hd _ _ x f I)
       . intro i1 i2 x f q;split at f<;>split at q
         . omega
         . rename_i a b;rcases H x f with h|h
           . exact absurd (hd _ _ x q h) b
           . exact absurd ((hF x).2 ⟨i2,q⟩) (G x h)
         . rename_i a b;rcases H x q with h|h
           . exact absurd (hd _ _ x f h) a
           . exact absurd ((hF x).2 ⟨i1,f⟩) (G x h)
         . exact hd _ _ x f q
       . intro i1 x f;split at f
         . rename_i y;subst y;exact⟨t,AAk D⟩
         . rename_i y;obtain⟨e,m⟩:=Bi i1 x f;exact⟨e,by rw[AAn (by omega)];exact m⟩
     . rintro x ⟨i1,f⟩;split at f
       . rcases H x f with h|h
         . exact .inl ((hF x).2 ⟨j0,h⟩)
         . exact .inr h
       . exact .inl ((hF x).2 ⟨i1,f⟩)
     . simp only[Lg,ABY,T];congr 2;apply ABu;intro n;by_cases hn:n=j0
       . subst hn;rw[AAk (by simpa using D)];simp[B]
       . rw[AAn (by omega)]
   . cases z
end Go.Abs
namespace Go.Abs
structure Gi where
 rt:List (Nat×List Nat)
def Gi.HI (G:Gi) (s:Nat):List Nat:=match G.rt.find? (·.1==s)with
 |some x=>x.2
 |none=>[]
def Gi.Oj (G:Gi) (d:Nat):List Nat:=(G.rt.filter (λx=>x.2.contains d)).map (·.1)
theorem Gi.rR {G:Gi} {s d:Nat} (h:d∈G.HI s):s∈G.Oj d:=by
 unfold Gi.HI at h;split at h
 . rename_i x b;have a:=List.find?_some b;have c:=AB1 b;simp only[AAw]at a;subst a;simp only[Gi.Oj,AB0,List.mem_filter];exact⟨x,⟨c,by simpa using h⟩,rfl⟩
 . cases h
mutual
def F9 (L:List Nat):AV->Bool
 | .al r _=>L.contains r
 | .K2 r _ _ _ _=>L.contains r
 | .cl _ rs=>rs.all λx=>L.contains x.1
 | .vb s _ _=>L.contains s
 | .agg cs=>QG L cs
 | .BM cs=>QG L cs
 |_=>true
def QG (L:List Nat):List AV->Bool
 |[]=>true
 |a::r=>F9 L a&&QG L r
end
theorem W8 (L:List Nat) (l:List AV):QG L l=l.all (F9 L):=by
 induction l with
 |nil=>rfl
 |cons d r ih=>simp[QG,ih]
mutual
def F7 (d:Nat):AV->Bool
 | .al r _=>r != d
 | .K2 r _ _ _ _=>r != d
 | .cl _ rs=>rs.all λx=>x.1 != d
 | .vb s _ _=>s != d
 | .agg cs=>OQ d cs
 | .BM cs=>OQ d cs
 |_=>true
def OQ (d:Nat):List AV->Bool
 |[]=>true
 |a::r=>F7 d a&&OQ d r
end
theorem bY (d:Nat) (l:List AV):OQ d l=l.all (F7 d):=by
 induction l with
 |nil=>rfl
 |cons a r ih=>simp[OQ,ih]
mutual
def Dg (d:Nat):AV->AV
 | .al r p=>if r=d then .dead else .al r p
 | .K2 r p i j k=>if r=d then .dead else .K2 r p i j k
 | .cl f rs=>if(rs.all λx=>x.1 != d)=true then .cl f rs else .dead
 | .vb s o us=>if s=d then .dead else .vb s o us
 | .agg cs=>.agg (Pq d cs)
 | .BM cs=>.BM (Pq d cs)
 |a=>a
def Pq (d:Nat):List AV->List AV
 |[]=>[]
 |a::r=>Dg d a::Pq d r
end
theorem bQ (d:Nat) (l:List AV):Pq d l=l.map (Dg d):=by
 induction l with
 |nil=>rfl
 |cons a r ih=>simp[Pq,ih]
@[simp]theorem rin_sc (L:List Nat) (v:Value):F9 L (.sc v)=true:=by simp[F9]
@[simp]theorem rin_sl (L:List Nat) (x:Bool) (k:Nat) (rows:List (List AV)):F9 L (.sl x k rows)=true:=by simp[F9]
@[simp]theorem rin_own (L:List Nat) (x:Bool) (k:Nat) (rows:List (List AV)):F9 L (.own x k rows)=true:=by simp[F9]
@[simp]theorem rin_fp (L:List Nat) (a:List AV):F9 L (.fp a)=true:=by simp[F9]
@[simp]theorem rin_dead (L:List Nat):F9 L .dead=true:=by simp[F9]
@[simp]theorem rin_un (L:List Nat):F9 L .un=true:=by simp[F9]
@[simp]theorem KU (L:List Nat) (r:Nat) (p:List Step):F9 L (.al r p)=L.contains r:=by simp[F9]
@[simp]theorem XA (L:List Nat) (r:Nat) (p:List Step) (i j k:Nat):F9 L (.K2 r p i j k)=L.contains r:=by simp[F9]
@[simp]theorem KT (L:List Nat) (a:List AV):F9 L (.agg a)=a.all (F9 L):=by simp[F9,W8]
@[simp]theorem OX (L:List Nat) (a:List AV):F9 L (.BM a)=a.all (F9 L):=by simp[F9,W8]
@[simp]theorem killr_sc (d:Nat) (v:Value):Dg d (.sc v)= .sc v:=by simp[Dg]
@[simp]theorem killr_sl (d:Nat) (x:Bool) (k:Nat) (rows:List (List AV)):Dg d (.sl x k rows)= .sl x k rows:=by simp[Dg]
@[simp]theorem killr_own (d:Nat) (x:Bool) (k:Nat) (rows:List (List AV)):Dg d (.own x k rows)= .own x k rows:=by simp[Dg]
@[simp]theorem killr_fp (d:Nat) (a:List AV):Dg d (.fp a)= .fp a:=by simp[Dg]
@[simp]theorem killr_dead (d:Nat):Dg d .dead= .dead:=by simp[Dg]
@[simp]theorem killr_un (d:Nat):Dg d .un= .un:=by simp[Dg]
@[simp]theorem YG (d r:Nat) (p:List Step):Dg d (.al r p)=if r=d then .dead else .al r p:=by simp[Dg]
@[simp]theorem Ur (d r:Nat) (p:List Step) (i j k:Nat):Dg d (.K2 r p i j k)=if r=d then .dead else .K2 r p i j k:=by simp[Dg]
@[simp]theorem bR (d:Nat) (a:List AV):Dg d (.agg a)= .agg (a.map (Dg d)):=by simp[Dg,bQ]
@[simp]theorem bT (d:Nat) (a:List AV):Dg d (.BM a)= .BM (a.map (Dg d)):=by simp[Dg,bQ]
@[simp]theorem rin_fcl (L:List Nat) (f:Nat) (a:List (List AV)):F9 L (.nY f a)=true:=by simp[F9]
@[simp]theorem killr_fcl (d f:Nat) (a:List (List AV)):Dg d (.nY f a)= .nY f a:=by simp[Dg]
@[simp]theorem rin_vb (L:List Nat) (s o:Nat) (a:List Value):F9 L (.vb s o a)=L.contains s:=by simp[F9]
@[simp]theorem YH (d s o:Nat) (a:List Value):Dg d (.vb s o a)=if s=d then .dead else .vb s o a:=by simp[Dg]
@[simp]theorem nroot_vb (d s o:Nat) (a:List Value):F7 d (.vb s o a)=(s != d):=by simp[F7]
@[simp]theorem pQ (L:List Nat) (f:Nat) (rs:List (Nat×List Step)):F9 L (.cl f rs)=rs.all λx=>L.contains x.1:=by simp[F9]
@[simp]theorem Ta (d f:Nat) (rs:List (Nat×List Step)):Dg d (.cl f rs)=if(rs.all λx=>x.1 != d)=true then .cl f rs else .dead:=by simp[Dg]
@[simp]theorem nroot_cl (d f:Nat) (rs:List (Nat×List Step)):F7 d (.cl f rs)=rs.all λx=>x.1 != d:=by simp[F7]
@[simp]theorem wV (d:Nat) (a:List AV):F7 d (.agg a)=a.all (F7 d):=by simp[F7,bY]
@[simp]theorem wX (d:Nat) (a:List AV):F7 d (.BM a)=a.all (F7 d):=by simp[F7,bY]
@[simp]theorem nroot_al (d r:Nat) (p:List Step):F7 d (.al r p)=(r != d):=by simp[F7]
@[simp]theorem nroot_adr (d r:Nat) (p:List Step) (i j k:Nat):F7 d (.K2 r p i j k)=(r != d):=by simp[F7]
mutual
def Ha (d:Nat):DV->DV
 | .lf a v=>.lf (Dg d a) v
 | .own h b k rows=>.own h b k rows
 | .agg cs=>.agg (X9 d cs)
 | .BM cs=>.BM (X9 d cs)
def X9 (d:Nat):List DV->List DV
 |[]=>[]
 |a::r=>Ha d a::X9 d r
end
theorem bL (d:Nat) (l:List DV):X9 d l=l.map (Ha d):=by
 induction l with
 |nil=>rfl
 |cons a r ih=>simp[X9,ih]
@[simp]theorem YA (d:Nat) (a:AV) (v:Value):Ha d (.lf a v)= .lf (Dg d a) v:=by simp[Ha]
@[simp]theorem Np (d:Nat) (h:Value) (b:Bool) (k:Nat) (rows:List (List DV)):Ha d (.own h b k rows)= .own h b k rows:=by simp[Ha]
@[simp]theorem Ko (d:Nat) (a:List DV):Ha d (.agg a)= .agg (a.map (Ha d)):=by simp[Ha,bL]
@[simp]theorem Kp (d:Nat) (a:List DV):Ha d (.BM a)= .BM (a.map (Ha d)):=by simp[Ha,bL]
variable {w w':World} {S S':Nat->Prop} {x:DV} {F F':Nat->Prop}
theorem LC (d:Nat) (h:Ok w S x F):(Ha d x).er=Dg d x.er/\(Ha d x).A0=x.A0/\Ok w S (Ha d x) F/\F7 d (Ha d x).er=true:=by
 induction h with
 |lf a v F ha hF=>
  refine⟨by simp,by simp,?_,?_⟩
  . rw[YA];refine .lf _ v F ?_ hF;cases a with
    |al r p=>rw[YG];by_cases h:r=d<;>simp[h,IA]
    |K2 r p i j k=>rw[Ur];by_cases h:r=d<;>simp[h,IA]
    |cl f rs=>rw[Ta];split<;>trivial
    |vb s o us=>rw[YH];split<;>first|trivial|exact ha
    |agg cs=>exact ha.elim
    |BM cs=>exact ha.elim
    |own=>exact ha.elim
    |_=>simpa using ha
  . have:=ha.C9;cases a with
    |al r p=>by_cases h:r=d<;>simp[h,F7]
    |K2 r p i j k=>by_cases h:r=d<;>simp[h,F7]
    |vb s o us=>by_cases h:s=d<;>simp[h,F7]
    |cl f rs=>
     simp only[YA,Ei,Ta];split
     . rename_i h;simpa using h
     . simp[F7]
    |agg cs=>exact ha.elim
    |BM cs=>exact ha.elim
    |own=>exact ha.elim
    |_=>simp[F7]
 |nil k F hF=>exact⟨by simp,by simp,by rw[Np];exact .nil k F hF,by simp[F7]⟩
 |own bx k rows b c arr E Fs F hb hk D6 Lk hv hr hd Bi KW hF ih=>exact⟨by simp,by simp,by rw[Np];exact .own bx k rows b c arr E Fs F hb hk D6 Lk hv hr hd Bi KW hF,by simp[F7]⟩
 |agg cs Fs F hr hd Bi hF ih=>
  have key:∀e∈cs,(Ha d e).er=Dg d e.er/\(Ha d e).A0=e.A0/\F7 d (Ha d e).er=true:=by intro e g;obtain⟨i,hi⟩:=List.getElem?_of_mem g;exact⟨(ih i e hi).1,(ih i e hi).2.1,(ih i e hi).2.2.2⟩
  refine⟨?_,?_,?_,?_⟩
  . simp only[Ko,Hi,bR,List.map_map,AV.agg.injEq];exact List.map_congr_left λe g=>(key e g).1
  . simp only[Ko,KE,List.map_map];congr 2;exact List.map_congr_left λe g=>(key e g).2.1
  . rw[Ko];refine .agg _ Fs F ?_ hd ?_ hF
    . intro i e l;simp only[List.getElem?_map,Option.map_eq_some_iff]at l;obtain⟨m,n,rfl⟩:=l;exact(ih i m n).2.2.1
    . intro i x q;obtain⟨e,l⟩:=Bi i x q;exact⟨Ha d e,by simp[l]⟩
  . simp only[Ko,Hi,wV,List.map_map,List.all_map,List.all_eq_true];exactλe g=>(key e g).2.2
 |BM cs Fs F hr hd Bi hF ih=>
  have key:∀e∈cs,(Ha d e).er=Dg d e.er/\(Ha d e).A0=e.A0/\F7 d (Ha d e).er=true:=by intro e g;obtain⟨i,hi⟩:=List.getElem?_of_mem g;exact⟨(ih i e hi).1,(ih i e hi).2.1,(ih i e hi).2.2.2⟩
  refine⟨?_,?_,?_,?_⟩
  . simp only[Kp,JY,bT,List.map_map,AV.BM.injEq];exact List.map_congr_left λe g=>(key e g).1
  . simp only[Kp,Lg,List.map_map];congr 2;exact List.map_congr_left λe g=>(key e g).2.1
  . rw[Kp];refine .BM _ Fs F ?_ hd ?_ hF
    . intro i e l;simp only[List.getElem?_map,Option.map_eq_some_iff]at l;obtain⟨m,n,rfl⟩:=l;exact(ih i m n).2.2.1
    . intro i x q;obtain⟨e,l⟩:=Bi i x q;exact⟨Ha d e,by simp[l]⟩
  . simp only[Kp,JY,wX,List.map_map,List.all_map,List.all_eq_true];exactλe g=>(key e g).2.2
def ND (δ:Nat->DV):AV->Value->Prop
 | .al r p,v=>∃bx k rows,Au (δ r) p=some (.own v bx k rows)
 | .K2 r p i j k,v=>∃h bx rows b,Au (δ r) p=some (.own h bx k rows)/\TQ h=some b/\v= .pointer (some ⟨b,i*k+j,none⟩)
 | .vb s _ us,_=>(δ s).A0= .agg us.toArray
 | .cl f rs,v=>∃vs:List Value,v= .func (.func f) #[] vs.toArray/\vs.length=rs.length/\∀(i:Nat) r p u,rs[i]? =some (r,p)->vs[i]? =some u->∃bx k rows,Au (δ r) p=some (.own u bx k rows)
 |_,_=>True
inductive Dd (δ:Nat->DV):DV->Prop
 |lf (a v) (h:ND δ a v):Dd δ (.lf a v)
 |own (h b k rows):Dd δ (.own h b k rows)
 |agg (cs) (hr:∀(i:Nat) d,cs[i]? =some d->Dd δ d):Dd δ (.agg cs)
 |BM (cs) (hr:∀(i:Nat) d,cs[i]? =some d->Dd δ d):Dd δ (.BM cs)
theorem Dd.mono {δ g:Nat->DV} {L:List Nat} (h:Dd δ x) (e:F9 L x.er=true)
 (m:∀r∈L,∀p v bx k rows,Au (δ r) p=some (.own v bx k rows)->∃c,Au (g r) p=some (.own v bx k c)) (q:∀r∈L,(g r).A0=(δ r).A0):Dd g x:=by
 induction h with
 |lf a v h=>
  refine .lf a v ?_;cases a with
  |al r p=>obtain⟨bx,k,rows,h⟩:=h;obtain⟨c,l⟩:=m r (by simpa using e) p v bx k rows h;exact⟨bx,k,c,l⟩
  |K2 r p i j k=>obtain⟨n,bx,rows,b,h,z,rfl⟩:=h;obtain⟨c,l⟩:=m r (by simpa using e) p n bx k rows h;exact⟨n,bx,c,b,l,z,rfl⟩
  |vb s o us=>exact(q s (by simpa using e)).trans h
  |cl f rs=>obtain⟨vs,t,w,y⟩:=h;refine⟨vs,t,w,λi r p u hi C=> ?_⟩;obtain⟨bx,k,rows,B⟩:=y i r p u hi C;simp only[Ei,pQ,List.all_eq_true]at e;obtain⟨c,l⟩:=m r (by simpa using e _ (List.mem_of_getElem? hi)) p u bx k rows B;exact⟨bx,k,c,l⟩
  |_=>trivial
 |own=>exact .own _ _ _ _
 |agg cs _ ih=>refine .agg cs λi d hd=>ih i d hd ?_;simp only[Hi,KT,List.all_map,List.all_eq_true]at e;exact e d (List.mem_of_getElem? hd)
 |BM cs _ ih=>refine .BM cs λi d hd=>ih i d hd ?_;simp only[JY,OX,List.all_map,List.all_eq_true]at e;exact e d (List.mem_of_getElem? hd)
theorem xL {L:List Nat} {d:Nat} {a:AV}:F9 L a=true->d∉L->F7 d a=true:=by
 refine AV.rec (motive_1:=λa=>F9 L a=true->d∉L->F7 d a=true) (motive_2:=λ_=>True) (motive_3:=λl=>QG L l=true->d∉L->OQ d l=true)
  ?_ ?_ ?_ ?_ ?_ ?_ ?_ ?_ ?_ ?_ ?_ ?_ ?_ ?_ ?_ ?_ ?_ a
 all_goals intros
 all_goals first|trivial|simp[F7];done|skip
 all_goals simp_all [F9,QG,OQ,F7]
 all_goals first
  | (rintro rfl;simp_all;done)
  | (rename_i c f;intro a b g e;subst e;exact f (c _ b g))
theorem wF {L:List Nat} {d:Nat} {a:AV}:F9 L a=true->F9 L (Dg d a)=true:=by
 refine AV.rec (motive_1:=λa=>F9 L a=true->F9 L (Dg d a)=true) (motive_2:=λ_=>True) (motive_3:=λl=>QG L l=true->QG L (Pq d l)=true)
  ?_ ?_ ?_ ?_ ?_ ?_ ?_ ?_ ?_ ?_ ?_ ?_ ?_ ?_ ?_ ?_ ?_ a
 all_goals intros
 all_goals first|trivial| (simp_all [F9,QG,Dg,Pq];done)|skip
 all_goals first
  | (simp only[Dg];split<;>simp_all [F9];done)
  | (simp only[Dg];split<;>first|assumption|simp[F9])
  | (rename_i b h;simp only[Dg,F9]at h ⊢;exact b h)
end Go.Abs
namespace Go.Abs
variable {w w':World} {S S':Nat->Prop} {d:DV} {F F':Nat->Prop}
theorem Ok.replace {n:DV} (p:List Step) (h:Ok w S d F) (C:Abs.Au d p=some n):
 ∃q,Ok w S n q/\(∀x,q x->F x)/\∀(w':World) (S':Nat->Prop) (new:DV) (Fn:Nat->Prop),new.A0=n.A0->Ok w' S' new Fn->
  (∀x,Fn x->F x->q x)->(∀b,S b->w'.heap[b]? =w.heap[b]?)->(∀b,F b->¬q b->w'.heap[b]? =w.heap[b]?)->(∀b,S b->S' b)->(∀b,F b->¬q b->¬S' b)->
  ∃t F',Di d p new=some t/\Ok w' S' t F'/\(∀x,F' x↔(F x/\¬q x)∨Fn x)/\t.A0=d.A0:=by
 induction p generalizing d F with
 |nil=>
  simp only[Abs.Au,AAh]at C;subst C;refine⟨F,h,λ_ h=>h,λw' S' new Fn Z hn _ _ _ _ _=>⟨new,Fn,rfl,hn,λx=>⟨.inr,?_⟩,Z⟩⟩;rintro(⟨y,K⟩|h)
  . exact absurd y K
  . exact h
 |cons s p ih=>
  obtain⟨i0,j0,k0⟩:=s;cases h with
  |lf a v _ Z hF=>simp[Abs.Au]at C
  |nil k _ hF=>simp[Abs.Au]at C
  |own bx0 k1 LL b0 c arr E Fs _ q8 hk D6 Lk hv hr hd Bi KW hF=>
   simp only[Abs.Au]at C;split at C
   . split at C
     . rename_i W U _ e0 H;obtain⟨q,ho,Q,NL⟩:=ih (hr i0 j0 W e0 U H) C;have O:∀x,q x->F x:=λx f=>(hF x).2 (.inr ⟨i0,j0,Q x f⟩);refine⟨q,ho,O,?_⟩;intro w' S' new Fn Z hn z X T V R;have D4:=(AAj.1 U).1;have N:=(AAj.1 H).1;obtain⟨t,L,ht,Cj,G,Dh⟩:=NL w' S' new Fn Z hn (λx f u=>z x f ((hF x).2 (.inr ⟨i0,j0,u⟩))) X
        (λb P=>T b ((hF b).2 (.inr ⟨i0,j0,P⟩))) V (λb P=>R b ((hF b).2 (.inr ⟨i0,j0,P⟩)))
       have vL:¬q b0:=λh=>KW _ _ (Q _ h);have J:F b0:=(hF b0).2 (.inl rfl);have M:∀i j,¬(i=i0/\j=j0)->∀x,Fs i j x->¬q x:=λi j l x f oP=>l (hd _ _ _ _ x f (Q x oP));refine⟨.own (Jp bx0 b0 LL.length c) bx0 k1 (LL.set i0 (W.set j0 t)),λx=>x=b0∨∃g B,(if g=i0/\B=j0 then L else Fs g B) x,?_,?_,?_,by simp⟩
       . simp[Di,U,H,ht]
       . rw[show(Jp bx0 b0 LL.length c)=Jp bx0 b0 (LL.set i0 (W.set j0 t)).length c from by simp];refine Ok.own bx0 k1 _ b0 c arr E (λg B=>if g=i0/\B=j0 then L else Fs g B) _ (by rw[T b0 J vL];exact q8) ?_ (by simpa using D6) (R b0 J vL) ?_ ?_ ?_ ?_ ?_ (λx=>AB7)
         . intro r eA;rcases ABB eA with h|rfl
           . exact hk r h
           . simp[hk W (AAu U)]
         . intro g B r e m o;by_cases hi:g=i0
           . subst hi;rw[AAk D4]at m;obtain rfl:=AAl m;by_cases hj:B=j0
             . subst hj;rw[AAk N]at o;obtain rfl:=AAl o;rw[Dh];exact hv g B W e0 U H
             . rw[AAn (by omega)]at o;exact hv g B W e U o
           . rw[AAn (by omega)]at m;exact hv g B r e m o
         . intro g B r e m o;by_cases l:g=i0/\B=j0
           . obtain⟨rfl,rfl⟩:=l;rw[AAk D4]at m;obtain rfl:=AAl m;rw[AAk N]at o;obtain rfl:=AAl o;simpa using Cj
           . simp only[l,AAx];have hold:Ok w S e (Fs g B):=by
              by_cases hi:g=i0
              . subst hi;have hj:B≠j0:=λe=>l ⟨rfl,e⟩;rw[AAk D4]at m;obtain rfl:=AAl m;rw[AAn (by omega)]at o;exact hr g B W e U o
              . rw[AAn (by omega)]at m;exact hr g B r e m o
             have I:∀x,Fs g B x->F x/\¬q x:=λx f=>⟨(hF x).2 (.inr ⟨g,B,f⟩),M g B l x f⟩;exact hold.mono X (λx f=>T x (I x f).1 (I x f).2) V (λx f=>R x (I x f).1 (I x f).2)
         . intro i1 j1 i2 j2 x f u;have D:∀i j,¬(i=i0/\j=j0)->Fs i j x->¬L x:=by
            intro i j l y K;rcases(G x).1 K with⟨m,o⟩|m
            . exact l (hd _ _ _ _ x y m)
            . exact M i j l x y (z x m ((hF x).2 (.inr ⟨i,j,y⟩)))
           split at f<;>split at u
           . rename_i a b;omega
           . rename_i a b;exact absurd f (D _ _ b u)
           . rename_i a b;exact absurd u (D _ _ a f)
           . exact hd _ _ _ _ x f u
         . intro i1 j1 x f;split at f
           . rename_i l;obtain⟨rfl,rfl⟩:=l;exact⟨_,t,AAk D4,AAk N⟩
           . obtain⟨r,e,m,o⟩:=Bi i1 j1 x f;by_cases hi:i1=i0
             . subst hi;rename_i Pk;have hj:j1≠j0:=λe=>Pk ⟨rfl,e⟩;obtain rfl:W=r:=(by rw[U]at m;exact AAl m);exact⟨_,e,AAk D4,by rw[AAn (by omega)];exact o⟩
             . exact⟨r,e,by rw[AAn (by omega)];exact m,o⟩
         . intro i1 j1 f;split at f
           . rcases(G b0).1 f with h|h
             . exact KW _ _ h.1
             . exact vL (z b0 h J)
           . exact KW _ _ f
       . intro x;constructor
         . rintro(rfl|⟨i1,j1,f⟩)
           . exact .inl ⟨J,vL⟩
           . split at f
             . rcases(G x).1 f with h|h
               . exact .inl ⟨(hF x).2 (.inr ⟨i0,j0,h.1⟩),h.2⟩
               . exact .inr h
             . rename_i l;exact .inl ⟨(hF x).2 (.inr ⟨i1,j1,f⟩),M _ _ l x f⟩
         . rintro(⟨y,K⟩|h)
           . rcases(hF x).1 y with rfl|⟨i1,j1,m⟩
             . exact .inl rfl
             . by_cases l:i1=i0/\j1=j0
               . obtain⟨rfl,rfl⟩:=l;exact .inr ⟨i1,j1,by simp;exact(G x).2 (.inl ⟨m,K⟩)⟩
               . exact .inr ⟨i1,j1,by simp only[l,AAx];exact m⟩
           . exact .inr ⟨i0,j0,by simp;exact(G x).2 (.inr h)⟩
     . cases C
   . cases C
  |agg cs Fs _ hr hd Bi hF=>
   simp only[Abs.Au]at C;split at C
   . rename_i e0 H;obtain⟨q,ho,Q,NL⟩:=ih (hr j0 e0 H) C;have O:∀x,q x->F x:=λx f=>(hF x).2 ⟨j0,Q x f⟩;refine⟨q,ho,O,?_⟩;intro w' S' new Fn Z hn z X T V R;have N:=(AAj.1 H).1;obtain⟨t,L,ht,Cj,G,Dh⟩:=NL w' S' new Fn Z hn (λx f u=>z x f ((hF x).2 ⟨j0,u⟩)) X
      (λb P=>T b ((hF b).2 ⟨j0,P⟩)) V (λb P=>R b ((hF b).2 ⟨j0,P⟩))
     have M:∀i,¬i=j0->∀x,Fs i x->¬q x:=λi l x f oP=>l (hd _ _ x f (Q x oP));refine⟨.agg (cs.set j0 t),λx=>∃g,(if g=j0 then L else Fs g) x,by simp[Di,H,ht],?_,?_,?_⟩
     . refine Ok.agg _ (λg=>if g=j0 then L else Fs g) _ ?_ ?_ ?_ (λx=>AB7)
       . intro g e o;by_cases hi:g=j0
         . subst hi;rw[AAk N]at o;obtain rfl:=AAl o;simpa using Cj
         . simp only[hi,AAx];rw[AAn (by omega)]at o;have I:∀x,Fs g x->F x/\¬q x:=λx f=>⟨(hF x).2 ⟨g,f⟩,M g hi x f⟩;exact(hr g e o).mono X (λx f=>T x (I x f).1 (I x f).2) V (λx f=>R x (I x f).1 (I x f).2)
       . intro i1 i2 x f u;have D:∀i,¬i=j0->Fs i x->¬L x:=by
          intro i l y K;rcases(G x).1 K with⟨m,o⟩|m
          . exact l (hd _ _ x y m)
          . exact M i l x y (z x m ((hF x).2 ⟨i,y⟩))
         split at f<;>split at u
         . omega
         . rename_i a b;exact absurd f (D _ b u)
         . rename_i a b;exact absurd u (D _ a f)
         . exact hd _ _ x f u
       . intro i1 x f;split at f
         . rename_i l;subst l;exact⟨t,AAk N⟩
         . rename_i l;obtain⟨e,m⟩:=Bi i1 x f;exact⟨e,by rw[AAn (by omega)];exact m⟩
     . intro x;constructor
       . rintro⟨i1,f⟩;split at f
         . rcases(G x).1 f with h|h
           . exact .inl ⟨(hF x).2 ⟨j0,h.1⟩,h.2⟩
           . exact .inr h
         . rename_i l;exact .inl ⟨(hF x).2 ⟨i1,f⟩,M _ l x f⟩
       . rintro(⟨y,K⟩|h)
         . obtain⟨i1,m⟩:=(hF x).1 y;by_cases l:i1=j0
           . subst l;exact⟨i1,by simp;exact(G x).2 (.inl ⟨m,K⟩)⟩
           . exact⟨i1,by simp only[l,AAx];exact m⟩
         . exact⟨j0,by simp;exact(G x).2 (.inr h)⟩
     . simp only[KE,ABY,Dh];congr 2;apply ABu;intro n;by_cases hn:n=j0
       . subst hn;rw[AAk (by simpa using N)];simp[H]
       . rw[AAn (by omega)]
   . cases C
  |BM cs Fs _ hr hd Bi hF=>
   simp only[Abs.Au]at C;split at C
   . rename_i e0 H;obtain⟨q,ho,Q,NL⟩:=ih (hr j0 e0 H) C;have O:∀x,q x->F x:=λx f=>(hF x).2 ⟨j0,Q x f⟩;refine⟨q,ho,O,?_⟩;intro w' S' new Fn Z hn z X T V R;have N:=(AAj.1 H).1;obtain⟨t,L,ht,Cj,G,Dh⟩:=NL w' S' new Fn Z hn (λx f u=>z x f ((hF x).2 ⟨j0,u⟩)) X
      (λb P=>T b ((hF b).2 ⟨j0,P⟩)) V (λb P=>R b ((hF b).2 ⟨j0,P⟩))
     have M:∀i,¬i=j0->∀x,Fs i x->¬q x:=λi l x f oP=>l (hd _ _ x f (Q x oP));refine⟨.BM (cs.set j0 t),λx=>∃g,(if g=j0 then L else Fs g) x,by simp[Di,H,ht],?_,?_,?_⟩
     . refine Ok.BM _ (λg=>if g=j0 then L else Fs g) _ ?_ ?_ ?_ (λx=>AB7)
       . intro g e o;by_cases hi:g=j0
         . subst hi;rw[AAk N]at o;obtain rfl:=AAl o;simpa using Cj
         . simp only[hi,AAx];rw[AAn (by omega)]at o;have I:∀x,Fs g x->F x/\¬q x:=λx f=>⟨(hF x).2 ⟨g,f⟩,M g hi x f⟩;exact(hr g e o).mono X (λx f=>T x (I x f).1 (I x f).2) V (λx f=>R x (I x f).1 (I x f).2)
       . intro i1 i2 x f u;have D:∀i,¬i=j0->Fs i x->¬L x:=by
          intro i l y K;rcases(G x).1 K with⟨m,o⟩|m
          . exact l (hd _ _ x y m)
          . exact M i l x y (z x m ((hF x).2 ⟨i,y⟩))
         split at f<;>split at u
         . omega
         . rename_i a b;exact absurd f (D _ b u)
         . rename_i a b;exact absurd u (D _ a f)
         . exact hd _ _ x f u
       . intro i1 x f;split at f
         . rename_i l;subst l;exact⟨t,AAk N⟩
         . rename_i l;obtain⟨e,m⟩:=Bi i1 x f;exact⟨e,by rw[AAn (by omega)];exact m⟩
     . intro x;constructor
       . rintro⟨i1,f⟩;split at f
         . rcases(G x).1 f with h|h
           . exact .inl ⟨(hF x).2 ⟨j0,h.1⟩,h.2⟩
           . exact .inr h
         . rename_i l;exact .inl ⟨(hF x).2 ⟨i1,f⟩,M _ l x f⟩
       . rintro(⟨y,K⟩|h)
         . obtain⟨i1,m⟩:=(hF x).1 y;by_cases l:i1=j0
           . subst l;exact⟨i1,by simp;exact(G x).2 (.inl ⟨m,K⟩)⟩
           . exact⟨i1,by simp only[l,AAx];exact m⟩
         . exact⟨j0,by simp;exact(G x).2 (.inr h)⟩
     . simp only[Lg,ABY,Dh];congr 2;apply ABu;intro n;by_cases hn:n=j0
       . subst hn;rw[AAk (by simpa using N)];simp[H]
       . rw[AAn (by omega)]
   . cases C
theorem Rh {t x new l:DV} (m:List Step) (d:Di t m new=some x) (f:Abs.Au t m=some l) (y:∀h b k rows,l≠ .own h b k rows) (u:∀g,l≠ .agg g) (w:∀g,l≠ .BM g)
 (q:List Step) (v:Value) (bx:Bool) (k:Nat) (rows:List (List DV)) (e:Abs.Au t q=some (.own v bx k rows)):∃n,Abs.Au x q=some (.own v bx k n):=by
 induction m generalizing t x q with
 |nil=>
  simp only[Abs.Au,AAh]at f;subst f;cases q with
  |nil=>simp only[Abs.Au,AAh]at e;exact absurd e (y _ _ _ _)
  |cons s q=>
   cases t with
   |lf a v=>simp[Abs.Au]at e
   |own h b k rows=>exact absurd rfl (y _ _ _ _)
   |agg g=>exact absurd rfl (u _)
   |BM g=>exact absurd rfl (w _)
 |cons s m ih=>
  obtain⟨i,j,D⟩:=s;cases t with
  |lf a v=>simp[Di]at d
  |own h b k1 Ju=>
   simp only[Di]at d;simp only[Abs.Au]at f;cases hi:Ju[i]? with
   |none=>simp[hi]at d
   |some row=>
    simp only[hi]at d f;cases hj:row[j]? with
    |none=>simp[hj]at d
    |some c=>
     simp only[hj]at d f;cases hc:Di c m new with
     |none=>simp[hc]at d
     |some c'=>
      simp only[hc,AAh]at d;subst d;have B:=(AAj.1 hi).1;have o:=(AAj.1 hj).1;cases q with
      |nil=>simp only[Abs.Au,AAh,DV.own.injEq]at e;obtain⟨rfl,rfl,rfl,_⟩:=e;exact⟨_,rfl⟩
      |cons s2 q=>
       obtain⟨i2,r,z⟩:=s2;simp only[Abs.Au]at e ⊢;by_cases C:i2=i
       . subst C;simp only[AAk B];simp only[hi]at e;by_cases p:r=j
         . subst p;simp only[AAk o];simp only[hj]at e;exact ih hc f q e
         . rw[AAn (by omega)];exact⟨rows,e⟩
       . rw[AAn (by omega)];exact⟨rows,e⟩
  |agg g=>
   simp only[Di]at d;simp only[Abs.Au]at f;cases hj:g[j]? with
   |none=>simp[hj]at d
   |some c=>
    simp only[hj]at d f;cases hc:Di c m new with
    |none=>simp[hc]at d
    |some c'=>
     simp only[hc,AAh]at d;subst d;have o:=(AAj.1 hj).1;cases q with
     |nil=>simp[Abs.Au]at e
     |cons s2 q=>
      obtain⟨i2,r,z⟩:=s2;simp only[Abs.Au]at e ⊢;by_cases p:r=j
      . subst p;simp only[AAk o];simp only[hj]at e;exact ih hc f q e
      . rw[AAn (by omega)];exact⟨rows,e⟩
  |BM g=>
   simp only[Di]at d;simp only[Abs.Au]at f;cases hj:g[j]? with
   |none=>simp[hj]at d
   |some c=>
    simp only[hj]at d f;cases hc:Di c m new with
    |none=>simp[hc]at d
    |some c'=>
     simp only[hc,AAh]at d;subst d;have o:=(AAj.1 hj).1;cases q with
     |nil=>simp[Abs.Au]at e
     |cons s2 q=>
      obtain⟨i2,r,z⟩:=s2;simp only[Abs.Au]at e ⊢;by_cases p:r=j
      . subst p;simp only[AAk o];simp only[hj]at e;exact ih hc f q e
      . rw[AAn (by omega)];exact⟨rows,e⟩
end Go.Abs
namespace Go.Abs
variable {w w':World} {S S':Nat->Prop} {F F':Nat->Prop}
structure St (G:Gi) (w:World) (S:Nat->Prop) (δ:Nat->DV) (F:Nat->Nat->Prop):Prop where
 ok:∀s,Ok w S (δ s) (F s)
 MT:∀s t x,F s x->F t x->s=t
 al:∀s,Dd δ (δ s)
 rt:∀s,F9 (G.HI s) (δ s).er=true
 self:∀s,s∉G.HI s
mutual
def FG (n d:Nat):AV->AV
 | .al r p=>if r=d/\n≤p.length then .dead else .al r p
 | .K2 r p i j k=>if r=d/\n≤p.length then .dead else .K2 r p i j k
 | .cl f rs=>if(rs.all λx=>x.1 != d)=true then .cl f rs else .dead
 | .vb s o us=>if s=d then .dead else .vb s o us
 | .agg cs=>.agg (Up n d cs)
 | .BM cs=>.BM (Up n d cs)
 |a=>a
def Up (n d:Nat):List AV->List AV
 |[]=>[]
 |a::r=>FG n d a::Up n d r
end
theorem bN (n d:Nat) (l:List AV):Up n d l=l.map (FG n d):=by
 induction l with
 |nil=>rfl
 |cons a r ih=>simp[Up,ih]
mutual
def Gd (n d:Nat):DV->DV
 | .lf a v=>.lf (FG n d a) v
 | .own h b k rows=>.own h b k rows
 | .agg cs=>.agg (TZ n d cs)
 | .BM cs=>.BM (TZ n d cs)
def TZ (n d:Nat):List DV->List DV
 |[]=>[]
 |a::r=>Gd n d a::TZ n d r
end
theorem YB (n d:Nat) (l:List DV):TZ n d l=l.map (Gd n d):=by
 induction l with
 |nil=>rfl
 |cons a r ih=>simp[TZ,ih]
def Fq (G:Gi) (n d:Nat) (σ:Sg):Sg:=λs=>if s∈G.Oj d then FG n d (σ s)else σ s
def EY (G:Gi) (n d:Nat) (δ:Nat->DV):Nat->DV:=λs=>if s∈G.Oj d then Gd n d (δ s)else δ s
def Jr (G:Gi) (d:Nat) (σ:Sg):Sg:=λs=>if s∈G.Oj d then Dg d (σ s)else σ s
def Hb (G:Gi) (d:Nat) (δ:Nat->DV):Nat->DV:=λs=>if s∈G.Oj d then Ha d (δ s)else δ s
theorem ZH {t:DV} (d:Nat) (q:List Step) {v:Value} {bx:Bool} {k:Nat} {rows:List (List DV)} (e:Abs.Au t q=some (.own v bx k rows)):Abs.Au (Ha d t) q=some (.own v bx k rows):=by
 induction q generalizing t with
 |nil=>simp only[Abs.Au,Option.some.injEq]at e;subst e;simp[Abs.Au]
 |cons s q ih=>
  obtain⟨i,j,f⟩:=s;cases t with
  |lf a v=>simp[Abs.Au]at e
  |own h b k1 Ju=>rw[Np];exact e
  |agg cs=>
   simp only[Ko,Abs.Au,List.getElem?_map]at e ⊢;cases hj:cs[j]? with
   |none=>simp[hj]at e
   |some c=>simp only[hj,Option.map_some]at e ⊢;exact ih e
  |BM cs=>
   simp only[Kp,Abs.Au,List.getElem?_map]at e ⊢;cases hj:cs[j]? with
   |none=>simp[hj]at e
   |some c=>simp only[hj,Option.map_some]at e ⊢;exact ih e
theorem Dd.kill {δ:Nat->DV} {x:DV} (d:Nat) (h:Dd δ x) (b:aF x):Dd δ (Ha d x):=by
 induction h with
 |lf a v h=>
  rw[YA];refine .lf _ v ?_;cases b with
  |lf _ _ b=>
   cases a with
   |al r p=>
    rw[YG];by_cases e:r=d
    . simp only[e,if_true];trivial
    . simp only[e,if_false];exact h
   |K2 r p i j k=>
    rw[Ur];by_cases e:r=d
    . simp only[e,if_true];trivial
    . simp only[e,if_false];exact h
   |vb s o us=>
    rw[YH];split
    . trivial
    . exact h
   |cl f rs=>
    rw[Ta];split
    . exact h
    . trivial
   |agg cs=>simp[C9]at b
   |BM cs=>simp[C9]at b
   |own=>simp[C9]at b
   |_=>simp only[Dg];trivial
 |own=>rw[Np];exact .own _ _ _ _
 |agg cs _ ih=>
  rw[Ko];cases b with
  |agg _ b=>refine .agg _ λi g hd=> ?_;simp only[List.getElem?_map,Option.map_eq_some_iff]at hd;obtain⟨e,c,rfl⟩:=hd;exact ih i e c (b i e c)
 |BM cs _ ih=>
  rw[Kp];cases b with
  |BM _ b=>refine .BM _ λi g hd=> ?_;simp only[List.getElem?_map,Option.map_eq_some_iff]at hd;obtain⟨e,c,rfl⟩:=hd;exact ih i e c (b i e c)
variable {G:Gi} {δ:Nat->DV} {Fr:Nat->Nat->Prop}
theorem St.jT (h:St G w S δ Fr) (d s:Nat):(Hb G d δ s).er=Jr G d (λs=>(δ s).er) s:=by
 unfold Hb Jr;split
 . exact(LC d (h.ok s)).1
 . rfl
theorem St.Us (h:St G w S δ Fr) (d s:Nat):(Hb G d δ s).A0=(δ s).A0:=by
 unfold Hb;split
 . exact(LC d (h.ok s)).2.1
 . rfl
theorem St.jU (h:St G w S δ Fr) (d s:Nat):F7 d (Hb G d δ s).er=true:=by
 unfold Hb;split
 . exact(LC d (h.ok s)).2.2.2
 . rename_i hn;exact xL (h.rt s) λa=>hn (Gi.rR a)
theorem St.killδ_ok (h:St G w S δ Fr) (d s:Nat):Ok w S (Hb G d δ s) (Fr s):=by
 unfold Hb;split
 . exact(LC d (h.ok s)).2.2.1
 . exact h.ok s
theorem St.jV (h:St G w S δ Fr) (d s:Nat):F9 (G.HI s) (Hb G d δ s).er=true:=by
 unfold Hb;split
 . rw[(LC d (h.ok s)).1];exact wF (h.rt s)
 . exact h.rt s
theorem St.killδ_al (h:St G w S δ Fr) (d s:Nat):Dd δ (Hb G d δ s):=by
 unfold Hb;split
 . exact(h.al s).kill d (h.ok s).LD
 . exact h.al s
theorem wH (d r:Nat) (p:List Step) {v:Value} {bx:Bool} {k:Nat} {rows:List (List DV)} (a:Abs.Au (δ r) p=some (.own v bx k rows)):Abs.Au (Hb G d δ r) p=some (.own v bx k rows):=by
 unfold Hb;split
 . exact ZH d p a
 . exact a
theorem wW {L:List Nat} {d:Nat} {a:AV}:F9 L a=true->F7 d a=true->F9 (L.filter (· != d)) a=true:=by
 refine AV.rec (motive_1:=λa=>F9 L a=true->F7 d a=true->F9 (L.filter (· != d)) a=true) (motive_2:=λ_=>True) (motive_3:=λl=>QG L l=true->OQ d l=true->QG (L.filter (· != d)) l=true)
  ?_ ?_ ?_ ?_ ?_ ?_ ?_ ?_ ?_ ?_ ?_ ?_ ?_ ?_ ?_ ?_ ?_ a
 all_goals intros
 all_goals first|trivial| (simp[F9];done)|skip
 all_goals first
  | (simp_all [F9,F7];done)
  | (simp_all [QG,OQ];done)
  | (rename_i b c;simp only[F9,F7,List.all_eq_true,List.contains_iff_mem,List.mem_filter]at b c ⊢;exactλx e=>⟨b x e,c x e⟩)
  | (rename_i f b c;simp only[F9,F7]at b c ⊢;exact f b c)
theorem St.set (h:St G w S δ Fr) (d:Nat) (e:DV) (Fn:Nat->Prop) (D:∀b,S b->w'.heap[b]? =w.heap[b]?) (B:∀s,s≠d->∀x,Fr s x->w'.heap[x]? =w.heap[x]?)
 (y:∀b,S b->S' b) (z:∀s,s≠d->∀x,Fr s x->¬S' x) (hn:Ok w' S' e Fn) (m:∀s,s≠d->∀x,Fn x->¬Fr s x) (q:F9 (G.HI d) e.er=true) (u:Dd δ e):
 St G w' S' (DZ (Hb G d δ) d e) (DZ Fr d Fn):=by
 have n:∀(L:List Nat),d∉L->∀r∈L,∀p v bx k rows,Abs.Au (δ r) p=some (.own v bx k rows)->∃c,Abs.Au (DZ (Hb G d δ) d e r) p=some (.own v bx k c):=by intro L j r l p v bx k rows C;refine⟨rows,?_⟩;rw[Ba _ _ (by rintro rfl;exact j l)];exact wH d r p C
 have o:∀(L:List Nat),d∉L->∀r∈L,(DZ (Hb G d δ) d e r).A0=(δ r).A0:=by intro L j r l;rw[Ba _ _ (by rintro rfl;exact j l)];exact h.Us d r
 refine⟨?_,?_,?_,?_,h.self⟩
 . intro s;by_cases a:s=d
   . subst a;rw[BI,BI];exact hn
   . rw[Ba _ _ a,Ba _ _ a];exact(h.killδ_ok d s).mono D (B s a) y (z s a)
 . intro s t x f g;by_cases a:s=d<;>by_cases i:t=d
   . omega
   . subst a;rw[BI]at f;rw[Ba _ _ i]at g;exact absurd g (m t i x f)
   . subst i;rw[BI]at g;rw[Ba _ _ a]at f;exact absurd f (m s a x g)
   . rw[Ba _ _ a]at f;rw[Ba _ _ i]at g;exact h.MT s t x f g
 . intro s;by_cases a:s=d
   . subst a;rw[BI];exact u.mono q (n _ (h.self s)) (o _ (h.self s))
   . rw[Ba _ _ a];refine(h.killδ_al d s).mono (wW (h.jV d s) (h.jU d s)) (n _ ?_) (o _ ?_)
     . simp
     . simp
 . intro s;by_cases a:s=d
   . subst a;rw[BI];exact q
   . rw[Ba _ _ a];exact h.jV d s
theorem St.poke (h:St G w S δ Fr) (d:Nat) (e:DV) (Fn:Nat->Prop) (C:∀b,S b->w'.heap[b]? =w.heap[b]?) (B:∀s,s≠d->∀x,Fr s x->w'.heap[x]? =w.heap[x]?)
 (hn:Ok w' S e Fn) (l:∀s,s≠d->∀x,Fn x->¬Fr s x) (o:F9 (G.HI d) e.er=true) (y:Dd δ e)
 (z:∀p v bx k rows,Abs.Au (δ d) p=some (.own v bx k rows)->∃c,Abs.Au e p=some (.own v bx k c)) (u:e.A0=(δ d).A0):
 St G w' S (DZ δ d e) (DZ Fr d Fn):=by
 have m:∀(L:List Nat),∀r∈L,∀p v bx k rows,Abs.Au (δ r) p=some (.own v bx k rows)->∃c,Abs.Au (DZ δ d e r) p=some (.own v bx k c):=by
  intro L r _ p v bx k rows q;by_cases i:r=d
  . subst i;rw[BI];exact z p v bx k rows q
  . rw[Ba _ _ i];exact⟨rows,q⟩
 have n:∀(L:List Nat),∀r∈L,(DZ δ d e r).A0=(δ r).A0:=by
  intro L r _;by_cases i:r=d
  . subst i;rw[BI];exact u
  . rw[Ba _ _ i]
 refine⟨?_,?_,?_,?_,h.self⟩
 . intro s;by_cases a:s=d
   . subst a;rw[BI,BI];exact hn
   . rw[Ba _ _ a,Ba _ _ a];exact(h.ok s).mono C (B s a) (λ_ h=>h) (h.ok s).E7
 . intro s t x f g;by_cases a:s=d<;>by_cases j:t=d
   . omega
   . subst a;rw[BI]at f;rw[Ba _ _ j]at g;exact absurd g (l t j x f)
   . subst j;rw[BI]at g;rw[Ba _ _ a]at f;exact absurd f (l s a x g)
   . rw[Ba _ _ a]at f;rw[Ba _ _ j]at g;exact h.MT s t x f g
 . intro s;by_cases a:s=d
   . subst a;rw[BI];exact y.mono o (m _) (n _)
   . rw[Ba _ _ a];exact(h.al s).mono (h.rt s) (m _) (n _)
 . intro s;by_cases a:s=d
   . subst a;rw[BI];exact o
   . rw[Ba _ _ a];exact h.rt s
theorem St.world (h:St G w S δ Fr) (e:∀b,S b->w'.heap[b]? =w.heap[b]?) (d:∀s x,Fr s x->w'.heap[x]? =w.heap[x]?) (a:∀b,S b->S' b) (c:∀s x,Fr s x->¬S' x):St G w' S' δ Fr:=
 ⟨λs=>(h.ok s).mono e (d s) a (c s),h.MT,h.al,h.rt,h.self⟩
end Go.Abs
namespace Go.Abs
inductive Ar where
 |t (s:Nat)
 |c (a:AV)
 deriving Inhabited
inductive ZR where
 |cp (x:Ar)
 |mv (x:Ar)
 |fz (x:Ar)
 |pick (c a b:Ar)
 |bx (n:Nat) (x:Ar)
 |Uc (z:List AV) (ps:List (Nat×Nat×Ar))
 |Na (k:Nat) (z:List (List AV)) (ps:List (Nat×Ar))
 |ld (agg:Bool) (n:Nat) (a:Ar)
 |st (n:Nat) (a v:Ar)
 |VK (off:Nat) (x:Ar)
 |fld (agg:Bool) (off n:Nat) (x:Ar)
 |W4 (k:Nat) (x i:Ar)
 |aad (len k:Nat) (x i:Ar)
 |idx (agg:Bool) (len k:Nat) (x i:Ar)
 |bin (op:BinOp) (x y:Ar)
 |beq (neg:Bool) (x y:Ar)
 |un (op:UnOp) (x:Ar)
 |cvt (k:IntKind) (x:Ar)
 |mm (mx:Bool) (x y:Ar)
 |len (x:Ar)
 |Z6 (x:Ar)
 |lE (x i:Ar)
 |Wf (neg:Bool) (kd:List Nat) (x y:Ar)
 |app (k bytes:Nat) (x y:Ar)
 |zC (k:Nat) (fr:Bool) (x:Ar) (lo hi mx:AB8 Ar)
 |ext (x:Ar) (i:Nat)
 |mk (k bytes:Nat) (z:List AV) (l c:Ar)
 |KK (x:Ar)
 |mkf (f:Nat) (xs:List Ar)
 |YO (a:Ar)
 |fl
 |flk (x:Ar) (k:Nat)
 |jM (r off kb k:Nat) (i:Ar)
 |XC (a v:Ar)
 |std (a:Ar)
 |call (f:Nat) (args:List Ar) (m:Nat)
 |VW (f:Nat) (pre:List Ar) (x:Ar) (c:AB8 Nat) (post:List Ar)
 |bad
 deriving Inhabited
structure Dn where
 d:Nat
 kl:List Nat
 rs:List Nat
 deriving Inhabited
structure BN where
 dst:AB8 Dn
 op:ZR
 guard:AB8 (Nat×Bool)
 deriving Inhabited
structure yM where
 s:Nat
 e:Nat
 ap:Nat
 i7:Nat
 i8:Nat
 i9:Nat
 i11:Nat
 i12:Nat
 deriving Inhabited
inductive gD where
 |o (o:BN)
 |bxv (d:Dn) (n:Nat) (s:Nat)
 |clo (d:AB8 Dn) (f:Nat) (x:Ar) (args:List Ar) (g:AB8 (Nat×Bool))
 |Tl (d:Dn) (neg:Bool) (x:Ar)
 |lb (d:AB8 Dn) (f:Nat) (x:Ar) (Th:List Ar) (y:Ar)
 |gld (d:Dn) (g n:Nat)
 deriving Inhabited
structure yN where
 r:Nat
 off:Nat
 kb:Nat
 i0:Nat
 i1:Nat
 i2:Nat
 d0:Nat
 d1:Nat
 deriving Inhabited
inductive IC where
 |skip
 |bad
 |Wc (ops:List gD)
 |gz (c:Bool) (r:Nat) (p:List Step) (a:IC)
 |pg (c:Bool) (r:Nat) (p:List Step) (a:IC)
 |apd (f:yM) (ops:List BN)
 |PR (ops:List BN)
 |flo (f:yN) (a b:List BN)
 |aY (fs:List (Nat×Nat×Nat×Nat)) (ops:List BN)
 |seq (a b:IC)
 |cond (c:Ar) (a b:IC)
 |block (id:Nat) (a:IC)
 |loop (a:IC)
 |exit (id:Nat)
 |ret
 deriving Inhabited
def ar (σ:Sg):Ar->AV
 | .t s=>σ s
 | .c a=>a
def Hl:AV->Bool
 | .sc _| .sl .. =>true
 |_=>false
def Jd:AV->AV
 | .sc u=>.sc u
 | .sl x k rows=>.sl x k rows
 |_=>.dead
def Fj:AV->Bool
 | .sc _| .sl .. | .own .. =>true
 |_=>false
mutual
def view (r:Nat):List Step->AV->AV
 |p,.own _ _ _=>.al r p
 |p,.agg cs=>.agg (QR r p 0 cs)
 |p,.BM cs=>.BM (QR r p 0 cs)
 |_,a=>a
def QR (r:Nat) (p:List Step):Nat->List AV->List AV
 |_,[]=>[]
 |i,c::cs=>view r (p++[(0,i,0)]) c::QR r p (i+1) cs
end
def vC (r:Nat) (p:List Step) (i j k:Nat):AV->AV
 | .own _ _ _=>.al r (p++[(i,j,k)])
 | .sc v=>.sc v
 | .sl x k' rows=>.sl x k' rows
 |_=>.dead
def vF (s j:Nat):AV->AV
 | .own _ _ _=>.al s [(0,j,0)]
 | .agg _=>.dead
 | .BM _=>.dead
 |a=>a
def QQ (r:Nat) (p:List Step) (i k:Nat):Nat->List AV->List AV
 |_,[]=>[]
 |j,c::cs=>vC r p i j k c::QQ r p i k (j+1) cs
def NC (s:Nat):Nat->List AV->List AV
 |_,[]=>[]
 |j,c::cs=>vF s j c::NC s (j+1) cs
def Js (kl:List Nat) (d:Nat) (σ:Sg):Sg:=match kl with
 |[]=>σ
 |_=>λs=>if s∈kl then Dg d (σ s)else σ s
def wr (d:Dn) (v:AV) (σ:Sg):Option Sg:=if F9 d.rs v=true then some (DZ (Js d.kl d.d σ) d.d v)else none
def Z7 (G:Gi) (r:Nat) (p:List Step) (σ:Sg):Option (AV×Sg):=
 match sub (σ r) p with
 |some (.own b k rows)=>match put (σ r) p .dead with
  |some t=>some (.own b k rows,DZ (Fq G p.length r σ) r t)
  |none=>none
 |_=>none
def lU (G:Gi):List AV->Sg->Option (List AV×Sg)
 |[],σ=>some ([],σ)
 |a::cs,σ=>match a with
  | .al r p=>match Z7 G r p σ with
   |some (n,τ)=>match lU G cs τ with
    |some (l,τ')=>some (n::l,τ')
    |none=>none
   |none=>none
  |a=>if Fj a=true then
   match lU G cs σ with
   |some (l,τ)=>some (a::l,τ)
   |none=>none
   else none
def tk (G:Gi) (x:Ar) (σ:Sg):Option (AV×Sg):=
 match x with
 | .c a=>some (a,σ)
 | .t s=>match σ s with
  | .al r p=>Z7 G r p σ
  | .own b k rows=>some (.own b k rows,DZ (Jr G s σ) s .dead)
  | .agg cs=>if cs.all Hl=true then some (.agg cs,σ)else
   match lU G cs (DZ (Jr G s σ) s .dead)with
   |some (l,τ)=>some (.agg l,τ)
   |none=>none
  | .sc v=>some (.sc v,σ)
  | .sl e k rows=>some (.sl e k rows,σ)
  | .K2 r p i j k=>some (.K2 r p i j k,σ)
  | .fp cs=>some (.fp cs,σ)
  |_=>none
def cellsOf:AV->List AV
 | .agg cs=>cs
 |a=>[a]
def hd (σ:Sg) (x:Ar):Option (AV×Option (Nat×List Step)):=
 match x with
 | .c a=>match a with
  | .own b k rows=>some (.own b k rows,none)
  |_=>none
 | .t s=>match σ s with
  | .al r p=>match sub (σ r) p with
   |some n=>some (n,some (r,p))
   |none=>none
  | .own b k rows=>some (.own b k rows,some (s,[]))
  | .sl e k rows=>some (.sl e k rows,none)
  |_=>none
def Qv (G:Gi) (r:Nat) (p:List Step) (σ:Sg):Option (AV×Sg):=
 match sub (σ r) p with
 |some (.own b k rows)=>match put (σ r) p (JZ (.own b k rows))with
  |some t=>some (JZ (.own b k rows),DZ (Jr G r σ) r t)
  |none=>none
 |_=>none
def mP:AV->Option Int
 | .sc (.int _ n)=>some n
 |_=>none
def EL (σ:Sg) (x:Ar):Option (Nat×List Step×Nat×Nat×Nat):=
 match x with
 | .c _=>none
 | .t s=>match σ s with
  | .K2 r p i j k=>some (r,p,i,j,k)
  | .own true k _=>some (s,[],0,0,k)
  | .al r p=>match sub (σ r) p with
   |some (.own true k _)=>some (r,p,0,0,k)
   |_=>none
  |_=>none
def binI (op:BinOp) (k:IntKind) (x y:Int):Option Value:=
 match op with
 | .add=>some (.int k (k.wrap (x+y)))
 | .sub=>some (.int k (k.wrap (x-y)))
 | .mul=>some (.int k (k.wrap (x*y)))
 | .quo=>if y=0 then none else some (.int k (k.wrap (x.tdiv y)))
 | .rem=>if y=0 then none else some (.int k (x.tmod y))
 | .eql=>some (.bool (x==y))
 | .neq=>some (.bool (x != y))
 | .lss=>some (.bool (x<y))
 | .leq=>some (.bool (x≤y))
 | .gtr=>some (.bool (x>y))
 | .geq=>some (.bool (x≥y))
 |_=>none
def binF (op:BinOp):AV->AV->Option AV
 | .sc (.int k x),.sc (.int k' y)=>if k=k' then(binI op k x y).map .sc else none
 | .sc (.string x),.sc (.string y)=>match op with
  | .eql=>some (.sc (.bool (x.toList==y.toList)))
  | .neq=>some (.sc (.bool (!(x.toList==y.toList))))
  |_=>none
 |_,_=>none
def unF (op:UnOp):AV->Option AV
 | .sc (.bool x)=>match op with
  | .not=>some (.sc (.bool (!x)))
  |_=>none
 | .sc (.int k x)=>match op with
  | .neg=>some (.sc (.int k (k.wrap (0-x))))
  |_=>none
 |_=>none
def It (agg:Bool) (n:Nat) (cs:List AV):Option AV:=
 if cs.length=n then(if agg=true then some (.agg cs)else match cs with|[c]=>some c|_=>none)else none
def TF (rows:List (List AV)) (lo hi:Nat):Option (List (List AV)):=
 if lo≤hi/\hi≤rows.length then some ((rows.drop lo).take (hi-lo))else none
def Nt (σ:Sg) (x:Option Ar) (d:Nat):Option Nat:=
 match x with
 |none=>some d
 |some a=>match mP (ar σ a)with
  |some n=>if 0≤n then some n.toNat else none
  |none=>none
def zA (σ:Sg) (mx:Option Ar) (h:Nat):Option Nat:=
 match mx with
 |none=>some h
 |some a=>Nt σ (some a) 0
def uT:Nat->Value->Value->Option Bool
 |0,.bool a,.bool b=>some (a==b)
 |1,.int k n,.int k' m=>if k=k' then some (n==m)else none
 |2,.string a,.string b=>some (a.toList==b.toList)
 |_,_,_=>none
def Qg:List Nat->List AV->List AV->Option Bool
 |[],[],[]=>some true
 |kd::ks,.sc u::xs,.sc v::ys=>match uT kd u v,Qg ks xs ys with
  |some a,some b=>some (a&&b)
  |_,_=>none
 |_,_,_=>none
def S7 (σ:Sg):List Ar->Option (List (Nat×List Step))
 |[]=>some []
 |x::r=>match x with
  | .t s=>(match σ s,S7 σ r with
   | .own true _ _,some l=>some ((s,[])::l)
   | .al q p,some l=>(match sub (σ q) p with
    |some (.own true _ _)=>some ((q,p)::l)
    |_=>none)
   |_,_=>none)
  | .c _=>none
def valOf (o:ZR) (σ:Sg):Option AV:=
 match o with
 | .cp x=>match x with
  | .t s=>some (view s [] (σ s))
  | .c a=>some a
 | .pick c a b=>match ar σ c with
  | .sc (.bool x)=>match ar σ (if x=true then a else b)with
   | .sc v=>some (.sc v)
   |_=>none
  |_=>none
 | .ld agg n a=>match a with
  | .c _=>none
  | .t s=>match σ s with
   | .fp cs=>It agg n ((cs.take n).map Jd)
   | .vb q o _=>match σ q with
    | .agg cs=>It agg n (NC q o ((cs.drop o).take n))
    |_=>none
   |_=>match EL σ (.t s)with
    |some (r,p,i,j,k)=>match sub (σ r) p with
     |some (.own _ _ rows)=>match rows[i]? with
      |some row=>It agg n (QQ r p i k j ((row.drop j).take n))
      |none=>none
     |_=>none
    |none=>none
 | .VK off x=>match x with
  | .c _=>none
  | .t s=>match σ s with
   | .fp cs=>some (.fp (cs.drop off))
   | .vb q o us=>some (.vb q (o+off) us)
   |_=>match EL σ (.t s)with
    |some (r,p,i,j,k)=>some (.K2 r p i (j+off) k)
    |none=>none
 | .fld agg off n x=>match x with
  | .c _=>none
  | .t s=>match σ s with
   | .agg cs=>It agg n (NC s off ((cs.drop off).take n))
   |_=>none
 | .W4 k x i=>match hd σ x,mP (ar σ i)with
  |some (.own false k' rows,some (r,p)),some n=>if k'=k/\0≤n/\n<rows.length then some (.K2 r p n.toNat 0 k)else none
  |some (.sl _ k' rows,_),some n=>if k'=k/\0≤n then(rows[n.toNat]?).map .fp else none
  |_,_=>none
 | .aad len k x i=>match x,mP (ar σ i)with
  | .t s,some n=>if 0≤n/\n<len then
   match σ s with
   | .fp cs=>some (.fp (cs.drop (n.toNat*k)))
   |_=>match EL σ (.t s)with
    |some (r,p,i,j,k')=>some (.K2 r p i (j+n.toNat*k) k')
    |none=>none
   else none
  |_,_=>none
 | .idx agg len k x i=>match x,mP (ar σ i)with
  | .t s,some n=>if 0≤n/\n<len then
   match σ s with
   | .agg cs=>It agg k (NC s (n.toNat*k) ((cs.drop (n.toNat*k)).take k))
   |_=>none
   else none
  |_,_=>none
 | .bin op x y=>binF op (ar σ x) (ar σ y)
 | .beq neg x y=>match ar σ x,ar σ y with
  | .sc (.bool a),.sc (.bool b)=>some (.sc (.bool (if neg=true then !(a==b)else(a==b))))
  |_,_=>none
 | .un op x=>unF op (ar σ x)
 | .cvt k x=>match ar σ x with
  | .sc (.int _ n)=>some (.sc (.int k (k.wrap n)))
  |_=>none
 | .mm mx x y=>match ar σ x,ar σ y with
  | .sc (.int k n),.sc (.int k' m)=>if k=k' then some (.sc (.int k (if mx=true then(if m>n then m else n)else(if m<n then m else n))))else none
  |_,_=>none
 | .len x=>match hd σ x with
  |some (.own false _ rows,_)=>some (.sc (.int .i64 rows.length))
  |some (.sl _ _ rows,_)=>some (.sc (.int .i64 rows.length))
  |_=>none
 | .Z6 x=>match ar σ x with
  | .sc (.string s)=>some (.sc (.int .i64 s.size))
  |_=>none
 | .lE x i=>match ar σ x,mP (ar σ i)with
  | .sc (.string s),some n=>if 0≤n then(s[n.toNat]?).map λb=>.sc (.int .u8 b.toNat)else none
  |_,_=>none
 | .Wf neg kd x y=>match ar σ x,ar σ y with
  | .agg xs,.agg ys=>(Qg kd xs ys).map λb=>.sc (.bool (if neg=true then !b else b))
  |_,_=>none
 | .ext x i=>match x with
  | .t s=>match σ s with
   | .BM cs=>match cs[i]? with
    |some c=>some (view s [(0,i,0)] c)
    |none=>none
   |_=>none
  |_=>none
 | .KK x=>match ar σ x with
  | .K2 r p i j k=>some (.K2 r p i j k)
  | .fp cs=>some (.fp cs)
  | .al r p=>match sub (σ r) p with
   |some (.own true _ _)=>some (.al r p)
   |_=>none
  | .own true _ _=>match x with
   | .t s=>some (.al s [])
   |_=>none
  |_=>none
 | .mkf f xs=>(S7 σ xs).map (.cl f)
 | .fl=>some .dead
 | .flk x k=>match x with
  | .t s=>match σ s with
   | .BM cs=>if k<cs.length then some .dead else none
   |_=>none
  |_=>none
 | .jM r off kb k i=>match σ r,mP (ar σ i)with
  | .own true kb' [row],some n=>match row[off]? with
   |some (.own false k' rows)=>if kb'=kb/\k'=k/\0≤n/\n<rows.length then some (.K2 r [(0,off,kb)] n.toNat 0 k)else none
   |_=>none
  |_,_=>none
 | .YO a=>match EL σ a with
  |some (r,p,i,j,k)=>match sub (σ r) p with
   |some (.own _ _ rows)=>match rows[i]? with
    |some row=>match row[j]? with
     |some (.own _ _ _)=>some (.al r (p++[(i,j,k)]))
     |_=>none
    |none=>none
   |_=>none
  |none=>none
 |_=>none
def fE (cs:List AV) (off:Nat) (xs:List AV):List AV:=cs.take off++xs++cs.drop (off+xs.length)
def Vx (G:Gi):List (Nat×Nat×Ar)->List AV->Sg->Option (List AV×Sg)
 |[],cs,σ=>some (cs,σ)
 | (off,n,x)::ps,cs,σ=>match tk G x σ with
  |some (a,τ)=>if(cellsOf a).length=n/\off+n≤cs.length/\(cellsOf a).all Fj=true then Vx G ps (fE cs off (cellsOf a)) τ else none
  |none=>none
def Vy (G:Gi) (k:Nat):List (Nat×Ar)->List (List AV)->Sg->Option (List (List AV)×Sg)
 |[],rows,σ=>some (rows,σ)
 | (i,x)::ps,rows,σ=>match tk G x σ with
  |some (a,τ)=>if(cellsOf a).length=k/\i<rows.length/\(cellsOf a).all Fj=true then Vy G k ps (rows.set i (cellsOf a)) τ else none
  |none=>none
def stC (p:List Step) (i k:Nat):Nat->List AV->AV->Option AV
 |_,[],t=>some t
 |j,c::cs,t=>match put t (p++[(i,j,k)]) c with
  |some t'=>stC p i k (j+1) cs t'
  |none=>none
def Ak (n bytes:Nat):Bool:=n*bytes≤70368744177664
def XV (G:Gi) (k:Nat) (y:Ar) (σ:Sg):Option (List (List AV)×Sg):=
 match y with
 | .t s=>match σ s with
  | .own false k' rows=>if k'=k/\rows.all (·.all Fj)=true then some (rows,DZ (Jr G s σ) s .dead)else none
  | .sl _ k' rows=>if k'=k/\rows.all (·.all Hl)=true then some (rows,σ)else none
  | .al r p=>match Qv G r p σ with
   |some (.sl _ k' rows,τ)=>if k'=k/\rows.all (·.all Hl)=true then some (rows,τ)else none
   |_=>none
  |_=>none
 | .c a=>match a with
  | .own false _ []=>some ([],σ)
  |_=>none
def Vu (G:Gi) (k:Nat) (x:Ar) (τ:Sg):Option (AV×Sg):=
 match x with
 | .t s=>match τ s with
  | .sl true k' rows=>if k'=k/\rows.all (·.all Hl)=true then some (.sl true k' rows,τ)else none
  | .own false k' rows=>if k'=k then some (.own false k' rows,DZ (Jr G s τ) s .dead)else none
  | .al r p=>match Z7 G r p τ with
   |some (.own false k' rows,τ')=>if k'=k then some (.own false k' rows,τ')else none
   |_=>none
  |_=>none
 | .c a=>match a with
  | .own false _ []=>some (.own false k [],τ)
  |_=>none
def Gn (G:Gi) (o:ZR) (d:Option Dn) (σ:Sg):Option Sg:=
 match o,d with
 | .mv x,some d=>match tk G x σ with
  |some (v,τ)=>wr d v τ
  |none=>none
 | .fz x,some d=>match x with
  | .t s=>match σ s with
   | .al r p=>match Qv G r p σ with
    |some (v,τ)=>wr d v τ
    |none=>none
   | .own _ _ _=>match Qv G s [] σ with
    |some (v,τ)=>wr d v τ
    |none=>none
   | .sc v=>wr d (.sc v) σ
   | .sl e k rows=>wr d (.sl e k rows) σ
   |_=>none
  | .c _=>none
 | .bx n x,some d=>match tk G x σ with
  |some (v,τ)=>if(cellsOf v).length=n/\(cellsOf v).all Fj=true then wr d (.own true n [cellsOf v]) τ else none
  |none=>none
 | .Uc z ps,some d=>match Vx G ps z σ with
  |some (cs,τ)=>wr d (.agg cs) τ
  |none=>none
 | .Na k z ps,some d=>match Vy G k ps z σ with
  |some (rows,τ)=>wr d (.own false k rows) τ
  |none=>none
 | .mk k bytes z l c,some d=>match mP (ar σ l),mP (ar σ c)with
  |some l,some c=>if 0≤l/\l≤c/\Ak c.toNat bytes=true then wr d (.own false k (List.replicate l.toNat z)) σ else none
  |_,_=>none
 | .zC k fr x lo hi mx,some d=>match hd σ x with
  |some (.sl _ k' rows,_)=>match Nt σ lo 0,Nt σ hi rows.length with
   |some l,some h=>match TF rows l h,zA σ mx h with
    |some rs,some m=>if k'=k/\m=h then wr d (.sl mx.isSome k rs) σ else none
    |_,_=>none
   |_,_=>none
  |some (.own false k' rows,some (r,p))=>match Nt σ lo 0,Nt σ hi rows.length with
   |some l,some h=>match TF rows l h,zA σ mx h with
    |some rs,some m=>if k'=k/\m=h then
     (if fr=true then
      match Qv G r p σ with
      |some (_,τ)=>wr d (.sl mx.isSome k (rs.map (·.map JZ))) τ
      |none=>none
     else if l=0/\mx.isNone=true then
      match Z7 G r p σ with
      |some (_,τ)=>wr d (.own false k rs) τ
      |none=>none
     else none)
     else none
    |_,_=>none
   |_,_=>none
  |_=>none
 | .app k bytes x y,some d=>match XV G k y σ with
  |some (ys,τ)=>match Vu G k x τ with
   |some (.own _ _ rows,τ')=>if Ak (rows.length+ys.length) bytes=true then wr d (.own false k (rows++ys)) τ' else none
   |some (.sl _ _ rows,τ')=>if ys.isEmpty=true then wr d (.sl false k rows) τ'
    else if Ak (rows.length+ys.length) bytes=true then wr d (.own false k (rows++ys)) τ' else none
   |_=>none
  |none=>none
 | .st n a v,none=>match tk G v σ with
  |some (x,τ)=>match EL τ a with
   |some (r,p,i,j,k)=>match sub (τ r) p with
    |some (.own _ _ rows)=>match rows[i]? with
     |some row=>
      if(cellsOf x).length=n/\(cellsOf x).all Fj=true/\j+n≤row.length then
       match stC p i k j (cellsOf x) (τ r)with
       |some t=>if((row.drop j).take n).all C9=true then some (DZ τ r t)else some (DZ (Jr G r τ) r t)
       |none=>none
      else none
     |none=>none
    |_=>none
   |none=>none
  |none=>none
 | .XC a v,none=>match ar σ v with
  | .sc u=>match EL σ a with
   |some (r,p,i,j,k)=>match sub (σ r) p with
    |some (.own _ _ rows)=>match rows[i]? with
     |some row=>match row[j]? with
      |some (.sc _)=>match put (σ r) (p++[(i,j,k)]) (.sc u)with
       |some t=>some (DZ σ r t)
       |none=>none
      |_=>none
     |none=>none
    |_=>none
   |none=>none
  |_=>none
 | .std a,none=>match EL σ a with
  |some (r,p,i,j,_)=>match sub (σ r) (p++[(i,j,0)])with
   |some .dead=>some σ
   |_=>none
  |none=>none
 |o,some d=>match valOf o σ with
  |some v=>wr d v σ
  |none=>none
 |_,none=>none
theorem lda_ld {a:Ar} {σ:Sg} {v:AV} (h:valOf (.YO a) σ=some v):valOf (.ld false 1 a) σ=some v:=by
 simp only[valOf]at h ⊢;split at h
 . rename_i r p i j k d;split at h
   . rename_i b y rows u;split at h
     . rename_i e n;split at h
       . rename_i g x f l;obtain rfl:=Option.some.inj h;have hd:(e.drop j).take 1=[.own g x f]:=(by obtain⟨m,w⟩:=List.getElem?_eq_some_iff.1 l;rw[List.drop_eq_getElem_cons m,w];rfl);cases a with
         |c=>simp[EL]at d
         |t s=>
          simp only;cases hσ:σ s with
          |fp cs=>simp[EL,hσ]at d
          |vb q o us=>simp[EL,hσ]at d
          |_=>simp only[d,u,n,hd];rfl
       . cases h
     . cases h
   . cases h
 . cases h
theorem sts_st {G:Gi} {a v:Ar} {σ τ:Sg} (h:Gn G (.XC a v) none σ=some τ):Gn G (.st 1 a v) none σ=some τ:=by
 simp only[Gn]at h ⊢;split at h
 . rename_i u d;have f:tk G v σ=some (.sc u,σ):=by
    cases v with
    |c c=>simp only[ar]at d;subst d;rfl
    |t s=>simp only[ar]at d;simp[tk,d]
   rw[f];simp only;split at h
   . rename_i r p i j k g
     try simp only[g]
     split at h
     . rename_i b y rows o
       try simp only[o]
       split at h
       . rename_i e n
         try simp only[n]
         split at h
         . rename_i x l;obtain⟨m,w⟩:=List.getElem?_eq_some_iff.1 l;have hd:(e.drop j).take 1=[.sc x]:=(by rw[List.drop_eq_getElem_cons m,w];rfl);split at h
           . rename_i t q;obtain rfl:=Option.some.inj h;rw[if_pos ⟨by simp[cellsOf],by simp[cellsOf,Fj],by omega⟩];simp[cellsOf,stC,q,hd,C9]
           . cases h
         . cases h
       . cases h
     . cases h
   . cases h
 . cases h
def eE (kb off:Nat):AV->Bool
 | .own true k [row]=>k==kb&&decide (off<row.length)
 |_=>false
end Go.Abs
namespace Go.Abs
structure Ext (w w':World) (F:Nat->Prop):Prop where
 os:w'.os=w.os
 tape:w'.tape=w.tape
 output:w'.output=w.output
 size:w.heap.size≤w'.heap.size
 block:∀b,b<w.heap.size->¬F b->w'.heap[b]? =w.heap[b]?
def Lz:List AB9:=[⟨#[118,97,114]⟩,⟨#[118,111,108,97,116,105,108,101]⟩,⟨#[109,117,116,101,120]⟩,⟨#[114,119,108,111,99,107]⟩,⟨#[99,111,110,100]⟩,⟨#[102,117,116,117,114,101]⟩,⟨#[116,104,114,101,97,100]⟩,⟨#[105,102]⟩,⟨#[101,108,115,101]⟩,⟨#[119,104,105,108,101]⟩,⟨#[108,111,99,107]⟩,⟨#[114,101,97,100]⟩,⟨#[119,114,105,116,101]⟩,⟨#[116,114,97,110,115,97,99,116,105,111,110]⟩,⟨#[97,116,111,109,105,99]⟩,⟨#[119,97,105,116]⟩,⟨#[110,111,116,105,102,121]⟩,⟨#[110,111,116,105,102,121,97,108,108]⟩,⟨#[115,112,97,119,110]⟩,⟨#[106,111,105,110]⟩,⟨#[115,101,116]⟩,⟨#[103,101,116]⟩]
def Gam:List (Nat×List Value):=[(0,Lz.map Value.string)]
def GI (w:World) (S:Nat->Prop):Prop:=∀x∈Gam,S x.1/\∃arr E fz,w.heap[x.1]? =some (.cells arr E fz)/\∀(j:Nat) v,x.2[j]? =some v->arr[j]? =some v
def BA (P:Program) (f:Nat) (args:List AV) (res:AV) (outs:List AV):Prop:=
 ∀(w:World) (S:Nat->Prop) (ds:List DV) (F:Nat->Prop),GI w S->ds.map DV.er=args->Ok w S (.BM ds) F->(∀b,S b->b<w.heap.size)->
  Calls P f (ds.map DV.A0).toArray w λe w'=>∃(r:DV) (os:List DV) (S' F':Nat->Prop),e= .returned r.A0/\r.er=res/\os.map DV.er=outs/\os.map DV.A0=ds.map DV.A0/\
   Ok w' S' (.BM (r::os)) F'/\Ext w w' F/\(∀b,S b->S' b)/\(∀b,S' b->S b∨F b∨w.heap.size≤b)/\(∀b,S' b->b<w'.heap.size)/\(∀x,F' x->F x∨w.heap.size≤x)
def Says (P:Program) (f:Nat) (args:List AV) (res:AV):Prop:=BA P f args res (args.map λ_=>.dead)
def Tz (σ:Sg):AV->AB8 AV
 | .al r p=>match sub (σ r) p with
  |some (.own false k rows)=>some (JZ (.own false k rows))
  |some (.own true _ [row])=>some (.fp (row.map JZ))
  |_=>none
 | .own false k rows=>some (JZ (.own false k rows))
 | .own true _ [row]=>some (.fp (row.map JZ))
 | .fp cs=>some (.fp cs)
 | .sc v=>some (.sc v)
 | .sl _ k rows=>some (.sl false k rows)
 |_=>none
def zB (σ:Sg):List AV->AB8 (List AV)
 |[]=>some []
 |a::r=>match Tz σ a,zB σ r with
  |some x,some l=>some (x::l)
  |_,_=>none
def kE (σ:Sg):AV->AB8 AV
 | .agg cs=>match zB σ cs with
  |some l=>some (.agg l)
  |none=>none
 | .al r p=>Tz σ (.al r p)
 | .own b k rows=>Tz σ (.own b k rows)
 | .sc v=>Tz σ (.sc v)
 | .sl e k rows=>Tz σ (.sl e k rows)
 | .fp cs=>Tz σ (.fp cs)
 |_=>none
def KM (σ:Sg):List Ar->AB8 (List AV)
 |[]=>some []
 |x::r=>match kE σ (ar σ x),KM σ r with
  |some a,some l=>some (a::l)
  |_,_=>none
def fzl:AV->AV
 | .sl _ k rows=>.sl false k rows
 |a=>JZ a
def yT:AV->AV
 | .agg cs=>.agg (cs.map fzl)
 |a=>fzl a
def NW (G:Gi):List Ar->Sg->AB8 (List AV×Sg)
 |[],σ=>some ([],σ)
 |x::r,σ=>match tk G x σ with
  |some (a,τ)=>match NW G r τ with
   |some (l,τ')=>some (yT a::l,τ')
   |none=>none
  |none=>none
def Ri (G:Gi):List Ar->Sg->AB8 (List AV×Sg)
 |[],σ=>some ([],σ)
 |x::r,σ=>match tk G x σ with
  |some (a,τ)=>match Ri G r τ with
   |some (l,τ')=>some (a::l,τ')
   |none=>none
  |none=>none
def Xc (σ:Sg):List (Nat×List Step)->AB8 (List (List AV))
 |[]=>some []
 | (r,p)::l=>match Tz σ (.al r p),Xc σ l with
  |some (.fp cs),some Wt=>some (cs::Wt)
  |_,_=>none
def Wi (G:Gi):List Ar->Sg->AB8 (List AV×Sg)
 |[],_=>none
 |x::r,σ=>match r with
  |[]=>(match ar σ x with
   | .cl f rs=>(match Xc σ rs with
    |some Wt=>some ([.nY f Wt],σ)
    |none=>none)
   |_=>none)
  |y::r=>match tk G x σ with
   |some (a,τ)=>match Wi G (y::r) τ with
    |some (l,τ')=>some (a::l,τ')
    |none=>none
   |none=>none
def aX:AV->Bool
 | .sc _=>true
 | .agg cs=>cs.all λ| .sc _=>true|_=>false
 | .BM cs=>cs.all λ| .sc _=>true|_=>false
 |_=>false
mutual
def fresh:AV->Bool
 | .sc _=>true
 | .own _ _ rows=>Ru rows
 | .agg cs=>Pb cs
 | .BM cs=>Pb cs
 |_=>false
def Pb:List AV->Bool
 |[]=>true
 |a::r=>fresh a&&Pb r
def Ru:List (List AV)->Bool
 |[]=>true
 |a::r=>Pb a&&Ru r
end
def Ki:AV->Bool
 | .sc _| .sl .. | .own .. =>true
 |_=>false
def clean:AV->Bool
 | .agg cs=>cs.all Ki
 | .BM cs=>cs.all λ
  | .agg l=>l.all Ki
  |a=>Ki a
 |a=>Ki a
def Sh (m:Nat) (res:AV):Option AV:=
 match m with
 |0=>if aX res=true then some res else none
 |1=>some (JZ res)
 |2=>if fresh res=true then some res else none
 |3=>if clean res=true then some res else none
 |4=>if fresh res=true then some res else none
 |_=>none
def Gm (G:Gi) (m:Nat) (args:List Ar) (σ:Sg):Option (List AV×Sg):=
 match m with
 |1=>NW G args σ
 |3=>Ri G args σ
 |4=>Wi G args σ
 |_=>match KM σ args with
  |some l=>some (l,σ)
  |none=>none
def C3 (dst:Option Dn) (v:AV) (K:Sg->Prop) (τ:Sg):Prop:=
 match dst with
 |some d=>(match wr d v τ with
  |some τ'=>K τ'
  |none=>False)
 |none=>K τ
def xD (σ:Sg):Ar->Option (Nat×List Step)
 | .t s=>match σ s with
  | .al r p=>some (r,p)
  | .own _ _ _=>some (s,[])
  |_=>none
 | .c _=>none
def Ib:AV->Bool
 | .own .. | .dead=>true
 |_=>false
def SU:AV->AV
 | .sc v=>.sc v
 | .sl _ k rows=>.sl false k rows
 |_=>.dead
def rdF (σ:Sg):Ar->Option AV
 | .t s=>match σ s with
  | .agg cs=>some (.agg (cs.map SU))
  |a=>some (SU a)
 | .c a=>match a with
  | .sc v=>some (.sc v)
  | .own false k []=>some (.sl false k [])
  |_=>none
def NO (σ:Sg):List Ar->Option (List AV)
 |[]=>some []
 |x::r=>match rdF σ x,NO σ r with
  |some a,some l=>some (a::l)
  |_,_=>none
def P1 (σ:Sg) (x:Ar) (c:Option Nat):Option (Nat×List Step):=match c with
 |none=>xD σ x
 |some j=>match x with
  | .t s=>match σ s with
   | .agg cs=>match cs[j]? with
    |some (.al r p)=>some (r,p)
    |some (.own _ _ _)=>some (s,[(0,j,0)])
    |_=>none
   |_=>none
  | .c _=>none
def Td (σ:Sg) (x:Ar) (c:Option Nat) (n:AV):AV:=match c with
 |none=>n
 |some j=>match ar σ x with
  | .agg cs=>.agg ((cs.map SU).set j n)
  |_=>.dead
def S5 (c:Option Nat) (out:AV):Option AV:=match c with
 |none=>some out
 |some j=>match out with
  | .agg cs=>cs[j]?
  |_=>none
def Te (u:AV) (b:Bool) (k:Nat) (p:List Step):Nat:=match u with
 | .own b' k' _=>if b'=b/\k'=k then p.length+1 else 0
 |_=>0
def EK (P:Program) (G:Gi) (o:BN) (K:Sg->Prop) (σ:Sg):Prop:=
 match o.op with
 | .call f args m=>match Gm G m args σ with
  |some (aZ9,τ)=>∃res,Says P f aZ9 res/\(match Sh m res with
   |some v=>C3 o.dst v K τ
   |none=>False)
  |none=>False
 | .VW f pre x c post=>match P1 σ x c,NO σ pre,NO σ post with
  |some (r,p),some aZ9,some bs=>(match sub (σ r) p with
   |some (.own b k rows)=>∃res out u,BA P f (aZ9++Td σ x c (.own b k rows)::bs) res ((aZ9.map λ_=>.dead)++out::bs.map λ_=>.dead)/\S5 c out=some u/\Ib u=true/\clean res=true/\(match put (σ r) p u with
    |some t=>C3 o.dst res K (DZ (Fq G (Te u b k p) r σ) r t)
    |none=>False)
   |_=>False)
  |_,_,_=>False
 |op=>match Gn G op o.dst σ with
  |some τ=>K τ
  |none=>False
def K3 (P:Program) (G:Gi) (o:BN) (K:Sg->Prop) (σ:Sg):Prop:=
 match o.guard with
 |none=>EK P G o K σ
 |some (g,want)=>match σ g with
  | .sc (.bool b)=>if b=want then EK P G o K σ else
   (match o.dst with
   |some d=>K (DZ (Js d.kl d.d σ) d.d .un)
   |none=>K σ)
  | .un=>(match o.dst with
   |some d=>K (DZ (Js d.kl d.d σ) d.d .un)
   |none=>K σ)
  |_=>False
def OA (P:Program) (G:Gi):List BN->(Sg->Prop)->Sg->Prop
 |[],K,σ=>K σ
 |o::os,K,σ=>K3 P G o (OA P G os K) σ
def rowsOf:AV->Option (List (List AV))
 | .own false _ rows=>some rows
 | .sl _ _ rows=>some rows
 |_=>none
def uE (σ:Sg):List (Nat×List Step)->Option (List AV)
 |[]=>some []
 | (r,p)::l=>match Tz σ (.al r p),uE σ l with
  |some a,some aZ9=>some (a::aZ9)
  |_,_=>none
def cloA (σ:Sg) (f:Nat) (x:Ar) (args:List Ar):Option (List AV):=match ar σ x with
 | .cl f' rs=>if f'=f then(match KM σ args,uE σ rs with
  |some aZ9,some bs=>some (aZ9++bs)
  |_,_=>none)else none
 |_=>none
def iW (g n:Nat):Option (List Value):=match Gam.find? (λx=>x.1==g)with
 |some x=>if x.2.length=n/\x.2.all Ge=true then some x.2 else none
 |none=>none
def ZF (d:Option Dn) (K:Sg->Prop) (σ:Sg):Prop:=match d with
 |some d=>K (DZ (Js d.kl d.d σ) d.d .un)
 |none=>K σ
def gdP (g:Option (Nat×Bool)) (A B:Sg->Prop) (σ:Sg):Prop:=match g with
 |none=>A σ
 |some (g,want)=>match σ g with
  | .sc (.bool b)=>if b=want then A σ else B σ
  | .un=>B σ
  |_=>False
def nQ (P:Program) (d:Option Dn) (f:Nat) (x:Ar) (args:List Ar) (K:Sg->Prop) (σ:Sg):Prop:=match cloA σ f x args with
 |some aZ9=>∃res,Says P f aZ9 res/\(match Sh 0 res with
  |some v=>C3 d v K σ
  |none=>False)
 |none=>False
def lbQ (P:Program) (G:Gi) (d:Option Dn) (f:Nat) (r r2:Nat) (p p2:List Step) (v n:AV) (b:Bool) (k:Nat) (ms:List AV) (K:Sg->Prop) (τ:Sg):Prop:=
 r≠r2/\∃res out,BA P f (n::(ms++[v])) res (out::((ms.map λ_=>.dead)++[v]))/\Ib out=true/\clean res=true/\(match put (τ r) p out with
  |some t=>(match put (DZ (Fq G (Te out b k p) r τ) r t r2) p2 v with
   |some t2=>C3 d res K (DZ (Fq G p2.length r2 (DZ (Fq G (Te out b k p) r τ) r t)) r2 t2)
   |none=>False)
  |none=>False)
def lbP (P:Program) (G:Gi) (d:Option Dn) (f:Nat) (x:Ar) (Th:List Ar) (y:Ar) (K:Sg->Prop) (σ:Sg):Prop:=match xD σ y with
 |some (r2,p2)=>(match Z7 G r2 p2 σ with
  |some (v,τ)=>(match xD τ x,NO τ Th with
   |some (r,p),some ms=>(match sub (τ r) p with
    |some (.own b k rows)=>lbQ P G d f r r2 p p2 v (.own b k rows) b k ms K τ
    |_=>False)
   |_,_=>False)
  |none=>False)
 |none=>False
def Lh (P:Program) (G:Gi):List gD->(Sg->Prop)->Sg->Prop
 |[],K,σ=>K σ
 | .o o::xs,K,σ=>K3 P G o (Lh P G xs K) σ
 | .Tl d neg x::xs,K,σ=>match hd σ x with
  |some (a,_)=>(match rowsOf a with
   |some rows=>∀b:Bool,(b=true->rows=[])->C3 (some d) (.sc (.bool (if neg=true then !b else b))) (Lh P G xs K) σ
   |none=>False)
  |none=>False
 | .gld d g n::xs,K,σ=>match iW g n with
  |some cs=>C3 (some d) (.agg (cs.map .sc)) (Lh P G xs K) σ
  |none=>False
 | .bxv d n s::xs,K,σ=>match σ s with
  | .agg cs=>cs.length=n/\∀us:List Value,us.length=n->C3 (some d) (.vb s 0 us) (Lh P G xs K) σ
  |_=>False
 | .lb d f x Th y::xs,K,σ=>lbP P G d f x Th y (Lh P G xs K) σ
 | .clo d f x args g::xs,K,σ=>gdP g (nQ P d f x args (Lh P G xs K)) (ZF d (Lh P G xs K)) σ
def czS (G:Gi) (r:Nat) (p:List Step) (σ:Sg):Option Sg:=match sub (σ r) p with
 |some (.own b k rows)=>(match put (σ r) p (.own b k (Ni rows))with
  |some t=>some (DZ (Fq G (p.length+1) r σ) r t)
  |none=>none)
 |_=>none
def gzS (G:Gi) (c:Bool) (r:Nat) (p:List Step) (σ:Sg):Option Sg:=if c=true then czS G r p σ else match sub (σ r) p with
 |some (.sl _ _ _)=>some σ
 |_=>match Qv G r p σ with
  |some (_,τ)=>some τ
  |none=>none
def pgQ (G:Gi) (c:Bool) (r:Nat) (p:List Step) (Q:Exit->Sg->Prop):Exit->Sg->Prop
 | .normal,σ=>(match gzS G c r p σ with
  |some τ=>Q .normal τ
  |none=>False)
 |e,σ=>Q e σ
def RK (P:Program) (G:Gi) (f:yN):List BN->(Sg->Prop)->Sg->Prop
 |[],K,σ=>K σ
 |o::os,K,σ=>eE f.kb f.off (σ f.r)=true/\K3 P G o (RK P G f os K) σ
def Pp:AV->Bool
 | .own false _ _=>true
 |_=>false
def SD:AV->Bool
 | .K2 .. =>true
 |_=>false
def wZ (f:yM) (m:Nat) (σ:Sg):Bool:=(decide (m≤f.i7)||Pp (σ f.s))&&(decide (m≤f.i8)||SD (σ f.e))&&(decide (m≤f.i11)||SD (σ f.ap))
def Ol (P:Program) (G:Gi) (f:yM):Nat->List BN->(Sg->Prop)->Sg->Prop
 |m,[],K,σ=>wZ f m σ=true/\K σ
 |m,o::os,K,σ=>wZ f m σ=true/\K3 P G o (Ol P G f (m+1) os K) σ
def Exit.RH (next:Sg->Prop) (Q:Exit->Sg->Prop):Exit->Sg->Prop
 | .normal,σ=>next σ
 |e,σ=>Q e σ
def Exit.Xb (id:Nat) (Q:Exit->Sg->Prop):Exit->Sg->Prop
 | .exit i,σ=>if i=id then Q .normal σ else Q (.exit i) σ
 |e,σ=>Q e σ
def ID (P:Program) (G:Gi):IC->(Exit->Sg->Prop)->Sg->Prop
 | .skip,Q,σ=>Q .normal σ
 | .bad,_,_=>False
 | .Wc xs,Q,σ=>Lh P G xs (Q .normal) σ
 | .apd f ops,Q,σ=>Ol P G f 0 ops (K3 P G ⟨none,.st 1 (.t f.ap) (.t f.s),none⟩ (Q .normal)) σ
 | .pg c r p a,Q,σ=>ID P G a (pgQ G c r p Q) σ
 | .gz c r p a,Q,σ=>match gzS G c r p σ with
  |some τ=>ID P G a Q τ
  |none=>False
 | .PR ops,Q,σ=>OA P G ops (Q .normal) σ
 | .flo f a b,Q,σ=>RK P G f a (OA P G b (Q .normal)) σ
 | .aY _ ops,Q,σ=>OA P G ops (Q .normal) σ
 | .seq a b,Q,σ=>ID P G a (Exit.RH (ID P G b Q) Q) σ
 | .cond c a b,Q,σ=>match ar σ c with
  | .sc (.bool x)=>if x=true then ID P G a Q σ else ID P G b Q σ
  |_=>False
 | .block id a,Q,σ=>ID P G a (Exit.Xb id Q) σ
 | .loop a,Q,σ=>∃I:Nat->Sg->Prop,(∃n,I n σ)/\∀n τ,I n τ->ID P G a (Exit.RH (λτ'=>∃n',n'<n/\I n' τ') Q) τ
 | .exit id,Q,σ=>Q (.exit id) σ
 | .ret,Q,σ=>Q .ret σ
theorem AAZ (P:Program) (G:Gi) (Q:Exit->Sg->Prop) (σ:Sg):ID P G .skip Q σ=Q .normal σ:=(rfl)
theorem awp_reg (P:Program) (G:Gi) (ops:List BN) (Q:Exit->Sg->Prop) (σ:Sg):ID P G (.PR ops) Q σ=OA P G ops (Q .normal) σ:=(rfl)
theorem awp_rex (P:Program) (G:Gi) (a:List gD) (Q:Exit->Sg->Prop) (σ:Sg):ID P G (.Wc a) Q σ=Lh P G a (Q .normal) σ:=(rfl)
theorem qK (P:Program) (G:Gi) (a b:IC) (Q:Exit->Sg->Prop) (σ:Sg):ID P G (.seq a b) Q σ=ID P G a (Exit.RH (ID P G b Q) Q) σ:=(rfl)
theorem tX (P:Program) (G:Gi) (b:Nat) (a:IC) (Q:Exit->Sg->Prop) (σ:Sg):ID P G (.block b a) Q σ=ID P G a (Exit.Xb b Q) σ:=(rfl)
theorem AAX (P:Program) (G:Gi) (a:Nat) (Q:Exit->Sg->Prop) (σ:Sg):ID P G (.exit a) Q σ=Q (.exit a) σ:=(rfl)
theorem awp_ret (P:Program) (G:Gi) (Q:Exit->Sg->Prop) (σ:Sg):ID P G .ret Q σ=Q .ret σ:=(rfl)
theorem gU (P:Program) (G:Gi) (c:Ar) (a b:IC) (Q:Exit->Sg->Prop) (σ:Sg):ID P G (.cond c a b) Q σ=match ar σ c with
 | .sc (.bool x)=>if x=true then ID P G a Q σ else ID P G b Q σ
 |_=>False:=rfl
theorem AAY {P:Program} {G:Gi} {a:IC} {Q:Exit->Sg->Prop} {σ:Sg} (I:Nat->Sg->Prop) (n:Nat) (h:I n σ)
 (b:∀n τ,I n τ->ID P G a (Exit.RH (λc=>∃d,d<n/\I d c) Q) τ):ID P G (.loop a) Q σ:=⟨I,⟨n,h⟩,b⟩
theorem lC (next:Sg->Prop) (Q:Exit->Sg->Prop) (σ:Sg):Exit.RH next Q .normal σ=next σ:=(rfl)
theorem xS (next:Sg->Prop) (Q:Exit->Sg->Prop) (a:Nat) (σ:Sg):Exit.RH next Q (.exit a) σ=Q (.exit a) σ:=(rfl)
theorem seqA_ret (next:Sg->Prop) (Q:Exit->Sg->Prop) (σ:Sg):Exit.RH next Q .ret σ=Q .ret σ:=(rfl)
theorem Zb (a:Nat) (Q:Exit->Sg->Prop) (σ:Sg):Exit.Xb a Q .normal σ=Q .normal σ:=(rfl)
theorem PY (a i:Nat) (Q:Exit->Sg->Prop) (σ:Sg):Exit.Xb a Q (.exit i) σ=if i=a then Q .normal σ else Q (.exit i) σ:=(rfl)
theorem mW (a:Nat) (Q:Exit->Sg->Prop) (σ:Sg):Exit.Xb a Q .ret σ=Q .ret σ:=(rfl)
inductive RV where
 |tmp (t:Nat)
 |cell (a:Nat) (agg:Bool) (n:Nat)
 deriving Inhabited
def GH (G:Gi):List RV->Sg->Option (List AV×Sg)
 |[],σ=>some ([],σ)
 | .tmp t::l,σ=>match tk G (.t t) σ with
  |some (v,τ)=>match GH G l τ with
   |some (vs,τ')=>some (v::vs,τ')
   |none=>none
  |none=>none
 | .cell a agg n::l,σ=>match σ a with
  | .own true _ [row]=>match It agg n row with
   |some v=>match GH G l (DZ (Jr G a σ) a .dead)with
    |some (vs,τ')=>some (v::vs,τ')
    |none=>none
   |none=>none
  |_=>none
def one:List AV->AV
 |[v]=>v
 |vs=>.BM vs
def Ends (G:Gi) (rs:List RV) (res:AV) (e:Exit) (σ:Sg):Prop:=
 (match e with| .normal=>True| .ret=>True|_=>False)/\∃vs τ,GH G rs σ=some (vs,τ)/\one vs=res
def start (args:List AV):Sg:=λs=>args.getD s .un
end Go.Abs
namespace Go.Abs
variable {w w':World} {S S':Nat->Prop} {F F':Nat->Prop} {G:Gi} {δ δ':Nat->DV} {Fr:Nat->Nat->Prop}
theorem YC (n d r:Nat) (p:List Step):FG n d (.al r p)=if r=d/\n≤p.length then .dead else .al r p:=by simp[FG]
theorem Uq (n d r:Nat) (p:List Step) (i j k:Nat):FG n d (.K2 r p i j k)=if r=d/\n≤p.length then .dead else .K2 r p i j k:=by simp[FG]
@[simp]theorem bO (n d:Nat) (a:List AV):FG n d (.agg a)= .agg (a.map (FG n d)):=by simp[FG,bN]
@[simp]theorem bP (n d:Nat) (a:List AV):FG n d (.BM a)= .BM (a.map (FG n d)):=by simp[FG,bN]
theorem YE (n d s o:Nat) (a:List Value):FG n d (.vb s o a)=if s=d then .dead else .vb s o a:=by simp[FG]
theorem YD (n d f:Nat) (rs:List (Nat×List Step)):FG n d (.cl f rs)=if(rs.all λx=>x.1 != d)=true then .cl f rs else .dead:=by simp[FG]
@[simp]theorem bM (n d:Nat) (a:AV) (v:Value):Gd n d (.lf a v)= .lf (FG n d a) v:=by simp[Gd]
@[simp]theorem MC (n d:Nat) (h:Value) (b:Bool) (k:Nat) (rows:List (List DV)):Gd n d (.own h b k rows)= .own h b k rows:=by simp[Gd]
@[simp]theorem Kq (n d:Nat) (a:List DV):Gd n d (.agg a)= .agg (a.map (Gd n d)):=by simp[Gd,YB]
@[simp]theorem Kr (n d:Nat) (a:List DV):Gd n d (.BM a)= .BM (a.map (Gd n d)):=by simp[Gd,YB]
theorem Qk (L:List Nat) (n d:Nat):∀(a:AV),F9 L a=true->F9 L (FG n d a)=true
 | .al r p,h=>by
  rw[YC];split
  . simp
  . exact h
 | .K2 r p i j k,h=>by
  rw[Uq];split
  . simp
  . exact h
 | .agg cs,h=>by rw[KT,AAm]at h;rw[bO,KT,ABf,AAm];intro c b;exact Qk L n d c (h c b)
 | .BM cs,h=>by rw[OX,AAm]at h;rw[bP,OX,ABf,AAm];intro c b;exact Qk L n d c (h c b)
 | .sc _,_=>by simp[FG]
 | .sl ..,_=>by simp[FG]
 | .own ..,_=>by simp[FG]
 | .fp _,_=>by simp[FG]
 | .dead,_=>by simp[FG]
 | .un,_=>by simp[FG]
 | .nY ..,_=>by simp[FG,F9]
 | .vb s o us,h=>by
  rw[YE];split
  . simp
  . exact h
 | .cl f rs,h=>by
  rw[YD];split
  . exact h
  . simp
theorem oW {a:AV} (n d:Nat) {v:Value} (b:IA w S a v):IA w S (FG n d a) v:=by
 cases a with
 |al r p=>rw[YC];split<;>simp[IA]
 |K2 r p i j k=>rw[Uq];split<;>simp[IA]
 |cl f rs=>rw[YD];split<;>trivial
 |vb s o us=>rw[YE];split<;>first|trivial|exact b
 |agg cs=>exact b.elim
 |BM cs=>exact b.elim
 |own=>exact b.elim
 |_=>simpa[FG]using b
theorem Lm {x:DV} (n d:Nat) (h:Ok w S x F):(Gd n d x).er=FG n d x.er/\(Gd n d x).A0=x.A0/\Ok w S (Gd n d x) F:=by
 induction h with
 |lf a v F ha hF=>refine⟨by simp,by simp,?_⟩;rw[bM];exact .lf _ v F (oW n d ha) hF
 |nil k F hF=>exact⟨by simp[FG],by simp,by rw[MC];exact .nil k F hF⟩
 |own bx k rows b c arr E Fs F hb hk D6 Lk hv hr hd Bi KW hF ih=>exact⟨by simp[FG],by simp,by rw[MC];exact .own bx k rows b c arr E Fs F hb hk D6 Lk hv hr hd Bi KW hF⟩
 |agg cs Fs F hr hd Bi hF ih=>
  have key:∀e∈cs,(Gd n d e).er=FG n d e.er/\(Gd n d e).A0=e.A0:=by intro e f;obtain⟨i,hi⟩:=AA7 f;exact⟨(ih i e hi).1,(ih i e hi).2.1⟩
  refine⟨?_,?_,?_⟩
  . simp only[Kq,Hi,bO,List.map_map,AV.agg.injEq];exact List.map_congr_left λe f=>(key e f).1
  . simp only[Kq,KE,List.map_map];congr 2;exact List.map_congr_left λe f=>(key e f).2
  . rw[Kq];refine .agg _ Fs F ?_ hd ?_ hF
    . intro i e g;simp only[AAt,AA6]at g;obtain⟨j,l,rfl⟩:=g;exact(ih i j l).2.2
    . intro i x m;obtain⟨e,g⟩:=Bi i x m;exact⟨Gd n d e,by simp[g]⟩
 |BM cs Fs F hr hd Bi hF ih=>
  have key:∀e∈cs,(Gd n d e).er=FG n d e.er/\(Gd n d e).A0=e.A0:=by intro e f;obtain⟨i,hi⟩:=AA7 f;exact⟨(ih i e hi).1,(ih i e hi).2.1⟩
  refine⟨?_,?_,?_⟩
  . simp only[Kr,JY,bP,List.map_map,AV.BM.injEq];exact List.map_congr_left λe f=>(key e f).1
  . simp only[Kr,Lg,List.map_map];congr 2;exact List.map_congr_left λe f=>(key e f).2
  . rw[Kr];refine .BM _ Fs F ?_ hd ?_ hF
    . intro i e g;simp only[AAt,AA6]at g;obtain⟨j,l,rfl⟩:=g;exact(ih i j l).2.2
    . intro i x m;obtain⟨e,g⟩:=Bi i x m;exact⟨Gd n d e,by simp[g]⟩
theorem Dd.FG {x:DV} (n d:Nat) (h:Dd δ x) (g:aF x)
 (q:∀r p v bx k rows,(r≠d∨p.length<n)->Au (δ r) p=some (.own v bx k rows)->∃c,Au (δ' r) p=some (.own v bx k c)) (y:∀r,r≠d->(δ' r).A0=(δ r).A0):Dd δ' (Gd n d x):=by
 induction h with
 |lf a v h=>
  rw[bM];refine .lf _ v ?_;cases g with
  |lf _ _ g=>
   cases a with
   |al r p=>
    rw[YC];split
    . trivial
    . rename_i e;obtain⟨bx,k,rows,h⟩:=h;obtain⟨c,l⟩:=q r p v bx k rows (by omega) h;exact⟨bx,k,c,l⟩
   |K2 r p i j k=>
    rw[Uq];split
    . trivial
    . obtain⟨t,bx,rows,b,h,E,rfl⟩:=h;obtain⟨c,l⟩:=q r p t bx k rows (by omega) h;exact⟨t,bx,c,b,l,E,rfl⟩
   |vb s o us=>
    rw[YE];split
    . trivial
    . exact(y s (by assumption)).trans h
   |cl f rs=>
    rw[YD];split
    . rename_i w;obtain⟨vs,B,C,D⟩:=h;refine⟨vs,B,C,λi r p u hi G=> ?_⟩;obtain⟨bx,k,rows,F⟩:=D i r p u hi G;rw[AAm]at w;obtain⟨c,l⟩:=q r p u bx k rows (.inl (by simpa using w _ (AAu hi))) F;exact⟨bx,k,c,l⟩
    . trivial
   |agg cs=>simp[C9]at g
   |BM cs=>simp[C9]at g
   |own=>simp[C9]at g
   |_=>simp only[Abs.FG];trivial
 |own=>rw[MC];exact .own _ _ _ _
 |agg cs _ ih=>
  rw[Kq];cases g with
  |agg _ g=>refine .agg _ λi z hd=> ?_;simp only[AAt,AA6]at hd;obtain⟨e,m,rfl⟩:=hd;exact ih i e m (g i e m)
 |BM cs _ ih=>
  rw[Kr];cases g with
  |BM _ g=>refine .BM _ λi z hd=> ?_;simp only[AAt,AA6]at hd;obtain⟨e,m,rfl⟩:=hd;exact ih i e m (g i e m)
theorem St.Ql (h:St G w S δ Fr) (n d s:Nat):(EY G n d δ s).er=Fq G n d (λs=>(δ s).er) s:=by
 unfold EY Fq;split
 . exact(Lm n d (h.ok s)).1
 . rfl
theorem St.MD (h:St G w S δ Fr) (n d s:Nat):(EY G n d δ s).A0=(δ s).A0:=by
 unfold EY;split
 . exact(Lm n d (h.ok s)).2.1
 . rfl
theorem St.wD (h:St G w S δ Fr) (n d s:Nat):Ok w S (EY G n d δ s) (Fr s):=by
 unfold EY;split
 . exact(Lm n d (h.ok s)).2.2
 . exact h.ok s
theorem St.wE (h:St G w S δ Fr) (n d s:Nat):F9 (G.HI s) (EY G n d δ s).er=true:=by
 unfold EY;split
 . rw[(Lm n d (h.ok s)).1];exact Qk _ n d _ (h.rt s)
 . exact h.rt s
theorem Wh {t:DV} (n d:Nat) (q:List Step) {v:Value} {bx:Bool} {k:Nat} {rows:List (List DV)}:Abs.Au (Gd n d t) q=some (.own v bx k rows)↔Abs.Au t q=some (.own v bx k rows):=by
 induction q generalizing t with
 |nil=>simp only[Abs.Au,AAh];cases t<;>simp
 |cons s q ih=>
  obtain⟨i,j,e⟩:=s;cases t with
  |lf a v=>simp[Abs.Au]
  |own h b k1 Ju=>rw[MC]
  |agg cs=>
   simp only[Kq,Abs.Au,AAt];cases hj:cs[j]? with
   |none=>simp
   |some c=>simp only[AA9];exact ih
  |BM cs=>
   simp only[Kr,Abs.Au,AAt];cases hj:cs[j]? with
   |none=>simp
   |some c=>simp only[AA9];exact ih
theorem YF (n d r:Nat) (p:List Step) {v:Value} {bx:Bool} {k:Nat} {rows:List (List DV)}:Abs.Au (EY G n d δ r) p=some (.own v bx k rows)↔Abs.Au (δ r) p=some (.own v bx k rows):=by
 unfold EY;split
 . exact Wh n d p
 . exact AB7
theorem Nu {t z y:DV} (q:List Step):∀(p:List Step),q.length≤p.length->Di t p y=some z->(q.length=p.length->∀v bx k rows,Abs.Au t p=some (.own v bx k rows)->∃f,y= .own v bx k f)->∀{v:Value} {bx:Bool} {k:Nat} {rows:List (List DV)},Abs.Au t q=some (.own v bx k rows)->∃f,Abs.Au z q=some (.own v bx k f):=by
 induction q generalizing t z with
 |nil=>
  intro p u d w v bx k rows g;simp only[Abs.Au,AAh]at g;subst g
  match p,u with
  |[],_=>simp only[Di,AAh]at d;subst d;obtain⟨f,h⟩:=w rfl v bx k rows rfl;exact⟨f,by rw[h];rfl⟩
  | (i,j,D)::p,_=>
   simp only[Di]at d;split at d
   . split at d
     . split at d
       . simp only[AAh]at d;subst d;exact⟨_,by simp[Abs.Au];rfl⟩
       . cases d
     . cases d
   . cases d
 |cons s q ih=>
  intro p u d w v bx k rows g;obtain⟨i,j,D⟩:=s
  match p,u with
  | (i',j',k')::p,u=>
   have o:q.length≤p.length:=(by simpa using u);cases t with
   |lf a v=>simp[Abs.Au]at g
   |own h b k1 Ju=>
    simp only[Di]at d;split at d
    . rename_i E B;split at d
      . rename_i c n;split at d
        . rename_i c' r;simp only[AAh]at d;subst d;simp only[Abs.Au]at g ⊢;cases hi:Ju[i]? with
          |none=>simp[hi]at g
          |some row2=>
           simp only[hi]at g;cases hj:row2[j]? with
           |none=>simp[hj]at g
           |some c2=>
            simp only[hj]at g;have x:i<Ju.length:=(AAj.1 hi).1;have l:j<row2.length:=(AAj.1 hj).1;by_cases C:i'=i
            . subst C;rw[hi]at B;cases B;rw[AAk x];by_cases m:j'=j
              . subst m;rw[hj]at n;cases n;simp only[AAk l];exact ih p o r (λe v bx k rows h=>w (by simp[e]) v bx k rows (by simp only[Abs.Au,hi,hj];exact h)) g
              . simp only[AAn m,hj];exact⟨rows,g⟩
            . rw[AAn C];simp only[hi,hj];exact⟨rows,g⟩
        . cases d
      . cases d
    . cases d
   |agg cs=>
    simp only[Di]at d;split at d
    . rename_i c n;split at d
      . rename_i c' r;simp only[AAh]at d;subst d;simp only[Abs.Au]at g ⊢;cases hj:cs[j]? with
        |none=>simp[hj]at g
        |some c2=>
         simp only[hj]at g;have l:j<cs.length:=(AAj.1 hj).1;by_cases m:j'=j
         . subst m;rw[hj]at n;cases n;simp only[AAk l];exact ih p o r (λe v bx k rows h=>w (by simp[e]) v bx k rows (by simp only[Abs.Au,hj];exact h)) g
         . simp only[AAn m,hj];exact⟨rows,g⟩
      . cases d
    . cases d
   |BM cs=>
    simp only[Di]at d;split at d
    . rename_i c n;split at d
      . rename_i c' r;simp only[AAh]at d;subst d;simp only[Abs.Au]at g ⊢;cases hj:cs[j]? with
        |none=>simp[hj]at g
        |some c2=>
         simp only[hj]at g;have l:j<cs.length:=(AAj.1 hj).1;by_cases m:j'=j
         . subst m;rw[hj]at n;cases n;simp only[AAk l];exact ih p o r (λe v bx k rows h=>w (by simp[e]) v bx k rows (by simp only[Abs.Au,hj];exact h)) g
         . simp only[AAn m,hj];exact⟨rows,g⟩
      . cases d
    . cases d
theorem St.setn (h:St G w S δ Fr) (n d:Nat) (g:DV) (Fn:Nat->Prop) (H:∀b,S b->w'.heap[b]? =w.heap[b]?) (E:∀s,s≠d->∀x,Fr s x->w'.heap[x]? =w.heap[x]?)
 (C:∀b,S b->S' b) (D:∀s,s≠d->∀x,Fr s x->¬S' x) (hn:Ok w' S' g Fn) (y:∀s,s≠d->∀x,Fn x->¬Fr s x) (z:F9 (G.HI d) g.er=true) (B:Dd δ g)
 (u:∀p v bx k rows,p.length<n->Abs.Au (δ d) p=some (.own v bx k rows)->∃c,Abs.Au g p=some (.own v bx k c)):
 St G w' S' (DZ (EY G n d δ) d g) (DZ Fr d Fn):=by
 have o:∀r p v bx k rows,(r≠d∨p.length<n)->Abs.Au (δ r) p=some (.own v bx k rows)->∃c,Abs.Au (DZ (EY G n d δ) d g r) p=some (.own v bx k c):=by
  intro r p v bx k rows f l;by_cases e:r=d
  . subst e;rw[BI];exact u p v bx k rows (by omega) l
  . rw[Ba _ _ e];exact⟨rows,(YF n d r p).2 l⟩
 have q:∀r,r≠d->(DZ (EY G n d δ) d g r).A0=(δ r).A0:=by intro r f;rw[Ba _ _ f];exact h.MD n d r
 refine⟨?_,?_,?_,?_,h.self⟩
 . intro s;by_cases a:s=d
   . subst a;rw[BI,BI];exact hn
   . rw[Ba _ _ a,Ba _ _ a];exact(h.wD n d s).mono H (E s a) C (D s a)
 . intro s t x i j;by_cases a:s=d<;>by_cases m:t=d
   . omega
   . subst a;rw[BI]at i;rw[Ba _ _ m]at j;exact absurd j (y t m x i)
   . subst m;rw[BI]at j;rw[Ba _ _ a]at i;exact absurd i (y s a x j)
   . rw[Ba _ _ a]at i;rw[Ba _ _ m]at j;exact h.MT s t x i j
 . intro s;by_cases a:s=d
   . subst a;rw[BI];refine B.mono z (λr f p v bx k rows l=>o r p v bx k rows (.inl ?_) l) (λr f=>q r ?_)
     . rintro rfl;exact h.self _ f
     . rintro rfl;exact h.self _ f
   . rw[Ba _ _ a];unfold EY;split
     . exact(h.al s).FG n d (h.ok s).LD o q
     . rename_i hn;have hd:d∉G.HI s:=λF=>hn (Gi.rR F);refine(h.al s).mono (h.rt s) (λr f p v bx k rows l=>o r p v bx k rows (.inl ?_) l) (λr f=>q r ?_)
       . rintro rfl;exact hd f
       . rintro rfl;exact hd f
 . intro s;by_cases a:s=d
   . subst a;rw[BI];exact z
   . rw[Ba _ _ a];exact h.wE n d s
end Go.Abs
namespace Go.Abs
variable {w w':World} {S S':Nat->Prop} {G:Gi} {δ:Nat->DV} {Fr:Nat->Nat->Prop}
structure Nx (w:World) (S U:Nat->Prop) (w':World) (S' U':Nat->Prop):Prop where
 os:w'.os=w.os
 tape:w'.tape=w.tape
 output:w'.output=w.output
 size:w.heap.size≤w'.heap.size
 block:∀b,b<w.heap.size->¬U b->w'.heap[b]? =w.heap[b]?
 sub:∀b,S b->S' b
 sup:∀b,S' b->S b∨U b∨w.heap.size≤b
 lt:(∀b,S b->b<w.heap.size)->∀b,S' b->b<w'.heap.size
 own:∀x,U' x->U x∨w.heap.size≤x
theorem Nx.refl (w:World) (S U:Nat->Prop):Nx w S U w S U:=
 ⟨rfl,rfl,rfl,AA8 _,λ_ _ _=>rfl,λ_ h=>h,λ_ h=>.inl h,λh=>h,λ_ h=>.inl h⟩
theorem Nx.less {w:World} {S U a:Nat->Prop} (h:∀x,a x->U x):Nx w S U w S a:=
 ⟨rfl,rfl,rfl,AA8 _,λ_ _ _=>rfl,λ_ h=>h,λ_ h=>.inl h,λh=>h,λx b=>.inl (h x b)⟩
theorem Nx.trans {w j l:World} {S S1 S2 U U1 g:Nat->Prop} (h:Nx w S U j S1 U1) (k:Nx j S1 U1 l S2 g):Nx w S U l S2 g:=by
 refine⟨k.os.trans h.os,k.tape.trans h.tape,k.output.trans h.output,ABc h.size k.size,?_,λb c=>k.sub b (h.sub b c),?_,λm b c=>k.lt (h.lt m) b c,?_⟩
 . intro b c i;rw[k.block b (ABk c h.size) ?_,h.block b c i];intro e;rcases h.own b e with a|a
   . exact i a
   . omega
 . intro b c;have f:=h.size;rcases k.sup b c with a|a|a
   . exact h.sup b a
   . rcases h.own b a with d|d
     . exact .inr (.inl d)
     . exact .inr (.inr d)
   . exact .inr (.inr (ABc f a))
 . intro x n;have f:=h.size;rcases k.own x n with a|a
   . exact h.own x a
   . exact .inr (ABc f a)
abbrev BE (Fr:Nat->Nat->Prop):Nat->Prop:=λx=>∃s,Fr s x
theorem kills_eq (d:Nat) (σ:Sg):Js (G.Oj d) d σ=Jr G d σ:=by
 unfold Js Jr;split
 . rename_i h;funext s;simp[h]
 . rfl
theorem Dd.dead (v:Value):Dd δ (.lf .dead v):=.lf _ _ trivial
theorem St.empty (h:St G w S δ Fr) (s:Nat):
 St G w S (DZ (Hb G s δ) s (.lf .dead (δ s).A0)) (DZ Fr s λ_=>False):=by
 refine h.set s _ _ (λ_ _=>rfl) (λ_ _ _ _=>rfl) (λ_ h=>h) (λt _ x a=>(h.ok t).E7 x a) (.lf _ _ _ trivial (λ_ h=>h)) (λ_ _ _ h=>h.elim) (by simp) (Dd.dead _)
theorem Ic (h:St G w S δ Fr) (d:Nat) (x:DV):(λs=>(DZ (Hb G d δ) d x s).er)=DZ (Jr G d (λs=>(δ s).er)) d x.er:=by
 funext s;by_cases a:s=d
 . subst a;simp[DZ]
 . simp only[DZ,a,AAx];exact h.jT d s
theorem IB (h:St G w S δ Fr) (d:Nat) (x:DV) (s:Nat):(DZ (Hb G d δ) d x s).A0=if s=d then x.A0 else(δ s).A0:=by
 by_cases a:s=d
 . subst a;simp[DZ]
 . simp only[DZ,a,AAx];exact h.Us d s
theorem VZ {t n:DV} {a:AV} {m:Value} (p:List Step) (e:Di t p (.lf a m)=some n) (q:List Step) {v:Value} {bx:Bool} {k:Nat} {rows:List (List DV)}
 (d:Au n q=some (.own v bx k rows)):∃f,Au t q=some (.own v bx k f):=by
 induction p generalizing t n q with
 |nil=>
  simp only[Di,AAh]at e;subst e;cases q with
  |nil=>simp[Au]at d
  |cons s q=>simp[Au]at d
 |cons s p ih=>
  obtain⟨i,j,w⟩:=s;cases t with
  |lf a v=>simp[Di]at e
  |own hh b k1 Ju=>
   simp only[Di]at e;cases hi:Ju[i]? with
   |none=>simp[hi]at e
   |some row=>
    simp only[hi]at e;cases hj:row[j]? with
    |none=>simp[hj]at e
    |some c=>
     simp only[hj]at e;cases hc:Di c p (.lf a m)with
     |none=>simp[hc]at e
     |some c'=>
      simp only[hc,AAh]at e;subst e;have r:=(AAj.1 hi).1;have g:=(AAj.1 hj).1;cases q with
      |nil=>simp only[Au,AAh,DV.own.injEq]at d;obtain⟨rfl,rfl,rfl,_⟩:=d;exact⟨_,rfl⟩
      |cons s2 q=>
       obtain⟨i2,l,o⟩:=s2;simp only[Au]at d ⊢;by_cases u:i2=i
       . subst u;simp only[AAk r]at d;simp only[hi];by_cases h:l=j
         . subst h;simp only[AAk g]at d;simp only[hj];exact ih hc q d
         . rw[AAn (by omega)]at d;exact⟨rows,d⟩
       . rw[AAn (by omega)]at d;exact⟨rows,d⟩
  |agg cs=>
   simp only[Di]at e;cases hj:cs[j]? with
   |none=>simp[hj]at e
   |some c=>
    simp only[hj]at e;cases hc:Di c p (.lf a m)with
    |none=>simp[hc]at e
    |some c'=>
     simp only[hc,AAh]at e;subst e;have g:=(AAj.1 hj).1;cases q with
     |nil=>simp[Au]at d
     |cons s2 q=>
      obtain⟨i2,l,o⟩:=s2;simp only[Au]at d ⊢;by_cases h:l=j
      . subst h;simp only[AAk g]at d;simp only[hj];exact ih hc q d
      . rw[AAn (by omega)]at d;exact⟨rows,d⟩
  |BM cs=>
   simp only[Di]at e;cases hj:cs[j]? with
   |none=>simp[hj]at e
   |some c=>
    simp only[hj]at e;cases hc:Di c p (.lf a m)with
    |none=>simp[hc]at e
    |some c'=>
     simp only[hc,AAh]at e;subst e;have g:=(AAj.1 hj).1;cases q with
     |nil=>simp[Au]at d
     |cons s2 q=>
      obtain⟨i2,l,o⟩:=s2;simp only[Au]at d ⊢;by_cases h:l=j
      . subst h;simp only[AAk g]at d;simp only[hj];exact ih hc q d
      . rw[AAn (by omega)]at d;exact⟨rows,d⟩
theorem My {t l new:DV} (p:List Step) (e:Di t p new=some l) (m:Dd δ t) (hn:Dd δ new):Dd δ l:=by
 induction p generalizing t l with
 |nil=>simp only[Di,AAh]at e;exact e▸hn
 |cons s p ih=>
  obtain⟨i,j,k⟩:=s;cases m with
  |lf a v h=>simp[Di]at e
  |own hh b k1 rows=>
   simp only[Di]at e;split at e
   . split at e
     . split at e
       . simp only[AAh]at e;subst e;exact .own _ _ _ _
       . cases e
     . cases e
   . cases e
  |agg cs hr=>
   simp only[Di]at e;split at e
   . rename_i c f;split at e
     . rename_i c' g;simp only[AAh]at e;subst e;refine .agg _ λi d hd=> ?_;by_cases hi:i=j
       . subst hi;rw[AAk (AAj.1 f).1]at hd;obtain rfl:=AAl hd;exact ih g (hr i c f)
       . rw[AAn (by omega)]at hd;exact hr i d hd
     . cases e
   . cases e
  |BM cs hr=>
   simp only[Di]at e;split at e
   . rename_i c f;split at e
     . rename_i c' g;simp only[AAh]at e;subst e;refine .BM _ λi d hd=> ?_;by_cases hi:i=j
       . subst hi;rw[AAk (AAj.1 f).1]at hd;obtain rfl:=AAl hd;exact ih g (hr i c f)
       . rw[AAn (by omega)]at hd;exact hr i d hd
     . cases e
   . cases e
theorem MH {L:List Nat} {t m new:DV} (p:List Step) (d:Di t p new=some m) (e:F9 L t.er=true) (hn:F9 L new.er=true):F9 L m.er=true:=by
 induction p generalizing t m with
 |nil=>simp only[Di,AAh]at d;exact d▸hn
 |cons s p ih=>
  obtain⟨i,j,k⟩:=s;cases t with
  |lf a v=>simp[Di]at d
  |own hh b k1 rows=>
   simp only[Di]at d;split at d
   . split at d
     . split at d
       . simp only[AAh]at d;subst d;simp
       . cases d
     . cases d
   . cases d
  |agg cs=>
   simp only[Di]at d;split at d
   . rename_i c g;split at d
     . rename_i c' f;simp only[AAh]at d;subst d;simp only[Hi,KT,ABf,AAm]at e ⊢;intro x l;rcases ABB l with h|rfl
       . exact e x h
       . exact ih f (e c (AAu g))
     . cases d
   . cases d
  |BM cs=>
   simp only[Di]at d;split at d
   . rename_i c g;split at d
     . rename_i c' f;simp only[AAh]at d;subst d;simp only[JY,OX,ABf,AAm]at e ⊢;intro x l;rcases ABB l with h|rfl
       . exact e x h
       . exact ih f (e c (AAu g))
     . cases d
   . cases d
theorem St.replace {n:DV} (h:St G w S δ Fr) (r:Nat) (p:List Step) (C:Au (δ r) p=some n):
 ∃a,Ok w S n a/\(∀x,a x->Fr r x)/\∀(S':Nat->Prop) (new:DV),new.A0=n.A0->Ok w S' new (λ_=>False)->(∀b,S b->S' b)->(∀t b,Fr t b->¬a b->¬S' b)->
  (∀L,F9 L new.er=true)->Dd δ new->
  ∃t F',Di (δ r) p new=some t/\St G w S' (DZ (Hb G r δ) r t) (DZ Fr r F')/\(∀x,F' x↔Fr r x/\¬a x)/\t.A0=(δ r).A0:=by
 obtain⟨a,B,f,u⟩:=(h.ok r).replace p C;refine⟨a,B,f,?_⟩;intro S' new y hn g i v m;obtain⟨t,F',e,k,o,l⟩:=u w S' new (λ_=>False) y hn (λ_ h=>h.elim) (λ_ _=>rfl) (λ_ _ _=>rfl) g (λb z D=>i r b z D);have j:∀x,F' x↔Fr r x/\¬a x:=λx=>by rw[o x];simp
 refine⟨t,F',e,?_,j,l⟩;refine h.set r t F' (λ_ _=>rfl) (λ_ _ _ _=>rfl) g ?_ k ?_ (MH p e (h.rt r) (v _)) (My p e (h.al r) m)
 . intro s d x c;exact i s x c λE=>d (h.MT s r x c (f x E))
 . intro s d x c q;exact d (h.MT s r x q ((j x).1 c).1)
theorem OI (h:St G w S δ Fr) (n d:Nat) (x:DV):(λs=>(DZ (EY G n d δ) d x s).er)=DZ (Fq G n d (λs=>(δ s).er)) d x.er:=by
 funext s;by_cases a:s=d
 . subst a;simp[DZ]
 . simp only[DZ,a,AAx];exact h.Ql n d s
theorem NG (h:St G w S δ Fr) (n d:Nat) (x:DV) (s:Nat):(DZ (EY G n d δ) d x s).A0=if s=d then x.A0 else(δ s).A0:=by
 by_cases a:s=d
 . subst a;simp[DZ]
 . simp only[DZ,a,AAx];exact h.MD n d s
theorem St.kK {n:DV} (h:St G w S δ Fr) (r:Nat) (p:List Step) (I:Au (δ r) p=some n):
 ∃a,Ok w S n a/\(∀x,a x->Fr r x)/\∀(S':Nat->Prop) (new:DV),new.A0=n.A0->Ok w S' new (λ_=>False)->(∀b,S b->S' b)->(∀t b,Fr t b->¬a b->¬S' b)->
  (∀L,F9 L new.er=true)->Dd δ new->
  ∃t F',Di (δ r) p new=some t/\St G w S' (DZ (EY G p.length r δ) r t) (DZ Fr r F')/\(∀x,F' x↔Fr r x/\¬a x)/\t.A0=(δ r).A0:=by
 obtain⟨a,H,i,C⟩:=(h.ok r).replace p I;refine⟨a,H,i,?_⟩;intro S' new E hn j l D y;obtain⟨t,F',c,o,z,u⟩:=C w S' new (λ_=>False) E hn (λ_ h=>h.elim) (λ_ _=>rfl) (λ_ _ _=>rfl) j (λb F J=>l r b F J);have m:∀x,F' x↔Fr r x/\¬a x:=λx=>by rw[z x];simp
 refine⟨t,F',c,?_,m,u⟩;refine h.setn p.length r t F' (λ_ _=>rfl) (λ_ _ _ _=>rfl) j ?_ o ?_ (MH p c (h.rt r) (D _)) (My p c (h.al r) y) ?_
 . intro s f x d;exact l s x d λK=>f (h.MT s r x d (i x K))
 . intro s f x d B;exact f (h.MT s r x B ((m x).1 d).1)
 . intro q v bx k rows M g;exact Nu q p (by omega) c (λe=>absurd e (by omega)) g
theorem St.Z7 (h:St G w S δ Fr) {r:Nat} {p:List Step} {a:AV} {τ:Sg} (j:Abs.Z7 G r p (λs=>(δ s).er)=some (a,τ)):
 ∃g F' D Ff,St G w S g F'/\(λs=>(g s).er)=τ/\(∀s,(g s).A0=(δ s).A0)/\Ok w S D Ff/\D.er=a/\(∃v bx k rows,D= .own v bx k rows)/\Au (δ r) p=some D/\(∀s x,F' s x->¬Ff x)/\
  (∀x,BE F' x∨Ff x->BE Fr x)/\(∀q v bx k rows,Au (g r) q=some (.own v bx k rows)->∃f,Au (δ r) q=some (.own v bx k f))/\(∀s,s≠r->g s=EY G p.length r δ s):=by
 unfold Abs.Z7 at j;split at j
 . rename_i b k rows N;split at j
   . rename_i t M;simp only[AAh,AAv]at j;obtain⟨rfl,rfl⟩:=j;obtain⟨D,y,l⟩:=Dr (h.ok r).LD N;obtain⟨I,B,n,J⟩:=h.kK r p y;obtain⟨O,F',m,E,o,H⟩:=J S (.lf .dead D.A0) (by simp) (.lf _ _ _ trivial (λ_ h=>h)) (λ_ h=>h) (λt b L _=>(h.ok t).E7 b L) (by simp) (Dd.dead _);have P:O.er=t:=(by obtain⟨R,u,K⟩:=HS (d:=δ r) (p:=p) (a:=t) (.lf .dead D.A0) (h.ok r).LD (by simpa using M);rw[m]at u;obtain rfl:=AAl u;exact K);have F:∃v bx k rows,D= .own v bx k rows:=by
      have:=B.LD;cases D with
      |own v bx k rows=>exact⟨v,bx,k,rows,rfl⟩
      |lf a v=>cases this with|lf _ _ hl=>simp at l;subst l;simp[C9]at hl
      |agg cs=>simp at l
      |BM cs=>simp at l
     refine⟨_,_,D,I,E,by rw[OI h,P],?_,B,l,F,y,?_,?_,?_,λs i=>Ba _ _ i⟩
     . intro s;rw[NG h];split
       . rename_i e;rw[e,H]
       . rfl
     . intro s x c z;by_cases i:s=r
       . subst i;rw[BI]at c;exact((o x).1 c).2 z
       . rw[Ba _ _ i]at c;exact i (h.MT s r x c (n x z))
     . rintro x (⟨s,c⟩|c)
       . by_cases i:s=r
         . subst i;rw[BI]at c;exact⟨s,((o x).1 c).1⟩
         . rw[Ba _ _ i]at c;exact⟨s,c⟩
       . exact⟨r,n x c⟩
     . intro q v bx Q f C;rw[BI]at C;exact VZ p m q C
   . cases j
 . cases j
end Go.Abs
namespace Go.Abs
variable {w w':World} {S S':Nat->Prop} {G:Gi} {δ:Nat->DV} {Fr:Nat->Nat->Prop}
theorem eP {t:DV} (d:Nat) (q:List Step) {v:Value} {bx:Bool} {k:Nat} {rows:List (List DV)} (e:Au (Ha d t) q=some (.own v bx k rows)):Au t q=some (.own v bx k rows):=by
 induction q generalizing t with
 |nil=>
  simp only[Au,AAh]at e ⊢;cases t with
  |lf a v=>simp at e
  |own=>simpa using e
  |agg=>simp at e
  |BM=>simp at e
 |cons s q ih=>
  obtain⟨i,j,f⟩:=s;cases t with
  |lf a v=>simp[Au]at e
  |own h b k1 Ju=>rw[Np]at e;exact e
  |agg cs=>
   simp only[Ko,Au,AAt]at e ⊢;cases hj:cs[j]? with
   |none=>simp[hj]at e
   |some c=>simp only[hj,AA9]at e ⊢;exact ih e
  |BM cs=>
   simp only[Kp,Au,AAt]at e ⊢;cases hj:cs[j]? with
   |none=>simp[hj]at e
   |some c=>simp only[hj,AA9]at e ⊢;exact ih e
theorem Tv (d r:Nat) (q:List Step) {v:Value} {bx:Bool} {k:Nat} {rows:List (List DV)} (a:Au (Hb G d δ r) q=some (.own v bx k rows)):Au (δ r) q=some (.own v bx k rows):=by
 unfold Hb at a;split at a
 . exact eP d q a
 . exact a
def Hd (δ δ':Nat->DV):Prop:=∀r q v bx k rows,Au (δ' r) q=some (.own v bx k rows)->∃rows',Au (δ r) q=some (.own v bx k rows')
theorem Hd.refl (δ:Nat->DV):Hd δ δ:=λ_ _ _ _ _ rows h=>⟨rows,h⟩
theorem Hd.trans {δ c a:Nat->DV} (h:Hd δ c) (k:Hd c a):Hd δ a:=by intro r q v bx d rows f;obtain⟨b,e⟩:=k r q v bx d rows f;exact h r q v bx d b e
def Jm (w:World) (S:Nat->Prop):List DV->(Nat->Prop)->Prop
 |[],F=>∀x,¬F x
 |d::ds,F=>∃F1 F2,Ok w S d F1/\Jm w S ds F2/\(∀x,F1 x->¬F2 x)/\∀x,F x↔F1 x∨F2 x
def zP (w:World) (S:Nat->Prop) (cs:List DV) (F:Nat->Prop):Prop:=
 ∃Fs:Nat->Nat->Prop,(∀(i:Nat) d,cs[i]? =some d->Ok w S d (Fs i))/\(∀i i' x,Fs i x->Fs i' x->i=i')/\(∀i x,Fs i x->∃d,cs[i]? =some d)/\(∀x,F x↔∃i,Fs i x)
theorem KB {n:List DV} {F:Nat->Prop}:Jm w S n F↔zP w S n F:=by
 induction n generalizing F with
 |nil=>
  constructor
  . intro h;exact⟨λ_ _=>False,by simp,λ_ _ _ h=>h.elim,λ_ _ h=>h.elim,λx=>⟨λc=>absurd c (h x),λ⟨_,h⟩=>h.elim⟩⟩
  . rintro⟨g,q,r,m,p⟩ x c;obtain⟨i,hi⟩:=(p x).1 c;obtain⟨d,hd⟩:=m i x hi;simp at hd
 |cons d ds ih=>
  constructor
  . rintro⟨t,u,q,r,m,p⟩;obtain⟨g,l,g2,o,j⟩:=ih.1 r;refine⟨λi=>match i with|0=>t|i+1=>g i,?_,?_,?_,?_⟩
    . intro i e f;cases i with
      |zero=>simp only[ABO,AAh]at f;exact f▸q
      |succ i=>simp only[ABT]at f;exact l i e f
    . intro i s x c k;cases i<;>cases s
      . rfl
      . exact absurd ((j x).2 ⟨_,k⟩) (m x c)
      . exact absurd ((j x).2 ⟨_,c⟩) (m x k)
      . rename_i a b;rw[g2 a b x c k]
    . intro i x c;cases i with
      |zero=>exact⟨d,rfl⟩
      |succ i=>obtain⟨e,f⟩:=o i x c;exact⟨e,by simpa using f⟩
    . intro x;rw[p x];constructor
      . rintro(h|h)
        . exact⟨0,h⟩
        . obtain⟨i,hi⟩:=(j x).1 h;exact⟨i+1,hi⟩
      . rintro⟨i,hi⟩;cases i with
        |zero=>exact .inl hi
        |succ i=>exact .inr ((j x).2 ⟨i,hi⟩)
  . rintro⟨g,l,g2,o,j⟩;refine⟨g 0,λx=>∃i,g (i+1) x,l 0 d rfl,ih.2 ⟨λi=>g (i+1),?_,?_,?_,λx=>AB7⟩,?_,?_⟩
    . intro i e f;exact l (i+1) e (by simpa using f)
    . intro i s x c k;have:=g2 _ _ x c k;omega
    . intro i x c;obtain⟨e,f⟩:=o _ x c;exact⟨e,by simpa using f⟩
    . rintro x c ⟨i,hi⟩;have:=g2 _ _ x c hi;omega
    . intro x;rw[j x];constructor
      . rintro⟨i,hi⟩;cases i with
        |zero=>exact .inl hi
        |succ i=>exact .inr ⟨i,hi⟩
      . rintro(h|⟨i,h⟩)
        . exact⟨0,h⟩
        . exact⟨i+1,h⟩
theorem B2 {b:List DV} {F:Nat->Prop}:Ok w S (.agg b) F↔Jm w S b F:=by
 rw[KB];constructor
 . intro h;cases h with
   |agg _ a _ c d e f=>exact⟨a,c,d,e,f⟩
 . rintro⟨a,c,d,e,f⟩;exact .agg b a F c d e f
theorem A8 {b:List DV} {F:Nat->Prop}:Ok w S (.BM b) F↔Jm w S b F:=by
 rw[KB];constructor
 . intro h;cases h with
   |BM _ a _ c d e f=>exact⟨a,c,d,e,f⟩
 . rintro⟨a,c,d,e,f⟩;exact .BM b a F c d e f
theorem Jm.mono {a:List DV} {F:Nat->Prop} (h:Jm w S a F) (e:∀b,S b->w'.heap[b]? =w.heap[b]?) (d:∀b,F b->w'.heap[b]? =w.heap[b]?) (c:∀b,S b->S' b) (hn:∀x,F x->¬S' x):Jm w' S' a F:=
 B2.1 ((B2.2 h).mono e d c hn)
theorem St.lU {y:Nat->DV} (ds:List DV):∀{δ:Nat->DV} {Fr:Nat->Nat->Prop} {F:Nat->Prop} {l:List AV} {τ:Sg},St G w S δ Fr->Jm w S ds F->(∀d∈ds,Dd y d)->Hd y δ->(∀s x,Fr s x->¬F x)->
 Abs.lU G (ds.map DV.er) (λs=>(δ s).er)=some (l,τ)->
 ∃o F' C Ff,St G w S o F'/\(λs=>(o s).er)=τ/\(∀s,(o s).A0=(δ s).A0)/\Jm w S C Ff/\C.map DV.er=l/\C.map DV.A0=ds.map DV.A0/\(∀s x,F' s x->¬Ff x)/\
  (∀x,BE F' x∨Ff x->BE Fr x∨F x)/\Hd y o/\(∀a∈l,Fj a=true):=by
 induction ds with
 |nil=>intro δ Fr F l τ h T W N J c;simp only[ABF,Abs.lU,AAh,AAv]at c;obtain⟨rfl,rfl⟩:=c;exact⟨δ,Fr,[],F,h,rfl,λ_=>rfl,T,rfl,rfl,J,λx b=>b,N,by simp⟩
 |cons d ds ih=>
  intro δ Fr F l τ h T W N J c;obtain⟨U,V,hd,Ja,h12,j⟩:=T;have O:=W d (by simp);have z:∀e∈ds,Dd y e:=λe he=>W e (by simp[he]);simp only[AAy,Abs.lU]at c;cases RR:d.er with
  |al r p=>
   simp only[RR]at c;split at c
   . rename_i n τ1 ht1;split at c
     . rename_i l' τ' H;simp only[AAh,AAv]at c;obtain⟨rfl,rfl⟩:=c;obtain⟨δ1,F1',D,Ff,CJ,JU,Dh,hD,Fk,⟨v,bx,k,rows,rfl⟩,Bx,bF,M,P,V2⟩:=h.Z7 ht1;have hH:Hd δ δ1:=by
        intro r' q v bx k rows E;by_cases hr:r'=r
        . subst hr;exact P q v bx k rows E
        . rw[V2 r' hr]at E;exact⟨rows,(YF _ r r' q).1 E⟩
       subst JU;have g:∀s x,F1' s x->¬V x:=(by intro s x b L;obtain⟨t,c⟩:=M x (.inl ⟨s,b⟩);exact J t x c ((j x).2 (.inr L)));obtain⟨I,F2',C,Fd,X,Rx,Ml,Zi,Pj,jE,Mm,B,i,R⟩:=ih CJ Ja z (N.trans hH) g H;have hv:v=d.A0:=by
        cases d with
        |lf a u=>
         simp only[Ei]at RR;subst RR;cases O with
         |lf _ _ hl=>obtain⟨fN,k',rows',hl⟩:=hl;obtain⟨Q,E⟩:=N r p v bx k rows Bx;rw[hl]at E;simp only[AAh,DV.own.injEq]at E;simp[E.1]
        |own=>simp at RR
        |agg=>simp at RR
        |BM=>simp at RR
       have hFf:∀x,Ff x->¬V x:=(by intro x b L;obtain⟨t,c⟩:=M x (.inr b);exact J t x c ((j x).2 (.inr L)));have K:∀x,BE F2' x∨Fd x->¬Ff x:=by
        intro x b f;rcases B x b with⟨s,hs⟩|h2
        . exact bF s x hs f
        . exact hFf x f h2
       refine⟨I,F2',.own v bx k rows::C,λx=>Ff x∨Fd x,X,Rx,λs=>(Ml s).trans (Dh s),⟨Ff,Fd,hD,Zi,λx b Z=>K x (.inr Z) b,λx=>AB7⟩,?_,?_,?_,?_,i,?_⟩
       . simp only[AAy,Fk,Pj]
       . simp only[AAy,jE,Kz,hv]
       . rintro s x b (f|f)
         . exact K x (.inl ⟨s,b⟩) f
         . exact Mm s x b f
       . rintro x (b|b|b)
         . rcases B x (.inl b)with h1|h1
           . exact .inl (M x (.inl h1))
           . exact .inr ((j x).2 (.inr h1))
         . exact .inl (M x (.inr b))
         . rcases B x (.inr b)with h1|h1
           . exact .inl (M x (.inl h1))
           . exact .inr ((j x).2 (.inr h1))
       . intro a m;simp only[ABH]at m;rcases m with rfl|m
         . rw[← Fk];simp[Fj]
         . exact R a m
     . cases c
   . cases c
  |_=>
   simp only[RR]at c;split at c
   . rename_i hc;split at c
     . rename_i l' τ' H;simp only[AAh,AAv]at c;obtain⟨rfl,rfl⟩:=c;have g:∀s x,Fr s x->¬V x:=λs x b L=>J s x b ((j x).2 (.inr L));obtain⟨I,F2',C,Fd,X,Rx,Ml,Zi,Pj,jE,Mm,B,i,R⟩:=ih h Ja z N g H;have K:∀x,BE F2' x∨Fd x->¬U x:=by
        intro x b f;rcases B x b with⟨s,hs⟩|h2
        . exact J s x hs ((j x).2 (.inl f))
        . exact h12 x f h2
       refine⟨I,F2',d::C,λx=>U x∨Fd x,X,Rx,Ml,⟨U,Fd,hd,Zi,λx b Z=>K x (.inr Z) b,λx=>AB7⟩,?_,?_,?_,?_,i,?_⟩
       . simp only[AAy,RR,Pj]
       . simp only[AAy,jE]
       . rintro s x b (f|f)
         . exact K x (.inl ⟨s,b⟩) f
         . exact Mm s x b f
       . rintro x (b|b|b)
         . rcases B x (.inl b)with h1|h1
           . exact .inl h1
           . exact .inr ((j x).2 (.inr h1))
         . exact .inr ((j x).2 (.inl b))
         . rcases B x (.inr b)with h1|h1
           . exact .inl h1
           . exact .inr ((j x).2 (.inr h1))
       . intro a m;simp only[ABH]at m;rcases m with rfl|m
         . exact hc
         . exact R a m
     . cases c
   . cases c
end Go.Abs
namespace Go.Abs
variable {w w':World} {S S':Nat->Prop} {G:Gi} {δ:Nat->DV} {Fr:Nat->Nat->Prop}
mutual
def JE:AV->AB8 DV
 | .sc v=>if Ge v=true then some (.lf (.sc v) v)else none
 | .own false k []=>some (.own (.slice none 0 0) false k [])
 | .sl x k []=>some (.lf (.sl x k []) (.slice none 0 0))
 | .agg cs=>match Xj cs with
  |some ds=>some (.agg ds)
  |none=>none
 |_=>none
def Xj:List AV->AB8 (List DV)
 |[]=>some []
 |a::r=>match JE a with
  |some d=>match Xj r with
   |some ds=>some (d::ds)
   |none=>none
  |none=>none
end
theorem Iu (a:AV):∀D,JE a=some D->D.er=a/\Ok w S D (λ_=>False)/\Dd δ D/\(∀L,F9 L a=true):=by
 refine AV.rec (motive_1:=λa=>∀D,JE a=some D->D.er=a/\Ok w S D (λ_=>False)/\Dd δ D/\(∀L,F9 L a=true)) (motive_2:=λ_=>True)
  (motive_3:=λl=>∀ds,Xj l=some ds->ds.map DV.er=l/\Jm w S ds (λ_=>False)/\(∀d∈ds,Dd δ d)/\(∀L,QG L l=true)) ?_ ?_ ?_ ?_ ?_ ?_ ?_ ?_ ?_ ?_ ?_ ?_ ?_ ?_ ?_ ?_ ?_ a
 . intro v D h;simp only[JE]at h;split at h
   . rename_i G;obtain rfl:=Option.some.inj h;exact⟨by simp,.lf _ _ _ ⟨rfl,G⟩ (λ_ h=>h),.lf _ _ trivial,by simp⟩
   . cases h
 . intro x k rows _ D h;cases rows with
   |nil=>simp only[JE]at h;obtain rfl:=Option.some.inj h;exact⟨by simp,.lf _ _ _ (Fz.nil x k none 0 (λ_=>rfl)) (λ_ h=>h),.lf _ _ trivial,by simp⟩
   |cons r rs=>simp[JE]at h
 . intro b k rows _ D h;cases b with
   |true=>simp[JE]at h
   |false=>
    cases rows with
    |nil=>simp only[JE]at h;obtain rfl:=Option.some.inj h;exact⟨by simp,.nil k _ (λ_ h=>h),.own _ _ _ _,by simp⟩
    |cons r rs=>simp[JE]at h
 . intro y H D h;simp only[JE]at h;split at h
   . rename_i ds g;obtain rfl:=Option.some.inj h;obtain⟨m,n,q,t⟩:=H ds g;refine⟨by simp[m],B2.2 n,.agg _ λi d hd=>q d (List.mem_of_getElem? hd),λL=>by simp only[F9];exact t L⟩
   . cases h
 . intro y _ D h;simp[JE]at h
 . intro r p D h;simp[JE]at h
 . intro r p i j k D h;simp[JE]at h
 . intro y _ D h;simp[JE]at h
 . intro D h;simp[JE]at h
 . intro D h;simp[JE]at h
 . intro f rs D h;simp[JE]at h
 . intro s o J D h;simp[JE]at h
 . intro f I _ D h;simp[JE]at h
 . trivial
 . intros;trivial
 . intro ds h;simp only[Xj,Option.some.injEq]at h;subst h;exact⟨rfl,λ_ h=>h,by simp,λL=>by simp[QG]⟩
 . intro a l B u ds h;simp only[Xj]at h;split at h
   . rename_i d hd;split at h
     . rename_i z g;obtain rfl:=Option.some.inj h;obtain⟨m,n,q,t⟩:=B d hd;obtain⟨C,g2,E,F⟩:=u z g;refine⟨by simp[m,C],⟨_,_,n,g2,λ_ h=>h.elim,λx=>by simp⟩,?_,λL=>by simp[QG,t L,F L]⟩;intro e c;simp only[List.mem_cons]at c;rcases c with rfl|c
       . exact q
       . exact E e c
     . cases h
   . cases h
def XE:Ar->Prop
 | .t _=>True
 | .c a=>∃D,JE a=some D
def C7 (δ:Nat->DV):Ar->Value
 | .t s=>(δ s).A0
 | .c a=>match JE a with
  |some D=>D.A0
  |none=>undef
theorem Rj {ds:List DV} (c:∀a∈ds.map DV.er,Fj a=true):∀d∈ds,Dd δ d:=by
 intro d hd;have b:=c d.er (List.mem_map_of_mem hd);cases d with
 |lf a v=>refine .lf a v ?_;simp only[Ei]at b;cases a<;>simp_all [Fj,ND]
 |own=>exact .own _ _ _ _
 |agg cs=>simp[Fj]at b
 |BM cs=>simp[Fj]at b
structure Fly (G:Gi) (w:World) (S:Nat->Prop) (δ:Nat->DV) (Fr:Nat->Nat->Prop) (δ':Nat->DV) (F':Nat->Nat->Prop) (D:DV) (Ff:Nat->Prop):Prop where
 st:St G w S δ' F'
 A0:∀s,(δ' s).A0=(δ s).A0
 ok:Ok w S D Ff
 al:Dd δ' D
 MT:∀s x,F' s x->¬Ff x
 own:∀x,BE F' x∨Ff x->BE Fr x
theorem St.tk (h:St G w S δ Fr) {x:Ar} {a:AV} {τ:Sg} (m:XE x) (g:Abs.tk G x (λs=>(δ s).er)=some (a,τ)):
 ∃z F' D Ff,Fly G w S δ Fr z F' D Ff/\(λs=>(z s).er)=τ/\D.er=a/\D.A0=C7 δ x:=by
 cases x with
 |c c=>obtain⟨D,O⟩:=m;simp only[Abs.tk,Option.some.injEq,Prod.mk.injEq]at g;obtain⟨rfl,rfl⟩:=g;obtain⟨V,W,h3,_⟩:=Iu (w:=w) (S:=S) (δ:=δ) c D O;exact⟨δ,Fr,D,_,⟨h,λ_=>rfl,W,h3,λ_ _ _ h=>h,λx m=>m.elim id False.elim⟩,rfl,V,by simp[C7,O]⟩
 |t s=>
  simp only[Abs.tk]at g;have jD:∀b,(δ s).er=b->C9 b=true->∃v,δ s= .lf b v:=by
   intro b n y
   have:=(h.ok s).LD;cases hd:δ s with
   |lf c v=>rw[hd]at n;simp at n;exact⟨v,by rw[n]⟩
   |own=>rw[hd]at n;simp at n;subst n;simp[C9]at y
   |agg=>rw[hd]at n;simp at n;subst n;simp[C9]at y
   |BM=>rw[hd]at n;simp at n;subst n;simp[C9]at y
  have Q:∀b,(δ s).er=b->C9 b=true->∃z F' D Ff,Fly G w S δ Fr z F' D Ff/\(λs=>(z s).er)=(λs=>(δ s).er)/\D.er=b/\D.A0=C7 δ (.t s):=by
   intro b n y;obtain⟨v,hv⟩:=jD b n y;have B:=h.ok s;rw[hv]at B;cases B with
   |lf _ _ _ ha hF=>exact⟨δ,Fr,.lf b v,λ_=>False,⟨h,λ_=>rfl,.lf _ _ _ ha (λ_ h=>h),hv▸h.al s,λ_ _ _ h=>h,λx m=>m.elim id False.elim⟩,rfl,by simp,by simp[C7,hv]⟩
  cases hs:(δ s).er with
  |al r p=>
   simp only[hs]at g;obtain⟨δ1,F1,D,Ff,K,JU,Dh,O,Fk,⟨v,bx,k,rows,rfl⟩,R,T,D8,X2,V2⟩:=h.Z7 g;refine⟨δ1,F1,_,Ff,⟨K,Dh,O,.own _ _ _ _,T,D8⟩,JU,Fk,?_⟩;obtain⟨u,hu⟩:=jD _ hs rfl;have G4:=h.al s;rw[hu]at G4;cases G4 with
   |lf _ _ y=>obtain⟨fN,k',rows',y⟩:=y;rw[y]at R;simp only[Option.some.injEq,DV.own.injEq]at R;simp[C7,hu,R.1]
  |own b k rows=>
   simp only[hs,Option.some.injEq,Prod.mk.injEq]at g;obtain⟨rfl,rfl⟩:=g;have K:=h.empty s;refine⟨_,_,δ s,Fr s,⟨K,?_,h.ok s,?_,?_,?_⟩,by rw[Ic h];simp,hs,rfl⟩
   . intro t;rw[IB h];split
     . rename_i e;rw[e];simp
     . rfl
   . have:=(h.ok s).LD;cases hd:δ s with
     |own=>exact .own _ _ _ _
     |lf c v=>rw[hd]at hs this;cases this with|lf _ _ y=>simp at hs;subst hs;simp[C9]at y
     |agg=>rw[hd]at hs;simp at hs
     |BM=>rw[hd]at hs;simp at hs
   . intro t x m X;by_cases e:t=s
     . subst e;rw[BI]at m;exact m
     . rw[Ba _ _ e]at m;exact e (h.MT t s x m X)
   . rintro x (⟨t,m⟩|m)
     . by_cases e:t=s
       . subst e;rw[BI]at m;exact m.elim
       . rw[Ba _ _ e]at m;exact⟨t,m⟩
     . exact⟨s,m⟩
  |agg cs=>
   simp only[hs]at g;obtain⟨ds,H,N⟩:∃ds,δ s= .agg ds/\ds.map DV.er=cs:=by
    have:=(h.ok s).LD;cases hd:δ s with
    |agg ds=>rw[hd]at hs;simp at hs;exact⟨ds,rfl,hs⟩
    |lf c v=>rw[hd]at hs this;cases this with|lf _ _ y=>simp at hs;subst hs;simp[C9]at y
    |own=>rw[hd]at hs;simp at hs
    |BM=>rw[hd]at hs;simp at hs
   split at g
   . rename_i I;simp only[Option.some.injEq,Prod.mk.injEq]at g;obtain⟨rfl,rfl⟩:=g;have B:=h.ok s;rw[H]at B
     -- nothing is owned
     have C:Jm w S ds (λ_=>False):=by
      have E:=B2.1 B;clear B H;rw[← N]at I;clear N hs;generalize Fr s=F at E;induction ds generalizing F with
      |nil=>exactλ_ h=>h
      |cons d ds ih=>
       obtain⟨F1,U,V,W,_,_⟩:=E;simp only[List.map_cons,List.all_cons,Bool.and_eq_true]at I;refine⟨λ_=>False,λ_=>False,?_,ih I.2 U W,λ_ h=>h.elim,λx=>by simp⟩;cases V with
       |lf a v _ ha hF=>exact .lf a v _ ha (λ_ h=>h)
       |nil=>simp[Hl]at I
       |own=>simp[Hl]at I
       |agg=>simp[Hl]at I
       |BM=>simp[Hl]at I
     exact⟨δ,Fr,.agg ds,λ_=>False,⟨h,λ_=>rfl,B2.2 C,H▸h.al s,λ_ _ _ h=>h,λx m=>m.elim id False.elim⟩,rfl,by simp[N],by simp[C7,H]⟩
   . split at g
     . rename_i l τ' Z;simp only[Option.some.injEq,Prod.mk.injEq]at g;obtain⟨rfl,rfl⟩:=g;have K:=h.empty s;have B:=h.ok s;rw[H]at B;have L:∀d∈ds,Dd δ d:=by
        have:=h.al s;rw[H]at this;cases this with
        |agg _ hr=>intro d hd;obtain⟨i,hi⟩:=List.getElem?_of_mem hd;exact hr i d hi
       have hH:Hd δ (DZ (Hb G s δ) s (.lf .dead (δ s).A0)):=by
        intro r q v bx k rows P;by_cases e:r=s
        . subst e;rw[BI]at P;cases q<;>simp[Au]at P
        . rw[Ba _ _ e]at P;exact⟨rows,Tv s r q P⟩
       have T:∀t x,(DZ Fr s λ_=>False) t x->¬Fr s x:=by
        intro t x m X;by_cases e:t=s
        . subst e;rw[BI]at m;exact m
        . rw[Ba _ _ e]at m;exact e (h.MT t s x m X)
       have M:(λt=>(DZ (Hb G s δ) s (.lf .dead (δ s).A0) t).er)=DZ (Jr G s λs=>(δ s).er) s .dead:=(by rw[Ic h];simp);obtain⟨δ2,U,RN,Ff,KY,Rx,Ml,Zi,Pj,jE,Mm,Kc,_,Bo⟩:=K.lU ds (B2.1 B) L hH T (l:=l) (τ:=τ') (by rw[M,N];exact Z);refine⟨δ2,U,.agg RN,Ff,⟨KY,?_,B2.2 Zi,.agg _ λi d hd=> ?_,Mm,?_⟩,Rx,by simp[Pj],by simp[C7,H,jE]⟩
       . intro t;rw[Ml,IB h];split
         . rename_i e;rw[e];simp
         . rfl
       . exact Rj (by rw[Pj];exact Bo) d (List.mem_of_getElem? hd)
       . intro x m;rcases Kc x m with⟨t,J⟩|J
         . by_cases e:t=s
           . subst e;rw[BI]at J;exact J.elim
           . rw[Ba _ _ e]at J;exact⟨t,J⟩
         . exact⟨s,J⟩
     . cases g
  |sc v=>simp only[hs,Option.some.injEq,Prod.mk.injEq]at g;obtain⟨rfl,rfl⟩:=g;exact Q _ hs rfl
  |sl e k rows=>simp only[hs,Option.some.injEq,Prod.mk.injEq]at g;obtain⟨rfl,rfl⟩:=g;exact Q _ hs rfl
  |K2 r p i j k=>simp only[hs,Option.some.injEq,Prod.mk.injEq]at g;obtain⟨rfl,rfl⟩:=g;exact Q _ hs rfl
  |fp cs=>simp only[hs,Option.some.injEq,Prod.mk.injEq]at g;obtain⟨rfl,rfl⟩:=g;exact Q _ hs rfl
  |BM cs=>simp[hs]at g
  |dead=>simp[hs]at g
  |un=>simp[hs]at g
  |cl f rs=>simp[hs]at g
  |vb s o us=>simp[hs]at g
  |nY f Wt=>simp[hs]at g
theorem St.Qv (h:St G w S δ Fr) {r:Nat} {p:List Step} {a:AV} {τ:Sg} (i:Abs.Qv G r p (λs=>(δ s).er)=some (a,τ)):
 ∃(g:Nat->DV) (F':Nat->Nat->Prop) (f:Nat->Prop) (v:Value) (bx:Bool) (k:Nat) (rows:List (List DV)),St G w (λx=>S x∨f x) g F'/\(λs=>(g s).er)=τ/\(∀s,(g s).A0=(δ s).A0)/\Au (δ r) p=some (.own v bx k rows)/\Fz w (λx=>S x∨f x) a v/\
  a=JZ (DV.own v bx k rows).er/\(∀s x,F' s x->¬f x)/\(∀x,BE F' x∨f x->BE Fr x)/\Hd δ g:=by
 unfold Abs.Qv at i;split at i
 . rename_i b k rows V;split at i
   . rename_i t U;simp only[Option.some.injEq,Prod.mk.injEq]at i;obtain⟨rfl,rfl⟩:=i;obtain⟨D,C,l⟩:=Dr (h.ok r).LD V;obtain⟨f,F,y,O⟩:=h.replace r p C;have J:∃v bx k rows,D= .own v bx k rows:=by
      have:=F.LD;cases D with
      |own v bx k rows=>exact⟨v,bx,k,rows,rfl⟩
      |lf a v=>cases this with|lf _ _ hl=>simp at l;subst l;simp[C9]at hl
      |agg cs=>simp at l
      |BM cs=>simp at l
     obtain⟨v,bx,W,M,rfl⟩:=J;have u:Fz w (λx=>S x∨f x) (JZ (.own b k rows)) v:=(by have:=F.freeze;rw[l]at this;simpa using this);have Z:Ok w (λx=>S x∨f x) (.lf (JZ (.own b k rows)) v) (λ_=>False):=by
      refine .lf _ _ _ ?_ (λ_ h=>h);cases b with
      |true=>simp only[qW];trivial
      |false=>simp only[OK]at u ⊢;exact u
     obtain⟨X,F',n,I,z,K⟩:=O (λx=>S x∨f x) (.lf (JZ (.own b k rows)) v) (by simp) Z (λ_ h=>.inl h)
      (λt P T N R=>R.elim ((h.ok t).E7 P T) N) (by intro L;cases b<;>simp) (.lf _ _ (by cases b<;>simp[ND]))
     have vX:X.er=t:=(by obtain⟨t',B,Q⟩:=HS (d:=δ r) (p:=p) (a:=t) (.lf (JZ (.own b k rows)) v) (h.ok r).LD (by simpa using U);rw[n]at B;obtain rfl:=Option.some.inj B;exact Q);refine⟨_,_,f,v,bx,W,M,I,by rw[Ic h,vX],?_,C,u,by rw[l],?_,?_,?_⟩
     . intro s;rw[IB h];split
       . rename_i e;rw[e,K]
       . rfl
     . intro s x c E;by_cases m:s=r
       . subst m;rw[BI]at c;exact((z x).1 c).2 E
       . rw[Ba _ _ m]at c;exact m (h.MT s r x c (y x E))
     . rintro x (⟨s,c⟩|c)
       . by_cases m:s=r
         . subst m;rw[BI]at c;exact⟨s,((z x).1 c).1⟩
         . rw[Ba _ _ m]at c;exact⟨s,c⟩
       . exact⟨r,y x c⟩
     . intro H q v' fN k' j o;by_cases e:H=r
       . subst e;rw[BI]at o;exact VZ p n q o
       . rw[Ba _ _ e]at o;exact⟨j,Tv r H q o⟩
   . cases i
 . cases i
theorem St.wr (h:St G w S δ Fr) {dst:Dn} (g:dst.kl=G.Oj dst.d) (r:dst.rs=G.HI dst.d) {D:DV} {Ff:Nat->Prop} {σ':Sg} (q:∀b,S b->w'.heap[b]? =w.heap[b]?) (o:∀s x,Fr s x->w'.heap[x]? =w.heap[x]?)
 (l:∀b,S b->S' b) (m:∀s x,Fr s x->¬S' x) (n:Ok w' S' D Ff) (i:∀s x,Fr s x->¬Ff x) (j:Dd δ D) (f:Abs.wr dst D.er (λs=>(δ s).er)=some σ'):
 ∃a F',St G w' S' a F'/\(λs=>(a s).er)=σ'/\(∀s,(a s).A0=if s=dst.d then D.A0 else(δ s).A0)/\(∀x,BE F' x->BE Fr x∨Ff x):=by
 unfold Abs.wr at f;split at f
 . rename_i p;simp only[Option.some.injEq]at f;subst f;refine⟨_,_,h.set dst.d D Ff q (λs _=>o s) l (λs _=>m s) n (λs _ x c k=>i s x k c) (r▸p) j,?_,λs=>IB h dst.d D s,?_⟩
   . rw[Ic h,g,kills_eq]
   . rintro x ⟨s,c⟩;by_cases e:s=dst.d
     . subst e;rw[BI]at c;exact .inr c
     . rw[Ba _ _ e]at c;exact .inl ⟨s,c⟩
 . cases f
end Go.Abs
namespace Go.Abs
variable {w w':World} {S S':Nat->Prop} {G:Gi} {δ:Nat->DV} {Fr:Nat->Nat->Prop} {P:Program}
def rZ:Value->Value->Bool
 | .bool a,.bool b=>a==b
 | .int k a,.int k' b=>decide (k=k')&&decide (a=b)
 | .string a,.string b=>decide (a.data=b.data)
 | .pointer none,.pointer none=>true
 | .slice none 0 0,.slice none 0 0=>true
 | .nilFunc,.nilFunc=>true
 | .nilIface,.nilIface=>true
 |_,_=>false
def UM:List Value->List Value->Bool
 |[],[]=>true
 |a::l,b::r=>rZ a b&&UM l r
 |_,_=>false
def r5:Value->Value->Bool
 | .agg a,.agg b=>UM a.toList b.toList
 |a,b=>rZ a b
theorem kW {a b:Value} (h:rZ a b=true):a=b:=by unfold rZ at h;split at h<;>simp_all;rename_i x y;cases x;simp_all
theorem QJ:∀{a b:List Value},UM a b=true->a=b
 |[],[],_=>rfl
 |[],_::_,h=>by simp[UM]at h
 |_::_,[],h=>by simp[UM]at h
 |a::l,b::r,h=>by simp only[UM,AAi]at h;rw[kW h.1,QJ h.2]
theorem kX {a b:Value} (h:r5 a b=true):a=b:=by
 unfold r5 at h;split at h
 . rename_i x y;have:=QJ h;simp_all
 . exact kW h
def CM (x:Operand) (y:Ar):Bool:=
 match x,y with
 | .tmp s,.t s'=>s==s'
 | .const v,.c a=>match JE a with
  |some D=>r5 v D.A0
  |none=>false
 |_,_=>false
def Rd (δ:Nat->DV) (a:Act):Prop:=∀s,a.tmps.getD s undef=(δ s).A0
theorem Am {x:Operand} {y:Ar} {a:Act} (h:CM x y=true) (d:Rd δ a):XE y/\a.eval x=C7 δ y:=by
 unfold CM at h;split at h
 . simp only[AAw]at h;subst h;exact⟨trivial,d _⟩
 . rename_i v c;split at h
   . rename_i D b;exact⟨⟨D,b⟩,by simp[Act.eval,C7,b,kX h]⟩
   . cases h
 . cases h
def G3:List Operand->List Ar->Bool
 |[],[]=>true
 |x::l,y::r=>CM x y&&G3 l r
 |_,_=>false
def Ro:AB8 Operand->AB8 Ar->Bool
 |none,none=>true
 |some x,some y=>CM x y
 |_,_=>false
def Gv (P:Program) (t:TypeId):AB8 Nat:=(P.info? t).map (·.size)
def Jb (P:Program) (t:TypeId):AB8 Bool:=(P.underlying t).map λ| .struct _=>true| .array _ _=>true|_=>false
theorem run_sizeOf {t:TypeId} {n:Nat} (h:Gv P t=some n) (w:World):(sizeOf t).run P w= .ok n w:=by
 unfold Gv at h;cases hi:P.info? t with
 |none=>simp_all
 |some i=>simp only[hi,AA9,AAh]at h;simp[sizeOf,typeInfo,hi,h]
theorem Qq {t:TypeId} {b:Bool} (h:Jb P t=some b) (w:World):(isAgg t).run P w= .ok b w:=by
 unfold Jb at h;cases hi:P.underlying t with
 |none=>simp_all
 |some d=>simp only[hi,AA9,AAh]at h;cases d<;>simp_all [isAgg,underlying]
theorem Ip (t:DV) (p q:List Step):Au t (p++q)=(Au t p).bind (Au · q):=by
 induction p generalizing t with
 |nil=>simp[Au]
 |cons s p ih=>
  obtain⟨i,j,k⟩:=s;cases t with
  |lf a v=>simp[Au]
  |own h b k1 rows=>
   simp only[ABV,Au];cases rows[i]? with
   |none=>rfl
   |some row=>simp only[];cases row[j]? with
    |none=>rfl
    |some c=>exact ih c
  |agg cs=>simp only[ABV,Au];cases cs[j]? with
   |none=>rfl
   |some c=>exact ih c
  |BM cs=>simp only[ABV,Au];cases cs[j]? with
   |none=>rfl
   |some c=>exact ih c
theorem cQ (r:Nat) (p:List Step) (l:List AV) (i n:Nat):(QR r p i l)[n]? =(l[n]?).map (view r (p++[(0,i+n,0)])):=by
 induction l generalizing i n with
 |nil=>simp[QR]
 |cons c cs ih=>
  cases n with
  |zero=>simp[QR]
  |succ n=>simp only[QR,ABT,ih,Nat.add_assoc,Nat.add_comm 1 n]
theorem CC {ds:List DV} (h:∀d∈ds,Ok w S d (λ_=>False)):Jm w S ds (λ_=>False):=by
 induction ds with
 |nil=>exactλ_ h=>h
 |cons d ds ih=>exact⟨_,_,h d (by simp),ih (λe a=>h e (by simp[a])),λ_ h=>h.elim,λx=>by simp⟩
theorem LX {e f:Type} (a:List e) (d:Nat->e->f->Prop) (h:∀i c,a[i]? =some c->∃D,d i c D):∃b:List f,b.length=a.length/\∀i c,a[i]? =some c->∃D,b[i]? =some D/\d i c D:=by
 induction a generalizing d with
 |nil=>simp_all
 |cons c a ih=>obtain⟨D,k⟩:=h 0 c rfl;obtain⟨b,g,j⟩:=ih (λi=>d (i+1)) (λi c' l=>h (i+1) c' (by simp_all));refine⟨D::b,by simp[g],?_⟩;grind
theorem mem_mk {f d:Type} {a:List f} {b:List d} {e:Nat->f->d->Prop} (j:b.length=a.length) (h:∀i c,a[i]? =some c->∃D,b[i]? =some D/\e i c D) (i:Nat) (D:d) (g:b[i]? =some D):∃c,a[i]? =some c/\e i c D:=by
 have hi:i<a.length:=by rw[← j];exact(AAj.1 g).1
 obtain⟨k,l,m⟩:=h i a[i] (AAo hi);simp_all
theorem map_mk {g d j:Type} {a:List g} {b:List d} {e:Nat->g->d->Prop} (p:b.length=a.length) (h:∀i c,a[i]? =some c->∃D,b[i]? =some D/\e i c D) (f:d->j) (l:List j) (k:l.length=a.length)
 (o:∀i c D,e i c D->a[i]? =some c->l[i]? =some (f D)):b.map f=l:=by
 apply ABu;intro i;by_cases hi:i<a.length
 . obtain⟨D,m,n⟩:=h i a[i] (AAo hi);grind
 simp_all
theorem UY (r:Nat) (p:List Step) (l:List AV) (i:Nat):(QR r p i l).length=l.length:=by
 induction l generalizing i with
 |nil=>simp[QR]
 |cons c cs ih=>simp[QR,ih]
theorem viewD {t:DV} {F:Nat->Prop} (r:Nat) (h:Ok w S t F):∀(p:List Step),Au (δ r) p=some t->Dd δ t->
 ∃D,D.er=view r p t.er/\D.A0=t.A0/\Ok w S D (λ_=>False)/\Dd δ D:=by
 induction h with
 |lf a v F ha hF=>intro p l f;have g:=ha.C9;refine⟨.lf a v,?_,rfl,.lf a v _ ha (λ_ h=>h),f⟩;cases a<;>simp_all [view,C9]
 |nil k F hF=>intro p l f;exact⟨.lf (.al r p) (.slice none 0 0),by simp[view],by simp,.lf _ _ _ trivial (λ_ h=>h),.lf _ _ ⟨_,_,_,l⟩⟩
 |own bx k rows b c arr E Fs F hb hk D6 Lk hv hr hd Bi KW hF ih=>intro p l f;exact⟨.lf (.al r p) (Jp bx b rows.length c),by simp[view],by simp,.lf _ _ _ trivial (λ_ h=>h),.lf _ _ ⟨_,_,_,l⟩⟩
 |agg cs Fs F hr hd Bi hF ih=>
  intro p l f;cases f with
  |agg _ f=>
   obtain⟨o,g,j⟩:=LX cs (λi d D=>D.er=view r (p++[(0,i,0)]) d.er/\D.A0=d.A0/\Ok w S D (λ_=>False)/\Dd δ D)
    (λi d hd=>ih i d hd _ (by rw[Ip,l];simp[Au,hd]) (f i d hd))
   refine⟨.agg o,?_,?_,B2.2 (CC λD m=> ?_),.agg _ λi D m=> ?_⟩
   . simp only[Hi,view,AV.agg.injEq];refine map_mk g j _ _ (by simp[UY]) λi c D e n=> ?_;rw[cQ,AAt,n];grind
   . simp only[KE];congr 2;exact map_mk g j _ _ (by simp) λi c D e n=>by simp_all
   . obtain⟨i,hi⟩:=AA7 m;obtain⟨c,_,e⟩:=mem_mk g j i D hi;simp_all
   . obtain⟨c,_,e⟩:=mem_mk g j i D m;simp_all
 |BM cs Fs F hr hd Bi hF ih=>
  intro p l f;cases f with
  |BM _ f=>
   obtain⟨o,g,j⟩:=LX cs (λi d D=>D.er=view r (p++[(0,i,0)]) d.er/\D.A0=d.A0/\Ok w S D (λ_=>False)/\Dd δ D)
    (λi d hd=>ih i d hd _ (by rw[Ip,l];simp[Au,hd]) (f i d hd))
   refine⟨.BM o,?_,?_,A8.2 (CC λD m=> ?_),.BM _ λi D m=> ?_⟩
   . simp only[JY,view,AV.BM.injEq];refine map_mk g j _ _ (by simp[UY]) λi c D e n=> ?_;rw[cQ,AAt,n];grind
   . simp only[Lg];congr 2;exact map_mk g j _ _ (by simp) λi c D e n=>by simp_all
   . obtain⟨i,hi⟩:=AA7 m;obtain⟨c,_,e⟩:=mem_mk g j i D hi;simp_all
   . obtain⟨c,_,e⟩:=mem_mk g j i D m;simp_all
theorem fK (r:Nat) (p:List Step) (i k j:Nat) (l:List AV):(QQ r p i k j l).length=l.length:=by
 induction l generalizing j with
 |nil=>simp[QQ]
 |cons c cs ih=>simp[QQ,ih]
theorem yA (r:Nat) (p:List Step) (i k j n:Nat) (l:List AV):(QQ r p i k j l)[n]? =(l[n]?).map (vC r p i (j+n) k):=by
 induction l generalizing j n with
 |nil=>simp[QQ]
 |cons c cs ih=>
  cases n with
  |zero=>simp[QQ]
  |succ n=>simp only[QQ,ABT,ih,Nat.add_assoc,Nat.add_comm 1 n]
theorem fL (s j:Nat) (l:List AV):(NC s j l).length=l.length:=by
 induction l generalizing j with
 |nil=>simp[NC]
 |cons c cs ih=>simp[NC,ih]
theorem yB (s j n:Nat) (l:List AV):(NC s j l)[n]? =(l[n]?).map (vF s (j+n)):=by
 induction l generalizing j n with
 |nil=>simp[NC]
 |cons c cs ih=>
  cases n with
  |zero=>simp[NC]
  |succ n=>simp only[NC,ABT,ih,Nat.add_assoc,Nat.add_comm 1 n]
end Go.Abs
namespace Go.Abs
variable {w w':World} {S S':Nat->Prop} {G:Gi} {δ:Nat->DV} {Fr:Nat->Nat->Prop} {P:Program}
def Lf (w:World) (S:Nat->Prop) (δ:Nat->DV) (a:AV) (v:Value):Prop:=∃D:DV,D.er=a/\D.A0=v/\Ok w S D (λ_=>False)/\Dd δ D
theorem Lf.sc (v:Value) (h:Ge v=true):Lf w S δ (.sc v) v:=⟨.lf (.sc v) v,by simp,by simp,.lf _ _ _ ⟨rfl,h⟩ (λ_ h=>h),.lf _ _ trivial⟩
theorem Lf.al {r:Nat} {p:List Step} {v:Value} {bx:Bool} {k:Nat} {rows:List (List DV)} (h:Au (δ r) p=some (.own v bx k rows)):Lf w S δ (.al r p) v:=
 ⟨.lf (.al r p) v,by simp,by simp,.lf _ _ _ trivial (λ_ h=>h),.lf _ _ ⟨_,_,_,h⟩⟩
theorem Lf.K2 {r:Nat} {p:List Step} {i j k b:Nat} {v:Value} {bx:Bool} {rows:List (List DV)} (h:Au (δ r) p=some (.own v bx k rows)) (a:TQ v=some b):Lf w S δ (.K2 r p i j k) (.pointer (some ⟨b,i*k+j,none⟩)):=
 ⟨.lf (.K2 r p i j k) _,by simp,by simp,.lf _ _ _ trivial (λ_ h=>h),.lf _ _ ⟨_,_,_,_,h,a,rfl⟩⟩
theorem Lf.fp {c:List AV} {b off:Nat} (d:S b) (h:∀(j:Nat) a,c[j]? =some a->∃u,w.cell? ⟨b,off+j,none⟩=some u/\Fz w S a u):Lf w S δ (.fp c) (.pointer (some ⟨b,off,none⟩)):=
 ⟨.lf (.fp c) _,by simp,by simp,.lf _ _ _ ⟨b,off,rfl,d,h⟩ (λ_ h=>h),.lf _ _ trivial⟩
theorem St.leaf (h:St G w S δ Fr) {s:Nat} {a:AV} (c:(δ s).er=a) (d:C9 a=true):δ s= .lf a (δ s).A0/\IA w S a (δ s).A0/\ND δ a (δ s).A0:=by
 have e:=h.ok s;have f:=h.al s;cases hd:δ s with
 |lf b v=>
  rw[hd]at c e f;simp only[Ei]at c;subst c;cases e with
  |lf _ _ _ ha _=>cases f with|lf _ _ d=>exact⟨by simp,ha,d⟩
 |own=>rw[hd]at c;simp at c;subst c;simp[C9]at d
 |agg=>rw[hd]at c;simp at c;subst c;simp[C9]at d
 |BM=>rw[hd]at c;simp at c;subst c;simp[C9]at d
theorem St.FB (h:St G w S δ Fr) {x:Ar} (g:XE x) {v:Value} (d:ar (λs=>(δ s).er) x= .sc v):C7 δ x=v/\Ge v=true:=by
 cases x with
 |t s=>obtain⟨_,e,_⟩:=h.leaf (s:=s) d rfl;exact⟨e.1,e.2⟩
 |c a=>
  obtain⟨D,b⟩:=g;simp only[ar]at d;subst d;simp only[JE]at b;split at b
  . rename_i f;obtain rfl:=AAl b;exact⟨by simp[C7,JE,f],f⟩
  . cases b
theorem OC {a:AV} {n:Int} (h:mP a=some n):∃k,a= .sc (.int k n):=by
 unfold mP at h;split at h
 . simp only[AAh]at h;subst h;exact⟨_,rfl⟩
 . cases h
theorem St.node (h:St G w S δ Fr) {s r:Nat} {p:List Step} (j:(δ s).er= .al r p) {bx:Bool} {k:Nat} {rows:List (List AV)} (hn:sub (δ r).er p=some (.own bx k rows)):
 ∃b F,Au (δ r) p=some (.own (δ s).A0 bx k b)/\b.map (·.map DV.er)=rows/\Ok w S (.own (δ s).A0 bx k b) F:=by
 obtain⟨_,_,f⟩:=h.leaf j rfl;obtain⟨l,m,a,c⟩:=f;obtain⟨D,e,d⟩:=Dr (h.ok r).LD hn;rw[c]at e;obtain rfl:=AAl e;simp only[Et,AV.own.injEq]at d;obtain⟨rfl,rfl,g⟩:=d;obtain⟨F,i,_⟩:=(h.ok r).Au c;exact⟨a,F,c,g,i⟩
theorem St.YS (h:St G w S δ Fr) {s:Nat} {bx:Bool} {k:Nat} {rows:List (List AV)} (a:(δ s).er= .own bx k rows):
 ∃c,δ s= .own (δ s).A0 bx k c/\c.map (·.map DV.er)=rows:=by
 have:=(h.ok s).LD;cases hd:δ s with
 |own v b k' rows'=>rw[hd]at a;simp only[Et,AV.own.injEq]at a;obtain⟨rfl,rfl,d⟩:=a;exact⟨rows',by simp,d⟩
 |lf b v=>rw[hd]at a this;cases this with|lf _ _ hl=>simp at a;subst a;simp[C9]at hl
 |agg=>rw[hd]at a;simp at a
 |BM=>rw[hd]at a;simp at a
theorem St.EL (h:St G w S δ Fr) {s r i j k:Nat} {p:List Step} (a:Abs.EL (λs=>(δ s).er) (.t s)=some (r,p,i,j,k)):
 ∃v bx d b F,Au (δ r) p=some (.own v bx k d)/\TQ v=some b/\(δ s).A0= .pointer (some ⟨b,i*k+j,none⟩)/\Ok w S (.own v bx k d) F/\(∀x,F x->Fr r x):=by
 simp only[Abs.EL]at a;cases hs:(δ s).er with
 |K2 r' p' i' j' o=>simp only[hs,AAh,AAv]at a;obtain⟨rfl,rfl,rfl,rfl,rfl⟩:=a;obtain⟨_,_,u⟩:=h.leaf hs rfl;obtain⟨v,bx,rows,b,e,f,z⟩:=u;obtain⟨F,l,g⟩:=(h.ok _).Au e;exact⟨v,bx,rows,b,F,e,f,z,l,g⟩
 |own bx o rows=>
  cases bx with
  |false=>simp[hs]at a
  |true=>
   simp only[hs,AAh,AAv]at a;obtain⟨rfl,rfl,rfl,rfl,rfl⟩:=a;obtain⟨d,hd,_⟩:=h.YS hs;have n:=h.ok s;rw[hd]at n;generalize B:(δ s).A0=v at*;cases n with
   |own _ _ _ b c arr E Fs _ f hk D6 Lk oS hr MV Bi KW l=>exact⟨Jp true b d.length c,true,d,b,Fr s,by simp[Au,hd],by simp,by simp[Jp],by rw[← hd];exact h.ok s,λx C=>C⟩
 |al r' p'=>
  simp only[hs]at a;split at a
  . rename_i o m hn;simp only[AAh,AAv]at a;obtain⟨rfl,rfl,rfl,rfl,rfl⟩:=a;obtain⟨d,F,e,_,l⟩:=h.node hs hn;obtain⟨q,y,g⟩:=(h.ok _).Au e;generalize B:(δ s).A0=v at*;cases y with
    |own _ _ _ b c arr E Fs _ f hk D6 Lk oS hr MV Bi KW Xu=>exact⟨Jp true b d.length c,true,d,b,q,e,by simp,by simp[Jp],.own true _ _ b c arr E Fs _ f hk D6 Lk oS hr MV Bi KW Xu,g⟩
  . cases a
 |_=>simp[hs]at a
theorem LM {t:TypeId} {g:Bool} {n b off:Nat} {vs:List Value} (hn:Gv P t=some n) (d:Jb P t=some g) (f:g=true∨n=1) (e:vs.length=n) (c:∀(j:Nat) v,vs[j]? =some v->w.cell? ⟨b,off+j,none⟩=some v):
 (loadVar t ⟨b,off,none⟩).run P w= .ok (if g=true then .agg vs.toArray else vs.headD undef) w:=by
 cases g with
 |true=>have:=run_loadCells_list (P:=P) w ⟨b,off,none⟩ vs (λj v h=>by rw[Addr.add_lit];exact c j v h);rw[e]at this;simp[loadVar,Qq d,run_sizeOf hn,this]
 |false=>
  obtain rfl:=f.resolve_left (by simp)
  match vs,e with
  |[v],_=>have a:=c 0 v rfl;simp only[Nat.add_zero]at a;simp[loadVar,Qq d,a]
theorem gather {agg:Bool} {n:Nat} {f:List AV} {v:AV} (a:It agg n f=some v) (b:List DV) (e:b.map DV.er=f) (g:∀D∈b,Ok w S D (λ_=>False)) (h:∀D∈b,Dd δ D):
 f.length=n/\Lf w S δ v (if agg=true then .agg (b.map DV.A0).toArray else(b.map DV.A0).headD undef):=by
 unfold It at a;split at a
 . rename_i hn;refine⟨hn,?_⟩;cases agg with
   |true=>simp only[AA5,AAh]at a;subst a;exact⟨.agg b,by simp[e],by simp,B2.2 (CC g),.agg _ λi d hd=>h d (AAu hd)⟩
   |false=>
    simp only[AAr,AAx]at a;split at a
    . rename_i c;simp only[AAh]at a;subst a
      match b,e with
      |[D],e=>simp only[AAy,ABF,List.cons.injEq,and_true]at e;exact⟨D,e,by simp,g D (by simp),h D (by simp)⟩
    . cases a
 . cases a
theorem Xo {a:AV} {v:Value} (h:Fz w S a v):∃D:DV,D.er=Jd a/\D.A0=v/\Ok w S D (λ_=>False)/\Dd δ D:=by
 cases h with
 |sc v hp=>exact⟨.lf (.sc v) v,by simp[Jd],by simp,.lf _ _ _ ⟨rfl,hp⟩ (λ_ h=>h),.lf _ _ trivial⟩
 |nil x k a c hx=>exact⟨.lf (.sl x k []) _,by simp[Jd],by simp,.lf _ _ _ (Fz.nil x k a c hx) (λ_ h=>h),.lf _ _ trivial⟩
 |sl x k rows b off c vs hx Qy hS hk hc hr=>exact⟨.lf (.sl x k rows) _,by simp[Jd],by simp,.lf _ _ _ (Fz.sl x k rows b off c vs hx Qy hS hk hc hr) (λ_ h=>h),.lf _ _ trivial⟩
 |dead=>exact⟨.lf .dead v,by simp[Jd],by simp,.lf _ _ _ trivial (λ_ h=>h),.lf _ _ trivial⟩
 |agg cs vs=>exact⟨.lf .dead _,by simp[Jd],rfl,.lf _ _ _ trivial (λ_ h=>h),.lf _ _ trivial⟩
 |BM cs vs=>exact⟨.lf .dead _,by simp[Jd],rfl,.lf _ _ _ trivial (λ_ h=>h),.lf _ _ trivial⟩
end Go.Abs
namespace Go.Abs
variable {w w':World} {S S':Nat->Prop} {G:Gi} {δ:Nat->DV} {Fr:Nat->Nat->Prop} {P:Program}
def Gives (P:Program) (w:World) (S:Nat->Prop) (δ:Nat->DV) (a:Act) (o:Oper) (v:AV):Prop:=
 ∃u,(execOp a.eval o).run P w= .ok (.value u) w/\Lf w S δ v u
theorem TO (h:St G w S δ Fr) {a:Act} (k:Rd δ a) {o:Oper} {x:Operand} {y:Ar} (b:o.op= .move x∨o.op= .assign x) (l:CM x y=true) {v:AV} (d:valOf (.cp y) (λs=>(δ s).er)=some v):Gives P w S δ a o v:=by
 obtain⟨n,m⟩:=Am l k;refine⟨C7 δ y,by rcases b with b|b<;>simp[execOp,b,m],?_⟩;cases y with
 |t s=>simp only[valOf,AAh]at d;subst d;obtain⟨D,e,f,g,j⟩:=viewD (δ:=δ) s (h.ok s) [] (by simp[Au]) (h.al s);exact⟨D,e,f,g,j⟩
 |c c=>simp only[valOf,AAh]at d;subst d;obtain⟨D,i⟩:=n;obtain⟨e,f,g,_⟩:=Iu (w:=w) (S:=S) (δ:=δ) c D i;exact⟨D,e,by simp[C7,i],f,g⟩
theorem oE (h:St G w S δ Fr) {a:Act} (f:Rd δ a) {o:Oper} {c x y:Operand} {c' m n:Ar} (j:o.op= .pick c x y) (r:CM c c'=true) (t:CM x m=true) (z:CM y n=true) {v:AV}
 (d:valOf (.pick c' m n) (λs=>(δ s).er)=some v):Gives P w S δ a o v:=by
 obtain⟨C,i⟩:=Am r f;obtain⟨k,p⟩:=Am t f;obtain⟨l,q⟩:=Am z f;simp only[valOf]at d;split at d
 . rename_i b B;obtain⟨g,_⟩:=h.FB C B;split at d
   . rename_i u e;simp only[AAh]at d;subst d;refine⟨u,?_,?_⟩
     . cases b with
       |true=>have:=(h.FB k (by simpa using e)).1;simp[execOp,j,i,g,asBool,p,this]
       |false=>have:=(h.FB l (by simpa using e)).1;simp[execOp,j,i,g,asBool,q,this]
     . cases b with
       |true=>exact Lf.sc u (h.FB k (by simpa using e)).2
       |false=>exact Lf.sc u (h.FB l (by simpa using e)).2
   . cases d
 . cases d
theorem o6 {v:Value} {bx:Bool} {k:Nat} {rows:List (List DV)} {F:Nat->Prop} (h:Ok w S (.own v bx k rows) F) {r:Nat} {p:List Step} (G:Au (δ r) p=some (.own v bx k rows)) {b:Nat} (C:TQ v=some b) {i:Nat} {f:List DV}
 (hi:rows[i]? =some f) (j n:Nat):
 ∃o:List DV,o.map DV.er=QQ r p i k j (((f.map DV.er).drop j).take n)/\(∀D∈o,Ok w S D (λ_=>False))/\(∀D∈o,Dd δ D)/\(∀(m:Nat) u,(o.map DV.A0)[m]? =some u->w.cell? ⟨b,i*k+j+m,none⟩=some u):=by
 generalize B:v=v' at h;cases h with
 |nil=>simp at hi
 |own _ _ _ b' c arr E Fs _ q8 hk D6 Lk hv hr hd Bi KW hF=>
  subst B;simp only[Xy,AAh]at C;subst C;obtain⟨o,g,t⟩:=LX ((f.drop j).take n) (λm d D=>D.er=vC r p i (j+m) k d.er/\D.A0=d.A0/\Ok w S D (λ_=>False)/\Dd δ D/\w.cell? ⟨b',i*k+j+m,none⟩=some D.A0) (by
   intro m d q;have y:f[j+m]? =some d:=by
    rw[ABi]at q;split at q
    . simpa using q
    . cases q
   have I:=hr i (j+m) f d hi y;have l:w.cell? ⟨b',i*k+j+m,none⟩=some d.A0:=by
    simp only[World.cell?,q8]
    have:=hv i (j+m) f d hi y;rw[show i*k+j+m=i*k+(j+m)from by omega];simpa using this
   cases I with
   |lf a v _ ha oJ=>
    have g:=ha.C9;cases a with
    |sc u=>exact⟨.lf (.sc u) v,by simp[vC],by simp,.lf _ _ _ ha (λ_ h=>h),.lf _ _ trivial,l⟩
    |sl x k' rows'=>exact⟨.lf (.sl x k' rows') v,by simp[vC],by simp,.lf _ _ _ ha (λ_ h=>h),.lf _ _ trivial,l⟩
    |own=>simp[C9]at g
    |agg=>simp[C9]at g
    |BM=>simp[C9]at g
    |_=>exact⟨.lf .dead v,by simp[vC],by simp,.lf _ _ _ trivial (λ_ h=>h),.lf _ _ trivial,by simpa using l⟩
   |nil k' _ oJ=>exact⟨.lf (.al r (p++[(i,j+m,k)])) (.slice none 0 0),by simp[vC],by simp,.lf _ _ _ trivial (λ_ h=>h),.lf _ _ ⟨false,k',[],by rw[Ip,G];simp[Au,hi,y]⟩,by simpa using l⟩
   |own fN k' rows' b'' c' arr' E' Fs' _ g1 g2 g3 g4 g5 g6 g7 g8 g9 g10=>exact⟨.lf (.al r (p++[(i,j+m,k)])) (Jp fN b'' rows'.length c'),by simp[vC],by simp,.lf _ _ _ trivial (λ_ h=>h),.lf _ _ ⟨fN,k',rows',by rw[Ip,G];simp[Au,hi,y]⟩,by simpa using l⟩
   |agg cs=>exact⟨.lf .dead (.agg (cs.map DV.A0).toArray),by simp[vC],by simp,.lf _ _ _ trivial (λ_ h=>h),.lf _ _ trivial,by simpa using l⟩
   |BM cs=>exact⟨.lf .dead (.tuple (cs.map DV.A0).toArray),by simp[vC],by simp,.lf _ _ _ trivial (λ_ h=>h),.lf _ _ trivial,by simpa using l⟩)
  refine⟨o,?_,?_,?_,?_⟩
  . refine map_mk g t _ _ (by simp[fK]) λm d D e q=> ?_;rw[yA,← List.map_drop,← ABz,AAt,q];simp[e.1]
  . intro D s;obtain⟨m,z⟩:=AA7 s;obtain⟨c,_,e⟩:=mem_mk g t m D z;exact e.2.2.1
  . intro D s;obtain⟨m,z⟩:=AA7 s;obtain⟨c,_,e⟩:=mem_mk g t m D z;exact e.2.2.2.1
  . intro m u H;rw[AAt,AA6]at H;obtain⟨D,s,rfl⟩:=H;obtain⟨c,_,e⟩:=mem_mk g t m D s;exact e.2.2.2.2
theorem SP (h:St G w S δ Fr) {s:Nat} {t:List AV} (e:(δ s).er= .agg t) {agg:Bool} {n off:Nat} {v:AV} (I:It agg n (NC s off ((t.drop off).take n))=some v):
 ∃vals:List Value,(δ s).A0= .agg vals.toArray/\((vals.drop off).take n).length=n/\Lf w S δ v (if agg=true then .agg ((vals.drop off).take n).toArray else((vals.drop off).take n).headD undef):=by
 obtain⟨ds,z,H⟩:∃ds,δ s= .agg ds/\ds.map DV.er=t:=by
  have:=(h.ok s).LD;cases hd:δ s with
  |agg ds=>rw[hd]at e;simp at e;exact⟨ds,rfl,e⟩
  |lf c v=>rw[hd]at e this;cases this with|lf _ _ j=>simp at e;subst e;simp[C9]at j
  |own=>rw[hd]at e;simp at e
  |BM=>rw[hd]at e;simp at e
 have C:=h.ok s;have q:=h.al s;rw[z]at C q;cases C with
 |agg _ Fs _ hr MV Bi hF=>
  cases q with
  |agg _ q=>
   obtain⟨y,j,r⟩:=LX ((ds.drop off).take n) (λm d D=>D.er=vF s (off+m) d.er/\D.A0=d.A0/\Ok w S D (λ_=>False)/\Dd δ D) (by
    intro m d f;have hd:ds[off+m]? =some d:=by
     rw[ABi]at f;split at f
     . rw[List.getElem?_drop]at f;exact f
     . cases f
    have g:=hr _ d hd;have o:=q _ d hd;cases d with
    |lf a u=>
     have x:=g.LD;cases x with
     |lf _ _ jD=>
      cases g with
      |lf _ _ _ ha Xu=>refine⟨.lf a u,?_,rfl,.lf _ _ _ ha (λ_ h=>h),o⟩;simp only[Ei];cases a<;>simp_all [vF,C9]
    |own u bx k rows=>refine⟨.lf (.al s [(0,off+m,0)]) u,by simp[vF],by simp,.lf _ _ _ trivial (λ_ h=>h),.lf _ _ ⟨bx,k,rows,by simp[Au,z,hd]⟩⟩
    |agg l=>exact⟨.lf .dead (DV.agg l).A0,by simp[vF],by simp,.lf _ _ _ trivial (λ_ h=>h),.lf _ _ trivial⟩
    |BM l=>exact⟨.lf .dead (DV.BM l).A0,by simp[vF],by simp,.lf _ _ _ trivial (λ_ h=>h),.lf _ _ trivial⟩)
   have F:y.map DV.er=NC s off ((t.drop off).take n):=map_mk j r _ _ (by rw[fL,← H];simp) λi d D b hd=>(by rw[yB,← H,← List.map_drop,← ABz,AAt,hd,b.1];rfl);have E:y.map DV.A0=((ds.map DV.A0).drop off).take n:=map_mk j r _ _ (by simp) λi d D b hd=>(by rw[← List.map_drop,← ABz,AAt,hd,b.2.1];rfl);obtain⟨p,x⟩:=gather (w:=w) (S:=S) (δ:=δ) I y F (λD B=>by obtain⟨m,f⟩:=AA7 B;obtain⟨c,_,b⟩:=mem_mk j r m D f;exact b.2.2.1)
    (λD B=>by obtain⟨m,f⟩:=AA7 B;obtain⟨c,_,b⟩:=mem_mk j r m D f;exact b.2.2.2)
   refine⟨ds.map DV.A0,by rw[z];simp,?_,?_⟩
   . rw[← E,ABI]
     have:=AB6 List.length F;rw[ABI]at this;rw[this,p]
   . rw[E]at x;exact x
theorem TP (h:St G w S δ Fr) {a:Act} (ha:Rd δ a) {o:Oper} {t:TypeId} {x:Operand} {g:Bool} {n:Nat} {y:Ar} (ho:o.op= .load t x) (hn:Gv P t=some n) (hg:Jb P t=some g) (J:g=true∨n=1) (U:CM x y=true) {v:AV}
 (d:valOf (.ld g n y) (λs=>(δ s).er)=some v):Gives P w S δ a o v:=by
 obtain⟨hy,he⟩:=Am U ha;cases y with
 |c c=>simp[valOf]at d
 |t s=>
  have key:∀(b off:Nat) (f:List DV),(δ s).A0= .pointer (some ⟨b,off,none⟩)->It g n (f.map DV.er)=some v->(∀D∈f,Ok w S D (λ_=>False))->(∀D∈f,Dd δ D)->
   (∀(m:Nat) u,(f.map DV.A0)[m]? =some u->w.cell? ⟨b,off+m,none⟩=some u)->Gives P w S δ a o v:=by
   intro b off f C Ue O G4 H;obtain⟨l,Q⟩:=gather Ue f rfl O G4;refine⟨_,?_,Q⟩
   have:=LM (P:=P) (w:=w) (b:=b) (off:=off) (vs:=f.map DV.A0) hn hg J (by simpa using l) H;simp only[execOp,ho,he,C7,C,Instr.loadAt,Instr.sureAddr,Sem.run_bind,Sem.run_pure,Result.andThen_ok,this]
  simp only[valOf]at d;cases hs:(δ s).er with
  |fp cs=>
   simp only[hs]at d;obtain⟨_,I,_⟩:=h.leaf hs rfl;obtain⟨b,off,C,hS,H⟩:=I;obtain⟨f,M,L⟩:=LX (cs.take n) (λm c D=>D.er=Jd c/\w.cell? ⟨b,off+m,none⟩=some D.A0/\Ok w S D (λ_=>False)/\Dd δ D) (by
    intro m c B;rw[ABi]at B;split at B
    . obtain⟨u,N,hf⟩:=H m c B;obtain⟨D,E,I,R,T⟩:=Xo (δ:=δ) hf;exact⟨D,E,by rw[I];exact N,R,T⟩
    . cases B)
   refine key b off f C ?_ ?_ ?_ ?_
   . rw[← d];congr 1;exact map_mk M L _ _ (by simp) λi c D e U=>by simp only[AAt,U,AA9,e.1]
   . intro D z;obtain⟨m,B⟩:=AA7 z;obtain⟨c,_,e⟩:=mem_mk M L m D B;exact e.2.2.1
   . intro D z;obtain⟨m,B⟩:=AA7 z;obtain⟨c,_,e⟩:=mem_mk M L m D B;exact e.2.2.2
   . intro m u N;rw[AAt,AA6]at N;obtain⟨D,z,rfl⟩:=N;obtain⟨c,_,e⟩:=mem_mk M L m D z;exact e.2.1
  |vb q off us=>
   simp only[hs]at d;obtain⟨_,⟨b,C,hS,H⟩,Dh⟩:=h.leaf hs rfl;split at d
   . rename_i cs hq;obtain⟨vals,X,l,Q⟩:=SP h hq d;have W:vals=us:=by
      have E:(δ q).A0= .agg us.toArray:=Dh;rw[X,Value.agg.injEq]at E
      have:=AB6 Array.toList E;simpa using this
     subst W;refine⟨_,?_,Q⟩
     have:=LM (P:=P) (w:=w) (b:=b) (off:=off) (vs:=(vals.drop off).take n) hn hg J l (λj v K=>by
      rw[ABi]at K;split at K
      . rw[List.getElem?_drop]at K;exact H _ v K
      . cases K)
     simp only[execOp,ho,he,C7,C,Instr.loadAt,Instr.sureAddr,Sem.run_bind,Sem.run_pure,Result.andThen_ok,this]
   . cases d
  |_=>
   simp only[hs]at d;split at d
   . rename_i r p i j k V0;obtain⟨vh,bx,Ao,b,F,Z,hb,C,O,_⟩:=h.EL V0;split at d
     . rename_i fN k' rows vR;obtain⟨D,z,Fk⟩:=Dr (h.ok r).LD vR;rw[Z]at z;obtain rfl:=AAl z;simp only[Et,AV.own.injEq]at Fk;obtain⟨rfl,rfl,rfl⟩:=Fk;split at d
       . rename_i row D1;rw[AAt,AA6]at D1;obtain⟨I3,V,rfl⟩:=D1;obtain⟨f,E,I,R,T⟩:=o6 O Z hb V j n;exact key b (i*k+j) f C (by rw[E];exact d) I R T
       . cases d
     . cases d
   . cases d
end Go.Abs
namespace Go.Abs
variable {w w':World} {S S':Nat->Prop} {G:Gi} {δ:Nat->DV} {Fr:Nat->Nat->Prop} {P:Program}
theorem M6 {t:TypeId} {c:Array Field} {f:Nat} {a:Field} {n:Nat} (g:P.underlying t=some (.struct c)) (e:c[f]? =some a) (hn:Gv P a.type=some n) (d:n≠0) (b off:Nat) (w:World):
 (Instr.fieldAt t (.pointer (some ⟨b,off,none⟩)) f).run P w= .ok (.pointer (some ⟨b,off+a.offset,none⟩)) w:=by
 simp[Instr.fieldAt,underlying,g,e,Instr.sureAddr,fieldPlace,run_sizeOf hn,d,Addr.add_lit]
theorem bB (h:St G w S δ Fr) {a:Act} (N:Rd δ a) {o:Oper} {t:TypeId} {x:Operand} {f off:Nat} {y:Ar} (C:o.op= .fieldAddr t x f) {E:Array Field} {e:Field} {n:Nat} (D:P.underlying t=some (.struct E)) (B:E[f]? =some e) (K:e.offset=off)
 (hn:Gv P e.type=some n) (m:n≠0) (Q:CM x y=true) {v:AV} (d:valOf (.VK off y) (λs=>(δ s).er)=some v):Gives P w S δ a o v:=by
 obtain⟨U,z⟩:=Am Q N;subst K;cases y with
 |c c=>simp[valOf]at d
 |t s=>
  simp only[valOf]at d;cases hs:(δ s).er with
  |fp cs=>
   simp only[hs,AAh]at d;subst d;obtain⟨_,M,_⟩:=h.leaf hs rfl;obtain⟨b,off,g,u,l⟩:=M;refine⟨.pointer (some ⟨b,off+e.offset,none⟩),?_,Lf.fp u λj a H=> ?_⟩
   . simp only[execOp,C,z,C7,g,Sem.run_bind,M6 D B hn m,Result.andThen_ok,Sem.run_pure]
   . rw[List.getElem?_drop]at H;rw[show off+e.offset+j=off+(e.offset+j)from by omega];exact l _ a H
  |vb q o us=>simp only[hs,AAh]at d;subst d;obtain⟨_,⟨b,g,u,l⟩,J⟩:=h.leaf hs rfl;refine⟨.pointer (some ⟨b,o+e.offset,none⟩),?_,⟨.lf (.vb q (o+e.offset) us) _,by simp,by simp,.lf _ _ _ ⟨b,rfl,u,l⟩ (λ_ h=>h),.lf _ _ J⟩⟩;simp only[execOp,C,z,C7,g,Sem.run_bind,M6 D B hn m,Result.andThen_ok,Sem.run_pure]
  |_=>
   simp only[hs]at d;split at d
   . rename_i r p i j k L;simp only[AAh]at d;subst d;obtain⟨V,bx,R,b,F,I,O,g,T,_⟩:=h.EL L;refine⟨.pointer (some ⟨b,i*k+(j+e.offset),none⟩),?_,Lf.K2 I O⟩;simp only[execOp,C,z,C7,g,Sem.run_bind,M6 D B hn m,Result.andThen_ok,Sem.run_pure,Nat.add_assoc]
   . cases d
theorem run_indexAt_slice {t e:TypeId} {k:Nat} (g:P.underlying t=some (.slice e)) (f:Gv P e=some k) {b off len c:Nat} {h:IntKind} {n:Int} (a:0≤n) (d:n<len) (w:World):
 (Instr.indexAt t (.slice (some ⟨b,off,none⟩) len c) (.int h n)).run P w= .ok (.pointer (some ⟨b,off+n.toNat*k,none⟩)) w:=by
 simp[Instr.indexAt,asIntOf,underlying,g,a,d,run_sizeOf f,Addr.add_lit]
theorem St.rB (h:St G w S δ Fr) {x:Ar} (C:XE x) {n:AV} {u:AB8 (Nat×List Step)} (d:hd (λs=>(δ s).er) x=some (n,u)):
 (∀b k rows,n= .own b k rows->∃g F,g.map (·.map DV.er)=rows/\Ok w S (.own (C7 δ x) b k g) F/\∀r p,u=some (r,p)->Au (δ r) p=some (.own (C7 δ x) b k g))/\
 (∀e k rows,n= .sl e k rows->(∃s,x= .t s/\(δ s).er= .sl e k rows)->Fz w S (.sl e k rows) (C7 δ x)):=by
 cases x with
 |c c=>
  obtain⟨D,q⟩:=C;obtain⟨f,j,o,_⟩:=Iu (w:=w) (S:=S) (δ:=δ) c D q;constructor
  . rintro b k rows rfl;simp only[hd]at d;split at d
    . simp only[AAh,AAv,AV.own.injEq]at d;obtain⟨⟨rfl,rfl,rfl⟩,rfl⟩:=d;cases D with
      |own v b' k'' g=>simp only[Et,AV.own.injEq]at f;obtain⟨rfl,rfl,l⟩:=f;exact⟨g,_,l,by simpa[C7,q]using j,by simp⟩
      |lf a v=>simp only[Ei]at f;subst f;cases j with|lf _ _ _ ha _=>exact ha.elim
      |agg=>simp at f
      |BM=>simp at f
    . cases d
  . rintro e k rows rfl ⟨s,i,_⟩;cases i
 |t s=>
  simp only[hd]at d;constructor
  . rintro b k rows rfl;cases i:(δ s).er with
    |al r p=>
     simp only[i]at d;split at d
     . rename_i E hn;simp only[AAh,AAv]at d;obtain⟨rfl,rfl⟩:=d;obtain⟨g,F,f,j,o⟩:=h.node i hn;exact⟨g,F,j,o,by rintro H p' ⟨⟩;exact f⟩
     . cases d
    |own b' k' rows'=>
     simp only[i,AAh,AAv]at d;obtain⟨f,rfl⟩:=d;obtain⟨g,m,B⟩:=h.YS (i.trans f);refine⟨g,Fr s,B,?_,?_⟩
     . have:=h.ok s;rw[m]at this;simpa[C7]using this
     . rintro r p ⟨⟩;simpa[Au,C7]using m
    |sl e' k' rows'=>simp only[i,AAh,AAv]at d;exact absurd d.1 (by simp)
    |_=>simp[i]at d
  . rintro e k rows rfl ⟨I,y,z⟩;cases y;exact(h.leaf z rfl).2.1
theorem bC (h:St G w S δ Fr) {a:Act} (O:Rd δ a) {o:Oper} {t e:TypeId} {x i:Operand} {k:Nat} {y j:Ar} (U:o.op= .indexAddr t x i) (V:P.underlying t=some (.slice e)) (T:Gv P e=some k) (hc:CM x y=true) (NI:CM i j=true) {v:AV}
 (g:valOf (.W4 k y j) (λs=>(δ s).er)=some v):Gives P w S δ a o v:=by
 obtain⟨L,Q⟩:=Am hc O;obtain⟨R,q⟩:=Am NI O;simp only[valOf]at g;split at g
 . rename_i l rows r p n d hn;split at g
   . rename_i B;obtain⟨rfl,H,I⟩:=B;simp only[AAh]at g;subst g;obtain⟨kk,hn⟩:=OC hn;obtain⟨C,_⟩:=h.FB R hn;obtain⟨N,F,z,X,Uo⟩:=(h.rB L d).1 _ _ _ rfl;have W:=Uo r p rfl;generalize C7 δ y=vh at*;have f:N.length=rows.length:=(by rw[← z];simp);cases X with
     |nil=>simp at f;rw[← f]at I;simp at I;omega
     |own _ _ _ b c arr E Fs _ hb dY D6 Lk oS hr MV Bi KW hF=>refine⟨.pointer (some ⟨b,n.toNat*l+0,none⟩),?_,Lf.K2 W (by simp)⟩;simp only[execOp,U,Q,q,C,Jp,Sem.run_bind,AAr,AAx,run_indexAt_slice V T H (show n<(N.length:Nat)by rw[f];exact I),Result.andThen_ok,Sem.run_pure];simp
   . cases g
 . rename_i ee l rows pl n d hn;split at g
   . rename_i B;obtain⟨rfl,H⟩:=B;obtain⟨kk,hn⟩:=OC hn;obtain⟨C,_⟩:=h.FB R hn;rw[AA6]at g;obtain⟨row,u,rfl⟩:=g;have K:∃s,y= .t s/\(δ s).er= .sl ee l rows:=by
      cases y with
      |c c=>
       obtain⟨D,J⟩:=L;simp only[hd]at d;split at d
       . simp at d
       . cases d
      |t s=>
       refine⟨s,rfl,?_⟩;simp only[hd]at d;cases hs:(δ s).er with
       |sl e2 k2 I9=>simp only[hs,AAh,AAv]at d;exact d.1
       |al r p=>
        simp only[hs]at d;split at d
        . rename_i n' vR;simp only[AAh,AAv]at d;obtain⟨rfl,_⟩:=d
          -- an alias names a node
          obtain⟨_,_,G4⟩:=h.leaf hs rfl;obtain⟨fN,k2,M,hl⟩:=G4;obtain⟨D,J,Z⟩:=Dr (h.ok r).LD vR;rw[hl]at J;obtain rfl:=AAl J;simp at Z
        . cases d
       |own=>simp[hs]at d
       |_=>simp[hs]at d
     have N4:=(h.rB L d).2 _ _ _ rfl K;have D4:n.toNat<rows.length:=(AAj.1 u).1;generalize C7 δ y=vh at*;cases N4 with
     |nil=>simp at u
     |sl _ _ _ b off c vs hx Qy hS dY Bo hr=>
      refine⟨.pointer (some ⟨b,off+n.toNat*l,none⟩),?_,Lf.fp hS λm a z=> ?_⟩
      . simp only[execOp,U,Q,q,C,Sem.run_bind,run_indexAt_slice V T H (show n<(rows.length:Nat)by omega),Result.andThen_ok,Sem.run_pure]
      . refine⟨vs n.toNat m,?_,hr _ _ _ _ u z⟩
        have:=Bo _ _ _ _ u z;rw[show off+n.toNat*l+m=off+(n.toNat*l+m)from by omega];exact this
   . cases g
 . cases g
theorem u6 (h:St G w S δ Fr) {a:Act} (z:Rd δ a) {o:Oper} {op:BinOp} {t u:TypeId} {x y:Operand} {D E:Ar} (p:o.op= .binOp op t x y u) (H:CM x D=true) (F:CM y E=true) {v:AV}
 (b:valOf (.bin op D E) (λs=>(δ s).er)=some v):Gives P w S δ a o v:=by
 obtain⟨B,g⟩:=Am H z;obtain⟨C,i⟩:=Am F z;simp only[valOf]at b;unfold binF at b;split at b
 . rename_i k n K m j l;obtain⟨d,_⟩:=h.FB B j;obtain⟨e,_⟩:=h.FB C l;split at b
   . rename_i I;subst I;rw[AA6]at b;obtain⟨q,c,rfl⟩:=b;have f:(eqGuard op t x y (.int k n) (.int k m)).run P w= .ok () w:=(by cases op<;>simp[eqGuard]);have J:(binOp op t (.int k n) (.int k m)).run P w= .ok q w:=by
      cases op<;>simp[binI]at c<;>first
       | (subst c;simp[binOp,Op.intArith,Op.intCmp];done)
       | (obtain⟨r,rfl⟩:=c;simp[binOp,Op.intDiv,r];done)
     refine⟨q,?_,Lf.sc q ?_⟩
     . simp only[execOp,p,g,i,d,e,Sem.run_bind,f,J,Result.andThen_ok,Sem.run_pure]
     . cases op<;>simp[binI]at c<;>first
        | (subst c;rfl)
        | (obtain⟨r,rfl⟩:=c;rfl)
   . cases b
 . rename_i n m j l;obtain⟨d,_⟩:=h.FB B j;obtain⟨e,_⟩:=h.FB C l;have f:∀op,(eqGuard op t x y (.string n) (.string m)).run P w= .ok () w:=(by intro op;cases op<;>simp[eqGuard]);split at b
   . simp only[AAh]at b;subst b;refine⟨_,?_,Lf.sc _ rfl⟩;simp only[execOp,p,g,i,d,e,Sem.run_bind,f,Result.andThen_ok];simp[binOp,Op.stringOp]
   . simp only[AAh]at b;subst b;refine⟨_,?_,Lf.sc _ rfl⟩;simp only[execOp,p,g,i,d,e,Sem.run_bind,f,Result.andThen_ok];simp[binOp,Op.stringOp]
   . cases b
 . cases b
theorem uZ (h:St G w S δ Fr) {a:Act} (j:Rd δ a) {o:Oper} {op:BinOp} {t u:TypeId} {x y:Operand} {q r:Ar} {b:Bool} (l:o.op= .binOp op t x y u) (d:op=if b=true then .neq else .eql) (p:P.underlying t=some .bool) (D:CM x q=true) (z:CM y r=true) {v:AV}
 (c:valOf (.beq b q r) (λs=>(δ s).er)=some v):Gives P w S δ a o v:=by
 obtain⟨E,g⟩:=Am D j;obtain⟨F,i⟩:=Am z j;simp only[valOf]at c;split at c
 . rename_i n m B C;obtain⟨e,_⟩:=h.FB E B;obtain⟨f,_⟩:=h.FB F C;simp only[AAh]at c;subst c;refine⟨_,?_,Lf.sc _ rfl⟩;have k:∀op,(eqGuard op t x y (.bool n) (.bool m)).run P w= .ok () w:=(by intro op;cases op<;>simp[eqGuard]);cases b with
   |true=>simp only[AA5]at d;subst d;simp only[execOp,l,g,i,e,f,Sem.run_bind,k,Result.andThen_ok,run_neq_bool w t n m p,Sem.run_pure,AA5]
   |false=>simp only[AAr,AAx]at d;subst d;simp only[execOp,l,g,i,e,f,Sem.run_bind,k,Result.andThen_ok,run_eql_bool w t n m p,Sem.run_pure,AAr,AAx]
 . cases c
theorem gives_un (h:St G w S δ Fr) {a:Act} (j:Rd δ a) {o:Oper} {op:UnOp} {t:TypeId} {x:Operand} {i:Ar} (f:o.op= .unOp op t x) (l:CM x i=true) {v:AV} (b:valOf (.un op i) (λs=>(δ s).er)=some v):Gives P w S δ a o v:=by
 obtain⟨g,e⟩:=Am l j;simp only[valOf]at b;unfold unF at b;split at b
 . rename_i n d;obtain⟨c,_⟩:=h.FB g d;split at b
   . simp only[AAh]at b;subst b;exact⟨_,by simp[execOp,f,e,c,Op.unary],Lf.sc _ rfl⟩
   . cases b
 . rename_i k n d;obtain⟨c,_⟩:=h.FB g d;split at b
   . simp only[AAh]at b;subst b;exact⟨.int k (k.wrap (0-n)),by simp[execOp,f,e,c,Op.unary,Op.intArith],Lf.sc _ rfl⟩
   . cases b
 . cases b
theorem u7 (h:St G w S δ Fr) {a:Act} (i:Rd δ a) {o:Oper} {s d:TypeId} {k q:IntKind} {x:Operand} {c:Ar} (l:o.op= .convert s d x) (m:P.underlying s=some (.int q)) (hd:P.underlying d=some (.int k)) (j:CM x c=true) {v:AV} (b:valOf (.cvt k c) (λs=>(δ s).er)=some v):Gives P w S δ a o v:=by
 obtain⟨p,f⟩:=Am j i;simp only[valOf]at b;split at b
 . rename_i r n g;obtain⟨e,_⟩:=h.FB p g;simp only[AAh]at b;subst b;exact⟨.int k (k.wrap n),by simp[execOp,l,f,e,convert,underlying,m,hd,Conv.intToInt],Lf.sc _ rfl⟩
 . cases b
end Go.Abs
namespace Go.Abs
variable {w w':World} {S S':Nat->Prop} {G:Gi} {δ:Nat->DV} {Fr:Nat->Nat->Prop} {P:Program}
theorem cA {v:Value} {k:Nat} {rows:List (List DV)} {F:Nat->Prop} (h:Ok w S (.own v false k rows) F):∃a c,v= .slice a rows.length c:=by
 cases h with
 |nil=>simp_all
 |own _ _ _ b c=>exact⟨some ⟨b,0,none⟩,c,by simp[Jp]⟩
theorem Pc {v:Value} {e:Bool} {k:Nat} {rows:List (List AV)} (h:Fz w S (.sl e k rows) v):∃a c,v= .slice a rows.length c:=by
 cases h with
 |nil _ _ a c=>simp_all
 |sl _ _ _ b off c=>simp_all
theorem St.hdSl (h:St G w S δ Fr) {x:Ar} (j:XE x) {e:Bool} {k:Nat} {rows:List (List AV)} {m:AB8 (Nat×List Step)} (a:hd (λs=>(δ s).er) x=some (.sl e k rows,m)):
 ∃s,x= .t s/\(δ s).er= .sl e k rows:=by
 cases x with
 |c c=>obtain⟨D,b⟩:=j;simp only[hd]at a;grind
 |t s=>
  refine⟨s,rfl,?_⟩;simp only[hd]at a;cases hs:(δ s).er with
  |sl e2 l I9=>simp_all
  |al r p=>
   simp only[hs]at a;split at a
   . rename_i q n;simp only[AAh,AAv]at a;obtain⟨rfl,_⟩:=a;obtain⟨_,_,g⟩:=h.leaf hs rfl;obtain⟨o,l,d,i⟩:=g;obtain⟨D,b,f⟩:=Dr (h.ok r).LD n;rw[i]at b;obtain rfl:=AAl b;simp at f
   . cases a
  |own=>simp_all
  |_=>simp_all
theorem run_len_slice {t:TypeId} (a:AB8 Addr) (n c:Nat) (d:∃e,P.underlying t=some (.slice e)) (ty:TypeId) (w:World):
 (Builtin.len_ #[t] ty #[.slice a n c]).run P w= .ok (.int .i64 n) w:=by
 obtain⟨e,b⟩:=d;simp[Builtin.len_,underlying,b,goInt]
theorem vE (h:St G w S δ Fr) {a:Act} (B:Rd δ a) {o:Oper} {c:Call} {x:Operand} {t:TypeId} {l:Ar} (D:o.op= .call c) (q:c.callee= .builtin .len) (p:c.args.toList=[x]) (i:c.argTypes.toList=[t])
 (H:(∃e,P.underlying t=some (.slice e))) (C:CM x l=true) {v:AV} (d:valOf (.len l) (λs=>(δ s).er)=some v):Gives P w S δ a o v:=by
 obtain⟨j,z⟩:=Am C B;have u:c.args= #[x]:=by apply ABx;simpa using p
 have y:c.argTypes= #[t]:=by apply ABx;simpa using i
 have key:∀(b:AB8 Addr) (n cc:Nat),C7 δ l= .slice b n cc->v= .sc (.int .i64 n)->Gives P w S δ a o v:=by
  rintro b n cc g rfl;refine⟨.int .i64 n,?_,Lf.sc _ rfl⟩
  have:=run_len_slice (P:=P) b n cc H o.type w;simp only[execOp,D,resolve,q,u,y,invoke,builtin,Sem.run_bind,Sem.run_pure,Result.andThen_ok,List.map_toArray,AAy,ABF,z,g,this]
 simp only[valOf]at d;split at d
 . rename_i k rows I f;simp only[AAh]at d;obtain⟨J,F,K,m,_⟩:=(h.rB j f).1 _ _ _ rfl;obtain⟨b,cc,E⟩:=cA m;grind
 . rename_i e k rows I f;simp only[AAh]at d;have r:=(h.rB j f).2 _ _ _ rfl (h.hdSl j f);obtain⟨b,cc,E⟩:=Pc r;simp_all
 . cases d
theorem oH (h:St G w S δ Fr) {a:Act} (m:Rd δ a) {o:Oper} {c:Call} {x:Operand} {t:TypeId} {e:Ar} (p:o.op= .call c) (g:c.callee= .builtin .len) (f:c.args.toList=[x]) (d:c.argTypes.toList=[t])
 (r:P.underlying t=some .string) (n:CM x e=true) {v:AV} (b:valOf (.Z6 e) (λs=>(δ s).er)=some v):Gives P w S δ a o v:=by
 obtain⟨u,l⟩:=Am n m;have i:c.args= #[x]:=by apply ABx;simpa using f
 have j:c.argTypes= #[t]:=by apply ABx;simpa using d
 simp only[valOf]at b;split at b
 . rename_i s q;simp only[AAh]at b;subst b;obtain⟨k,_⟩:=h.FB u q;refine⟨.int .i64 s.size,?_,Lf.sc _ rfl⟩;simp only[execOp,p,resolve,g,i,j,invoke,builtin,Sem.run_bind,Sem.run_pure,Result.andThen_ok,List.map_toArray,AAy,ABF,l,k];simp[Builtin.len_,underlying,r,goInt]
 . cases b
theorem u9 (h:St G w S δ Fr) {a:Act} (y:Rd δ a) {o:Oper} {x:Operand} {i:Nat} {j:Ar} (C:o.op= .extract x i) (z:CM x j=true) {v:AV} (b:valOf (.ext j i) (λs=>(δ s).er)=some v):Gives P w S δ a o v:=by
 obtain⟨E,n⟩:=Am z y;cases j with
 |c c=>simp[valOf]at b
 |t s=>
  simp only[valOf]at b;split at b
  . rename_i m g;split at b
    . rename_i c l;simp only[AAh]at b;subst b;obtain⟨ds,f,B⟩:∃ds,δ s= .BM ds/\ds.map DV.er=m:=by
       have:=(h.ok s).LD;cases hd:δ s with
       |BM ds=>simp_all
       |lf c v=>rw[hd]at g this;cases this with|lf _ _ hl=>simp at g;subst g;simp[C9]at hl
       |own=>simp_all
       |agg=>simp_all
      rw[← B,AAt,AA6]at l;obtain⟨d,hd,rfl⟩:=l;have k:=h.ok s;have e:=h.al s;rw[f]at k e;cases k with
      |BM _ Fs _ hr MV Bi hF=>
       cases e with
       |BM _ e=>obtain⟨D,p,q,r,u⟩:=viewD (δ:=δ) s (hr i d hd) [(0,i,0)] (by simp[Au,f,hd]) (e i d hd);refine⟨d.A0,?_,D,p,q,r,u⟩;have:(ds.map DV.A0).toArray[i]? =some d.A0:=(by simp[hd]);simp only[execOp,C,n,C7,f,Lg,Instr.extract,Sem.run_bind,this,Sem.run_pure,Result.andThen_ok]
    . cases b
  . cases b
theorem run_indexAt_array {t e:TypeId} {len k:Nat} (f:P.underlying t=some (.array len e)) (d:Gv P e=some k) {b off:Nat} {g:IntKind} {n:Int} (a:0≤n) (c:n<len) (w:World):
 (Instr.indexAt t (.pointer (some ⟨b,off,none⟩)) (.int g n)).run P w= .ok (.pointer (some ⟨b,off+n.toNat*k,none⟩)) w:=by
 simp[Instr.indexAt,asIntOf,underlying,f,a,c,run_sizeOf d,Addr.add_lit,Instr.sureAddr]
theorem uY (h:St G w S δ Fr) {a:Act} (z:Rd δ a) {o:Oper} {t e:TypeId} {x i:Operand} {len k:Nat} {y j:Ar} (D:o.op= .indexAddr t x i) (E:P.underlying t=some (.array len e)) (C:Gv P e=some k) (Q:CM x y=true) (J:CM i j=true) {v:AV}
 (d:valOf (.aad len k y j) (λs=>(δ s).er)=some v):Gives P w S δ a o v:=by
 obtain⟨Z,B⟩:=Am Q z;obtain⟨R,f⟩:=Am J z;cases y with
 |c c=>simp[valOf]at d
 |t s=>
  simp only[valOf]at d;split at d
  . rename_i s' n g hn;simp only[Ar.t.injEq]at g;subst g;split at d
    . rename_i I;obtain⟨q,u⟩:=I;obtain⟨kk,hn⟩:=OC hn;obtain⟨L,_⟩:=h.FB R hn;rw[L]at f;cases hs:(δ s).er with
      |fp cs=>
       simp only[hs,AAh]at d;subst d;obtain⟨_,M,_⟩:=h.leaf hs rfl;obtain⟨b,off,l,N,V⟩:=M;refine⟨.pointer (some ⟨b,off+n.toNat*k,none⟩),?_,Lf.fp N λm a X=> ?_⟩
       . simp only[execOp,D,B,f,C7,l,Sem.run_bind,run_indexAt_array E C q u,Result.andThen_ok,Sem.run_pure]
       grind
      |_=>
       simp only[hs]at d;split at d
       . rename_i r p i j T K;simp only[AAh]at d;subst d;obtain⟨vh,bx,U,b,F,H,O,l,W,_⟩:=h.EL K;refine⟨.pointer (some ⟨b,i*T+(j+n.toNat*k),none⟩),?_,Lf.K2 H O⟩;simp only[execOp,D,B,f,C7,l,Sem.run_bind,run_indexAt_array E C q u,Result.andThen_ok,Sem.run_pure,Nat.add_assoc]
       . cases d
    . cases d
  . cases d
theorem Y0 {t:TypeId} {g:Bool} {n off:Nat} {vals:List Value} (hn:Gv P t=some n) (b:Jb P t=some g) (c:g=true∨n=1) (a:((vals.drop off).take n).length=n):
 (part t vals.toArray off).run P w= .ok (if g=true then .agg ((vals.drop off).take n).toArray else((vals.drop off).take n).headD undef) w:=by
 cases g with
 |true=>
  have e:vals.toArray.extract off (off+n)=((vals.drop off).take n).toArray:=by apply ABx;simp[List.extract_eq_take_drop]
  simp[part,Qq b,run_sizeOf hn,e]
 |false=>
  obtain rfl:=c.resolve_left (by simp)
  match hd:(vals.drop off).take 1,a with
  |[v],_=>have d:vals[off]? =some v:=(by have:((vals.drop off).take 1)[0]? =some v:=(by rw[hd];rfl);simpa using this);simp[part,Qq b,d]
theorem vB (h:St G w S δ Fr) {a:Act} (m:Rd δ a) {o:Oper} {t:TypeId} {x:Operand} {f:Nat} {agg:Bool} {off n:Nat} {y:Ar} {i:Array Field} {e:Field} (z:o.op= .field t x f) (C:P.underlying t=some (.struct i)) (r:i[f]? =some e) (j:e.offset=off)
 (hn:Gv P e.type=some n) (u:Jb P e.type=some agg) (l:agg=true∨n=1) (p:CM x y=true) {v:AV} (d:valOf (.fld agg off n y) (λs=>(δ s).er)=some v):Gives P w S δ a o v:=by
 obtain⟨E,q⟩:=Am p m;cases y with
 |c c=>simp[valOf]at d
 |t s=>
  simp only[valOf]at d;split at d
  . rename_i D B;obtain⟨vals,g,b,k⟩:=SP h B d;refine⟨_,?_,k⟩
    have:=Y0 (w:=w) hn u l b;simp only[execOp,z,q,C7,g,Instr.field,run_underlying C,r,asAgg,j,Sem.run_bind,Sem.run_pure,Result.andThen_ok,this]
  . cases d
theorem vD (h:St G w S δ Fr) {a:Act} (m:Rd δ a) {o:Oper} {t e:TypeId} {x i:Operand} {agg:Bool} {len k:Nat} {y j:Ar} (H:o.op= .index t x i) (J:P.underlying t=some (.array len e)) (p:Gv P e=some k) (E:Jb P e=some agg) (B:agg=true∨k=1)
 (C:CM x y=true) (r:CM i j=true) {v:AV} (b:valOf (.idx agg len k y j) (λs=>(δ s).er)=some v):Gives P w S δ a o v:=by
 obtain⟨L,D⟩:=Am C m;obtain⟨F,d⟩:=Am r m;cases y with
 |c c=>simp[valOf]at b
 |t s=>
  simp only[valOf]at b;split at b
  . rename_i N n f hn;simp only[Ar.t.injEq]at f;subst f;split at b
    . rename_i q;obtain⟨M,hn⟩:=OC hn;obtain⟨u,_⟩:=h.FB F hn;rw[u]at d;split at b
      . rename_i K I;obtain⟨vals,l,g,z⟩:=SP h I b;refine⟨_,?_,z⟩
        have:=Y0 (w:=w) p E B g;simp only[execOp,H,D,d,C7,l,Instr.index,asIntOf,run_underlying J,q,and_self,AA5,run_sizeOf p,Sem.run_bind,Sem.run_pure,Result.andThen_ok,this]
      . cases b
    . cases b
  . cases b
theorem oG (h:St G w S δ Fr) {a:Act} (e:Rd δ a) {o:Oper} {t:TypeId} {x i:Operand} {y j:Ar} (u:o.op= .index t x i) (B:P.underlying t=some .string) (p:CM x y=true) (f:CM i j=true) {v:AV}
 (c:valOf (.lE y j) (λs=>(δ s).er)=some v):Gives P w S δ a o v:=by
 obtain⟨C,q⟩:=Am p e;obtain⟨r,d⟩:=Am f e;simp only[valOf]at c;split at c
 . rename_i s n z hn;obtain⟨D,hn⟩:=OC hn;obtain⟨g,_⟩:=h.FB r hn;obtain⟨k,_⟩:=h.FB C z;split at c
   . rename_i l;rw[AA6]at c;obtain⟨b,m,rfl⟩:=c;refine⟨.int .u8 b.toNat,?_,Lf.sc _ rfl⟩;simp only[execOp,u,q,d,g,k,Instr.index,asIntOf,run_underlying B,l,AA5,m,Sem.run_bind,Sem.run_pure,Result.andThen_ok]
   . cases c
 . cases c
theorem St.AAC (h:St G w S δ Fr) {x:Ar} (n:XE x) {f:List AV} (g:ar (λs=>(δ s).er) x= .agg f):∃vals:List Value,C7 δ x= .agg vals.toArray/\∀(j:Nat) u,f[j]? =some (.sc u)->vals[j]? =some u:=by
 obtain⟨D,F,e,o,i⟩:∃(D:DV) (F:Nat->Prop),D.er= .agg f/\D.A0=C7 δ x/\Ok w S D F:=by
  cases x with
  |t s=>exact⟨δ s,Fr s,g,rfl,h.ok s⟩
  |c c=>obtain⟨k,l⟩:=n;obtain⟨m,g2,p,_⟩:=Iu (w:=w) (S:=S) (δ:=δ) c k l;simp only[ar]at g;exact⟨k,_,m.trans g,by simp[C7,l],g2⟩
 obtain⟨ds,rfl⟩:∃ds,D= .agg ds:=by
  have:=i.LD;cases D with
  |agg ds=>simp_all
  |lf c v=>cases this with|lf _ _ hl=>simp at e;subst e;simp[C9]at hl
  |own=>simp at e
  |BM=>simp at e
 refine⟨ds.map DV.A0,by simp_all,λj u b=> ?_⟩;simp only[Hi,AV.agg.injEq]at e;subst e;simp only[AAt]at b ⊢;cases hd:ds[j]? with
 |none=>simp_all
 |some d=>
  simp only[hd,AA9,AAh]at b ⊢;cases i with
  |agg _ Fs _ hr _ _ _=>
   have:=hr j d hd;cases this with
   |lf a v _ hl _=>simp only[Ei]at b;subst b;simpa using hl.1
   |nil=>simp at b
   |own=>simp at b
   |agg=>simp at b
   |BM=>simp at b
def kdOf:TypeDesc->AB8 Nat
 | .bool=>some 0
 | .int _=>some 1
 | .string=>some 2
 |_=>none
def Qf (P:Program):Nat->List Field->List Nat->Bool
 |_,[],[]=>true
 |i,f::fs,k::ks=>f.name != "_" &&f.offset==i&&Gv P f.type==some 1&&Jb P f.type==some false&&((P.underlying f.type).bind kdOf==some k)&&Qf P (i+1) fs ks
 |_,_,_=>false
def nO (P:Program) (t:TypeId) (kd:List Nat):Bool:=match P.underlying t with
 |some (.struct fs)=> !P.stoodInHeld t&& !P.eqGuardType P.depth t&&Qf P 0 fs.toList kd
 |_=>false
theorem eqSc_run (d:Nat) {t:TypeId} {k:Nat} {u v:Value} {b:Bool} (a:(P.underlying t).bind kdOf=some k) (h:uT k u v=some b):(Op.equalIn (d+1) t u v).run P w= .ok b w:=by
 cases hu:P.underlying t with
 |none=>simp_all
 |some T=>
  simp only[hu,AAg]at a;cases T<;>simp only[kdOf,AAh,reduceCtorEq]at a<;>subst a
  . cases u<;>cases v<;>simp only[uT,AAh,reduceCtorEq]at h;subst h;exact run_equalIn_bool' w d t _ _ hu
  . cases u<;>cases v<;>simp only[uT,reduceCtorEq]at h;split at h
    . rename_i e;subst e;simp only[AAh]at h;subst h;exact run_equalIn_int w d t _ _ _ _ hu
    . cases h
  . cases u<;>cases v<;>simp only[uT,AAh,reduceCtorEq]at h;subst h;exact run_equalIn_string w d t _ _ hu
theorem dQ (d:Nat) (q r:List Value) (p:List Field):∀(h:List Nat) (i:Nat) (c g:List AV) (b:Bool),Qf P i p h=true->Qg h c g=some b->
 (∀(j:Nat) u,c[j]? =some (.sc u)->q[i+j]? =some u)->(∀(j:Nat) u,g[j]? =some (.sc u)->r[i+j]? =some u)->(Op.eqFields (d+1) q.toArray r.toArray p).run P w= .ok b w:=by
 induction p with
 |nil=>
  intro h i c g b m e _ _;cases h with
  |cons=>simp[Qf]at m
  |nil=>cases c<;>cases g<;>simp only[Qg,AAh,reduceCtorEq]at e;subst e;simp[Op.eqFields]
 |cons f p ih=>
  intro h i c g b m e n o;cases h with
  |nil=>simp[Qf]at m
  |cons k ks=>
   simp only[Qf,AAi,AAw,bne_iff_ne]at m;obtain⟨⟨⟨⟨⟨D,E⟩,F⟩,G⟩,H⟩,I⟩:=m
   match c,g,e with
   | .sc u::c,.sc v::g,e=>
    simp only[Qg]at e;split at e
    . rename_i a B C g2;simp only[AAh]at e;have t:q[i]? =some u:=(by have:=n 0 u rfl;simpa using this);have x:r[i]? =some v:=(by have:=o 0 v rfl;simpa using this);have one:∀(l:List Value) (u:Value),l[i]? =some u->(part f.type l.toArray i).run P w= .ok u w:=by
       intro l u J;have K:(l.drop i).take 1=[u]:=by obtain⟨z,rfl⟩:=AAj.1 J;rw[ABd z];rfl
       have:=Y0 (w:=w) (off:=i) (vals:=l) F G (.inr rfl) (by grind);rw[this,K];rfl
      have y:=ih ks (i+1) c g B I g2 (λj u s=>by have:=n (j+1) u s;grind) (λj u s=>by have:=o (j+1) u s;grind);simp only[Op.eqFields,D,ne_eq,not_false_eq_true,AA5,E,Sem.run_bind,one q u t,one r v x,Result.andThen_ok,eqSc_run d H C];cases a with
      |true=>simp_all
      |false=>simp_all
    . cases e
theorem oF (h:St G w S δ Fr) {a:Act} (C:Rd δ a) {o:Oper} {op:BinOp} {t u:TypeId} {x y:Operand} {F H:Ar} {c:Bool} {k:List Nat} (E:o.op= .binOp op t x y u) (f:op=if c=true then .neq else .eql) (d:nO P t k=true) (Q:CM x F=true) (I:CM y H=true) {v:AV}
 (e:valOf (.Wf c k F H) (λs=>(δ s).er)=some v):Gives P w S δ a o v:=by
 obtain⟨U,r⟩:=Am Q C;obtain⟨V,z⟩:=Am I C;simp only[valOf]at e;split at e
 . rename_i g J M N;obtain⟨l,p,f1⟩:=h.AAC U M;obtain⟨m,q,f2⟩:=h.AAC V N;rw[AA6]at e;obtain⟨b,O,rfl⟩:=e;refine⟨_,?_,Lf.sc _ rfl⟩;unfold nO at d;split at d
   . rename_i B T;simp only[AAi,ABR]at d;obtain⟨⟨K,g2⟩,L⟩:=d;have i:P.fieldsOf t=B:=(by simp[Program.fieldsOf,T]);have n:(Op.equalIn 10000 t (.agg l.toArray) (.agg m.toArray)).run P w= .ok b w:=(by rw[run_equalIn_struct w 9999 t _ _ (by simp_all) K,i];exact dQ 9998 l m B.toList k 0 g J b L O (λj u R=>by simp_all) (λj u R=>by simp_all));have D:∀op,(eqGuard op t x y (.agg l.toArray) (.agg m.toArray)).run P w= .ok () w:=λop=>run_eqGuard_agg w op t x y _ _ g2;cases c with
     |true=>simp only[AA5]at f;subst f;simp only[execOp,E,r,z,p,q,Sem.run_bind,D,Result.andThen_ok,run_neq_struct,n,Sem.run_pure,AA5]
     |false=>simp only[AAr,AAx]at f;subst f;simp only[execOp,E,r,z,p,q,Sem.run_bind,D,Result.andThen_ok,run_eql_struct,n,Sem.run_pure,AAr,AAx]
   . cases d
 . cases e
theorem gives_mm (h:St G w S δ Fr) {a:Act} (i:Rd δ a) {o:Oper} {c:Call} {x y:Operand} {l p:Ar} {mx:Bool} (j:o.op= .call c) (d:c.callee= .builtin (if mx=true then .max else .min)) (q:c.args.toList=[x,y])
 (u:CM x l=true) (r:CM y p=true) {v:AV} (b:valOf (.mm mx l p) (λs=>(δ s).er)=some v):Gives P w S δ a o v:=by
 obtain⟨B,f⟩:=Am u i;obtain⟨C,g⟩:=Am r i;have e:c.args= #[x,y]:=by apply ABx;simpa using q
 simp only[valOf]at b;split at b
 . rename_i k n D m t g2;obtain⟨f1,_⟩:=h.FB B t;obtain⟨f2,_⟩:=h.FB C g2;split at b
   . rename_i z;subst z;simp only[AAh]at b;subst b;refine⟨_,?_,Lf.sc _ rfl⟩;cases mx with
     |true=>simp only[AA5]at d;simp only[execOp,j,resolve,d,e,invoke,builtin,Sem.run_bind,Sem.run_pure,Result.andThen_ok,List.map_toArray,AAy,ABF,f,g,f1,f2,run_max_int2,AA5]
     |false=>simp only[AAr,AAx]at d;simp only[execOp,j,resolve,d,e,invoke,builtin,Sem.run_bind,Sem.run_pure,Result.andThen_ok,List.map_toArray,AAy,ABF,f,g,f1,f2,run_min_int2,AAr,AAx]
   . cases b
 . cases b
theorem rT {v:Value} {k:Nat} {rows:List (List DV)} {F:Nat->Prop} (h:Ok w S (.own v true k rows) F):∃b,v= .pointer (some ⟨b,0,none⟩):=by
 cases h with
 |own _ _ _ b c arr E Fs _=>exact⟨b,by simp[Jp]⟩
theorem oC (h:St G w S δ Fr) {a:Act} (F:Rd δ a) {o:Oper} {x:Operand} {y:Ar} (l:o.op= .nilCheck x) (H:CM x y=true) {v:AV} (d:valOf (.KK y) (λs=>(δ s).er)=some v):Gives P w S δ a o v:=by
 obtain⟨I,f⟩:=Am H F;cases y with
 |c c=>
  obtain⟨K,J⟩:=I;simp only[valOf,ar]at d;cases c<;>first
   | (simp[JE]at J;done)
   |grind
   |grind
 |t s=>
  simp only[valOf,ar]at d;cases hs:(δ s).er with
  |K2 r p i j k=>rw[hs]at d;simp only[AAh]at d;subst d;obtain⟨B,_,g,bx,rows,b,m,g2,n⟩:=h.leaf hs rfl;exact⟨_,by simp only[execOp,l,f,C7,n,Sem.run_pure],Lf.K2 m g2⟩
  |fp cs=>rw[hs]at d;simp only[AAh]at d;subst d;obtain⟨B,⟨b,off,m,g2,n⟩,_⟩:=h.leaf hs rfl;exact⟨_,by simp only[execOp,l,f,C7,m,Sem.run_pure],Lf.fp g2 n⟩
  |own b k rows=>
   rw[hs]at d;cases b with
   |false=>simp at d
   |true=>simp only[AAh]at d;subst d;obtain⟨E,hd,L⟩:=h.YS hs;have e:=h.ok s;rw[hd]at e;obtain⟨b,g⟩:=rT e;refine⟨(δ s).A0,?_,Lf.al (r:=s) (p:=[]) (bx:=true) (k:=k) (rows:=E) (by simp[Au];exact hd)⟩;simp only[execOp,l,f,C7];rw[g];simp only[Sem.run_pure]
  |al r p=>
   rw[hs]at d;simp only at d;split at d
   . rename_i k rows hn;simp only[AAh]at d;subst d;obtain⟨B,_,bx,M,u,q⟩:=h.leaf hs rfl;obtain⟨D,C,z⟩:=Dr (h.ok r).LD hn;rw[q]at C;obtain rfl:=AAl C;simp only[Et,AV.own.injEq]at z;obtain⟨rfl,rfl,_⟩:=z;obtain⟨F',e,_⟩:=(h.ok r).Au q;obtain⟨b,g⟩:=rT e;refine⟨(δ s).A0,?_,Lf.al q⟩;simp only[execOp,l,f,C7];rw[g];simp only[Sem.run_pure]
   . cases d
  |_=>simp_all
theorem nC (h:St G w S δ Fr) {a:Act} (F:Rd δ a) (j:List Ar):∀{d:List Operand} {rs:List (Nat×List Step)},G3 d j=true->S7 (λs=>(δ s).er) j=some rs->
 d.length=rs.length/\∀(i:Nat) r p u,rs[i]? =some (r,p)->(d.map a.eval)[i]? =some u->∃bx k rows,Au (δ r) p=some (.own u bx k rows):=by
 induction j with
 |nil=>
  intro d rs f b;cases d with
  |cons=>simp[G3]at f
  |nil=>simp only[S7,AAh]at b;subst b;exact⟨rfl,by simp⟩
 |cons y j ih=>
  intro d rs f b;cases d with
  |nil=>simp[G3]at f
  |cons x d=>
   simp only[G3,AAi]at f;obtain⟨I,z⟩:=Am f.1 F;cases y with
   |c=>simp[S7]at b
   |t s=>
    simp only[S7]at b;have step:∀v o l,S7 (λs=>(δ s).er) j=some l->rs=(v,o)::l->(∃bx k rows,Au (δ v) o=some (.own (a.eval x) bx k rows))->(x::d).length=rs.length/\∀(i:Nat) r p u,rs[i]? =some (r,p)->((x::d).map a.eval)[i]? =some u->∃bx k rows,Au (δ r) p=some (.own u bx k rows):=by
     rintro v o l g rfl E;obtain⟨D,g2⟩:=ih f.2 g;refine⟨by simp[D],λi r p u hi n=> ?_⟩;cases i with
     |zero=>simp only[ABO,AAh,AAv,AAy]at hi n;obtain⟨rfl,rfl⟩:=hi;subst n;exact E
     |succ i=>exact g2 i r p u (by simpa using hi) (by simpa using n)
    split at b
    . rename_i k rows l m g;simp only[AAh]at b;obtain⟨B,hd,_⟩:=h.YS m;exact step s [] l g b.symm ⟨true,k,B,by rw[z];simp[Au,C7];exact hd⟩
    . rename_i q p l m g;split at b
      . rename_i k rows hn;simp only[AAh]at b;obtain⟨_,_,bx,H,e,C⟩:=h.leaf m rfl;exact step q p l g b.symm ⟨bx,H,e,by rw[z];exact C⟩
      . cases b
    . cases b
theorem Lf.cl {f:Nat} {rs:List (Nat×List Step)} {vs:List Value} (a:vs.length=rs.length) (b:∀(i:Nat) r p u,rs[i]? =some (r,p)->vs[i]? =some u->∃bx k rows,Au (δ r) p=some (.own u bx k rows)):Lf w S δ (.cl f rs) (.func (.func f) #[] vs.toArray):=
 ⟨.lf (.cl f rs) _,by simp,by simp,.lf _ _ _ trivial (λ_ h=>h),.lf _ _ ⟨vs,rfl,a,b⟩⟩
theorem bD (h:St G w S δ Fr) {a:Act} (g:Rd δ a) {o:Oper} {f:Nat} {first b:Array Operand} {c:List Ar} (k:o.op= .makeFunc (.func f) first b) (j:first= #[]) (i:G3 b.toList c=true) {v:AV} (d:valOf (.mkf f c) (λs=>(δ s).er)=some v):Gives P w S δ a o v:=by
 simp only[valOf,AA6]at d;obtain⟨rs,l,rfl⟩:=d;obtain⟨m,g2⟩:=nC h g c i l;refine⟨.func (.func f) #[] (b.toList.map a.eval).toArray,?_,Lf.cl (by simp_all) g2⟩;subst j;have e:b.map a.eval=(b.toList.map a.eval).toArray:=by apply ABx;simp
 simp[execOp,k,Instr.makeFunc,e]
end Go.Abs
namespace Go.Abs
variable {w w':World} {S S':Nat->Prop} {G:Gi} {δ:Nat->DV} {Fr:Nat->Nat->Prop} {P:Program}
theorem K7 {d:Type} {rows:List (List d)} {k i j:Nat} {a:List d} {x:d} (c:∀a∈rows,a.length=k) (b:rows[i]? =some a) (e:a[j]? =some x):rows.flatten[i*k+j]? =some x:=by
 induction rows generalizing i with
 |nil=>simp at b
 |cons r rs ih=>
  have f:=c r (by simp);have h:=Si c b e;cases i with
  |zero=>simp only[ABO,AAh]at b;subst b;simp only[List.flatten_cons,Nat.zero_mul,ABr];rw[ABA (by omega)];exact e
  |succ i=>simp only[ABT]at b;simp only[List.flatten_cons];rw[ABC (by rw[f,ABl];omega),f,show(i+1)*k+j-k=i*k+j from by rw[ABl];omega];exact ih (λa g=>c a (by simp[g])) b
theorem Dk {d:Type} {rows:List (List d)} {k:Nat} (b:∀a∈rows,a.length=k):rows.flatten.length=rows.length*k:=by
 induction rows with
 |nil=>simp
 |cons r rs ih=>simp only[List.flatten_cons,ABK,ABe,b r (by simp),ih (λa c=>b a (by simp[c])),ABl];omega
theorem Lt {g m:List DV} {b a:Nat->Prop} (k:Jm w S g b) (n:Jm w S m a) (hd:∀x,b x->¬a x):Jm w S (g++m) (λx=>b x∨a x):=by
 induction g generalizing b with
 |nil=>have:(λx=>b x∨a x)=a:=funext λx=>propext ⟨λh=>h.elim (λh=>absurd h (k x)) id,.inr⟩;rw[this];exact n
 |cons d l ih=>
  obtain⟨i,j,o,p,f,e⟩:=k;refine⟨i,λx=>j x∨a x,o,ih p (λx c=>hd x ((e x).2 (.inr c))),?_,λx=> ?_⟩
  . rintro x c (h|h)
    . exact f x c h
    . exact hd x ((e x).2 (.inl c)) h
  . show b x∨a x↔i x∨j x∨a x;rw[e x];exact or_assoc
theorem Jm.congr {l:List DV} {F F':Nat->Prop} (h:Jm w S l F) (a:∀x,F' x↔F x):Jm w S l F':=by have:F'=F:=funext λx=>propext (a x);exact this▸h
theorem pF {bx:Bool} {k:Nat} {rows:List (List DV)} {b c:Nat} {arr:Array Value} {E:TypeId} {F:Nat->Prop} (B:w.heap[b]? =some (.cells arr E (0,0))) (f:∀a∈rows,a.length=k)
 (p:if bx then rows.length=1/\arr.size=k else c*k=arr.size/\rows.length≤c) (y:¬S b) (o:Jm w S rows.flatten F) (r:¬F b) (z:∀(n:Nat) d,rows.flatten[n]? =some d->arr[n]? =some d.A0):
 Ok w S (.own (Jp bx b rows.length c) bx k rows) (λx=>x=b∨F x):=by
 obtain⟨q,t,u,v,g⟩:=KB.1 o;refine .own bx k rows b c arr E (λi j x=>(∃a d,rows[i]? =some a/\a[j]? =some d)/\q (i*k+j) x) _ B f p y ?_ ?_ ?_ ?_ ?_ ?_
 . intro i j a d hi e;exact z _ d (K7 f hi e)
 . intro i j a d hi e;refine(t _ d (K7 f hi e)).congr λx=>⟨λh=>h.2,λh=>⟨⟨a,d,hi,e⟩,h⟩⟩
 . rintro i j I J x ⟨⟨a,d,hi,e⟩,C⟩ ⟨⟨m,H,hi',D⟩,s⟩;exact rM (Si f hi e) (Si f hi' D) (u _ _ x C s)
 . rintro i j x ⟨h,_⟩;exact h
 . rintro i j ⟨_,h⟩;exact r ((g b).2 ⟨_,h⟩)
 . intro x;constructor
   . rintro(h|h)
     . exact .inl h
     . obtain⟨n,hn⟩:=(g x).1 h;obtain⟨d,hd⟩:=v n x hn;have l:n<rows.length*k:=(by rw[← Dk f];exact(AAj.1 hd).1);have G:0<k:=(Nat.eq_zero_or_pos k).elim (λh=>by subst h;simp at l) id;have hi:n/k<rows.length:=Nat.div_lt_of_lt_mul (by rw[ABZ];exact l);have e:n%k<(rows[n/k]).length:=(by rw[f _ (AA0 hi)];exact Nat.mod_lt _ G);refine .inr ⟨n/k,n%k,⟨_,_,AAo hi,AAo e⟩,?_⟩;rw[ABZ,Nat.div_add_mod];exact hn
   . rintro(h|⟨i,j,_,h⟩)
     . exact .inl h
     . exact .inr ((g x).2 ⟨_,h⟩)
theorem b6 {v:Value} {bx:Bool} {k:Nat} {rows:List (List DV)} {F:Nat->Prop} (h:Ok w S (.own v bx k rows) F):
 (v= .slice none 0 0/\bx=false/\rows=[]/\∀x,¬F x)∨
 ∃b c arr E p,v=Jp bx b rows.length c/\w.heap[b]? =some (.cells arr E (0,0))/\(∀o∈rows,o.length=k)/\(if bx then rows.length=1/\arr.size=k else c*k=arr.size/\rows.length≤c)/\¬S b/\Jm w S rows.flatten p/\¬p b/\
  (∀x,F x↔x=b∨p x)/\(∀(n:Nat) d,rows.flatten[n]? =some d->arr[n]? =some d.A0):=by
 cases h with
 |nil k _ hF=>exact .inl ⟨rfl,rfl,rfl,hF⟩
 |own _ _ _ b c arr E Fs _ hb hk D6 Lk hv hr hd Bi KW hF=>
  refine .inr ⟨b,c,arr,E,λx=>∃i j,Fs i j x,rfl,hb,hk,D6,Lk,?_,λ⟨i,j,h⟩=>KW i j h,hF,?_⟩
  . refine KB.2 ⟨λn x=>n<rows.length*k/\Fs (n/k) (n%k) x,?_,?_,?_,?_⟩
    . intro n d f;have e:n<rows.length*k:=(by rw[← Dk hk];exact(AAj.1 f).1);have m:0<k:=(Nat.eq_zero_or_pos k).elim (λh=>by subst h;simp at e) id;have hi:n/k<rows.length:=Nat.div_lt_of_lt_mul (by rw[ABZ];exact e);have g:n%k<(rows[n/k]).length:=(by rw[hk _ (AA0 hi)];exact Nat.mod_lt _ m);have a:=K7 hk (AAo hi) (AAo g);rw[ABZ,Nat.div_add_mod,f]at a;obtain rfl:=AAl a;exact(hr _ _ _ _ (AAo hi) (AAo g)).congr λx=>⟨λh=>h.2,λh=>⟨e,h⟩⟩
    . rintro n u x ⟨a,q⟩ ⟨y,t⟩
      have:=hd _ _ _ _ x q t;rw[← Nat.div_add_mod n k,← Nat.div_add_mod u k,this.1,this.2]
    . rintro n x ⟨a,_⟩;exact⟨_,AAo (by rw[Dk hk];exact a)⟩
    . intro x;constructor
      . rintro⟨i,j,h⟩;obtain⟨o,d,a,q⟩:=Bi i j x h;have l:=Si hk a q;have hi:=(AAj.1 a).1;have m:0<k:=(by omega);refine⟨i*k+j,?_,?_⟩
        . calc i*k+j<i*k+k:=by omega
           _=(i+1)*k:=by rw[ABl]
           _≤rows.length*k:=ABQ _ hi
        . have r:(i*k+j)/k=i:=(by rw[ABZ,Nat.mul_add_div m,Nat.div_eq_of_lt l];rfl);have s:(i*k+j)%k=j:=(by rw[ABZ,Nat.mul_add_mod];exact Nat.mod_eq_of_lt l);rw[r,s];exact h
      . rintro⟨n,_,h⟩;exact⟨_,_,h⟩
  . intro n d f;have e:n<rows.length*k:=(by rw[← Dk hk];exact(AAj.1 f).1);have m:0<k:=(Nat.eq_zero_or_pos k).elim (λh=>by subst h;simp at e) id;have hi:n/k<rows.length:=Nat.div_lt_of_lt_mul (by rw[ABZ];exact e);have g:n%k<(rows[n/k]).length:=(by rw[hk _ (AA0 hi)];exact Nat.mod_lt _ m);have a:=K7 hk (AAo hi) (AAo g);rw[ABZ,Nat.div_add_mod,f]at a;obtain rfl:=AAl a
    have:=hv _ _ _ _ (AAo hi) (AAo g);rw[ABZ,Nat.div_add_mod]at this;exact this
theorem K1 {d:DV} {F:Nat->Prop} (h:Ok w S d F) (f:Fj d.er=true):Ge d.A0=true:=by
 cases h with
 |lf a v _ ha _=>
  cases a with
  |sc u=>rw[Kh,ha.1];exact ha.2
  |sl e k rows=>obtain⟨i,c,g⟩:=Pc (w:=w) (S:=S) ha;rw[Kh,g];rfl
  |own=>exact ha.elim
  |_=>simp[Fj]at f
 |nil=>rfl
 |own bx k rows b c=>cases bx<;>simp[Jp,Ge]
 |agg=>simp[Fj]at f
 |BM=>simp[Fj]at f
def cellsD:DV->List DV
 | .agg cs=>cs
 |d=>[d]
theorem Lr (d:DV) (b:aF d):(cellsD d).map DV.er=cellsOf d.er:=by
 cases d with
 |agg cs=>simp[cellsD,cellsOf]
 |lf a v=>cases b with|lf _ _ h=>cases a<;>simp_all [cellsD,cellsOf,C9]
 |own=>simp[cellsD,cellsOf]
 |BM=>simp[cellsD,cellsOf]
theorem VH {v:Value} (h:Ge v=true):v.cells= #[v]:=by cases v<;>simp_all [Ge,Value.cells]
theorem Lv {d:DV} {F:Nat->Prop} (h:Ok w S d F) (c:(cellsOf d.er).all Fj=true):d.A0.cells=((cellsD d).map DV.A0).toArray:=by
 cases hd:d with
 |agg cs=>simp[cellsD,Value.cells]
 |lf a v=>
  subst hd;have e:=h.LD;rw[← Lr _ e]at c;simp only[cellsD,AAy,ABF,ABW,List.all_nil,Bool.and_true]at c
  have:=K1 h c;simp only[cellsD,AAy,ABF];exact VH this
 |own hh b k rows=>
  subst hd
  have:=K1 h (by simp[Fj]);simp only[cellsD,AAy,ABF];exact VH this
 |BM cs=>subst hd;simp[cellsOf,Fj]at c
theorem Nd {d:DV} {F:Nat->Prop} (h:Ok w S d F):Jm w S (cellsD d) F:=by
 have b:Jm w S [d] F:=⟨F,λ_=>False,h,λ_ h=>h,λ_ _ h=>h,λx=>by simp⟩;cases d with
 |agg cs=>exact B2.1 h
 |lf a v=>exact b
 |own=>exact b
 |BM=>exact b
theorem I1 (a:Act) (d:Nat) (v:Value) (h:d<a.tmps.size) (s:Nat):(a.put (some d) v).tmps.getD s undef=if s=d then v else a.tmps.getD s undef:=by
 simp only[Act.put,AA4,ABh];by_cases b:d=s
 . subst b;simp[h]
 . have:¬s=d:=λe=>b e.symm;simp[b,this]
def Qu (P:Program) (G:Gi) (w:World) (S:Nat->Prop) (Fr:Nat->Nat->Prop) (a:Act) (o:Oper) (σ':Sg):Prop:=
 ∃(n:Next) (v:Value) (w':World) (S':Nat->Prop) (δ':Nat->DV) (F':Nat->Nat->Prop),(execOp a.eval o).run P w= .ok n w'/\(n= .value v∨n= .skip/\v=undef)/\Rd δ' (a.put o.dst v)/\(λs=>(δ' s).er)=σ'/\
  St G w' S' δ' F'/\Nx w S (BE Fr) w' S' (BE F')
def JL (G:Gi) (a:Act) (o:Oper) (d:AB8 Dn):Prop:=
 match d with
 |none=>o.dst=none
 |some d=>o.dst=some d.d/\d.kl=G.Oj d.d/\d.rs=G.HI d.d/\d.d<a.tmps.size
theorem KV {S1:Nat->Prop} {D:DV} {Ff:Nat->Prop} {c:Nat->DV} {e:Nat->Nat->Prop} {a:Act} {o:Oper} {d:Dn} {σ':Sg} (h:St G w S1 c e) (B:Rd c a) (hd:JL G a o (some d)) (E:(execOp a.eval o).run P w= .ok (.value D.A0) w')
 (F:∀b,S1 b->w'.heap[b]? =w.heap[b]?) (C:∀s x,e s x->w'.heap[x]? =w.heap[x]?) (p:∀b,S1 b->S' b) (r:∀s x,e s x->¬S' x)
 (z:Ok w' S' D Ff) (j:∀s x,e s x->¬Ff x) (m:Dd c D) (q:wr d D.er (λs=>(c s).er)=some σ') (l:Nx w S (BE Fr) w' S' (λx=>BE e x∨Ff x)):Qu P G w S Fr a o σ':=by
 obtain⟨t,u,v,y⟩:=hd;obtain⟨f,F',g,n,k,i⟩:=h.wr u v F C p r z j m q;refine⟨_,D.A0,w',S',f,F',E,.inl rfl,?_,n,g,l.trans (Nx.less i)⟩;intro s;rw[t,I1 a d.d D.A0 y s,k s];split
 . rfl
 . exact B s
theorem Z4 {a:Act} {o:Oper} {d:Dn} {σ':Sg} {v:AV} (h:St G w S δ Fr) (g:Rd δ a) (hd:JL G a o (some d)) (i:Gives P w S δ a o v) (f:wr d v (λs=>(δ s).er)=some σ'):Qu P G w S Fr a o σ':=by obtain⟨u,j,D,rfl,rfl,c,e⟩:=i;exact KV h g hd j (λ_ _=>rfl) (λ_ _ _=>rfl) (λ_ h=>h) (λs x b=>(h.ok s).E7 x b) c (λ_ _ _ h=>h) e f (Nx.less λx b=>b.elim id False.elim)
end Go.Abs
namespace Go.Abs
variable {w w':World} {S S':Nat->Prop} {G:Gi} {δ:Nat->DV} {Fr:Nat->Nat->Prop} {P:Program}
theorem alloc_old (w:World) (o:Obj) (b:Nat) (h:b<w.heap.size):(w.alloc o).heap[b]? =w.heap[b]? :=by show(w.heap.push o)[b]? =_;rw[Array.getElem?_push,AAp (by omega)]
theorem aI (w:World) (o:Obj):(w.alloc o).heap[w.heap.size]? =some o:=by show(w.heap.push o)[w.heap.size]? =_;simp
theorem Nx.alloc (w:World) (S U c:Nat->Prop) (o:Obj) (h:∀x,c x->U x∨x=w.heap.size):Nx w S U (w.alloc o) S c:=
 ⟨rfl,rfl,rfl,by simp,λb a _=>alloc_old w o b a,λ_ h=>h,λ_ h=>.inl h,λd b a=>by have:=d b a;simp;omega,λx f=>(h x f).imp id (λe=>by omega)⟩
theorem Nx.JZ {w:World} {S U d a:Nat->Prop} (h:∀x,d x∨a x->U x) (e:∀x,a x->x<w.heap.size):Nx w S U w (λx=>S x∨a x) d:=
 ⟨rfl,rfl,rfl,AA8 _,λ_ _ _=>rfl,λ_ h=>.inl h,λx c=>c.imp id λg=>.inl (h x (.inr g)),λi b f=>f.elim (i b) (e b),λx c=>.inl (h x (.inl c))⟩
theorem runs_mv (h:St G w S δ Fr) {a:Act} (e:Rd δ a) {o:Oper} {x:Operand} {y:Ar} {d:Dn} (hd:JL G a o (some d)) (l:o.op= .assign x) (k:CM x y=true) {σ':Sg} (c:Gn G (.mv y) (some d) (λs=>(δ s).er)=some σ'):Qu P G w S Fr a o σ':=by
 obtain⟨p,i⟩:=Am k e;simp only[Gn]at c;split at c
 . rename_i v τ m;obtain⟨q,r,D,Ff,b,g,f,j⟩:=h.tk p m;subst g;subst f;exact KV b.st (λs=>(e s).trans (b.A0 s).symm) hd (by simp[execOp,l,i,j]) (λ_ _=>rfl) (λ_ _ _=>rfl) (λ_ h=>h) (λs x n=>(b.st.ok s).E7 x n) b.ok b.MT b.al c (Nx.less b.own)
 . cases c
theorem Y2 {i:Nat->DV} {m:Nat->Nat->Prop} {a:Act} {o:Oper} {d:Dn} {σ':Sg} {bx:Bool} {k c:Nat} {rows:List (List DV)} {Fd:Nat->Prop} {arr:Array Value} {E:TypeId} (h:St G w S i m) (j:∀b,S b->b<w.heap.size) (B:Rd i a)
 (hd:JL G a o (some d)) (F:(execOp a.eval o).run P w= .ok (.value (Jp bx w.heap.size rows.length c)) (w.alloc (.cells arr E))) (l:Jm w S rows.flatten Fd) (y:∀s x,m s x->¬Fd x) (C:∀r∈rows,r.length=k)
 (v:if bx then rows.length=1/\arr.size=k else c*k=arr.size/\rows.length≤c) (H:∀(n:Nat) d,rows.flatten[n]? =some d->arr[n]? =some d.A0)
 (z:wr d (.own bx k (rows.map (·.map DV.er))) (λs=>(i s).er)=some σ') (u:∀x,BE m x∨Fd x->BE Fr x):Qu P G w S Fr a o σ':=by
 have t:=(B2.2 l).lt;have p:=(B2.2 l).E7;have e:∀b,b<w.heap.size->(w.alloc (.cells arr E)).heap[b]? =w.heap[b]? :=λb g=>alloc_old _ _ _ g;have I:Ok (w.alloc (.cells arr E)) S (.own (Jp bx w.heap.size rows.length c) bx k rows) (λx=>x=w.heap.size∨Fd x):=by refine pF (aI w _) C v (λq=>by have:=j _ q;omega) ?_ (λq=>by have:=t _ q;omega) H;exact l.mono (λb g=>e b (j b g)) (λb g=>e b (t b g)) (λ_ h=>h) p
 refine KV (D:=.own (Jp bx w.heap.size rows.length c) bx k rows) h B hd (by simpa using F) (λb g=>e b (j b g)) (λs x f=>e x ((h.ok s).lt x f)) (λ_ h=>h) (λs x f=>(h.ok s).E7 x f) I ?_ (.own _ _ _ _) (by simpa using z) ?_
 . rintro s x f (rfl|hf)
   . have:=(h.ok s).lt _ f;omega
   . exact y s x f hf
 . refine Nx.alloc _ _ _ _ _ ?_;rintro x (f|rfl|f)
   . exact .inl (u x (.inl f))
   . exact .inr rfl
   . exact .inl (u x (.inr f))
theorem rW (h:St G w S δ Fr) (r:∀b,S b->b<w.heap.size) {a:Act} (C:Rd δ a) {o:Oper} {y:Ar} {n:Nat} {d:Dn} (hd:JL G a o (some d)) (I:XE y) {t:TypeId}
 (F:(execOp a.eval o).run P w= .ok (.value (.pointer (some ⟨w.heap.size,0,none⟩))) (w.alloc (.cells (C7 δ y).cells t))) {σ':Sg} (g:Gn G (.bx n y) (some d) (λs=>(δ s).er)=some σ'):Qu P G w S Fr a o σ':=by
 simp only[Gn]at g;split at g
 . rename_i v τ H;split at g
   . rename_i x;obtain⟨hn,q⟩:=x;obtain⟨J,K,D,Ff,f,z,u,B⟩:=h.tk I H;subst z;subst u;have p:=Lr D f.ok.LD;have l:(cellsD D).length=n:=(by rw[← hn,← p];simp);have j:=Lv f.ok q;rw[B]at j;refine Y2 (bx:=true) (k:=n) (c:=0) (rows:=[cellsD D]) (Fd:=Ff) (arr:=(C7 δ y).cells) (E:=t) f.st r (λs=>(C s).trans (f.A0 s).symm) hd (by rw[F];simp[Jp]) (by simpa using Nd f.ok) f.MT (by simpa using l) ?_ ?_ ?_ f.own
     . simp[j,l]
     . intro m e i;simp only[List.flatten_cons,List.flatten_nil,List.append_nil]at i;simp[j,i]
     . simp only[AAy,ABF,p];exact g
   . cases g
 . cases g
theorem rV {P:Program} (t:TypeId) (v:Value) (w:World):(Instr.box t v).run P w= .ok (.pointer (some ⟨w.heap.size,0,none⟩)) (w.alloc (.cells v.cells t)):=by simp[Instr.box,newVar,newRow]
theorem xO {P:Program} (t:TypeId) (i:TypeInfo) (z:Value) (hi:P.info? t=some i) (a:i.zero=some z) (w:World):(Instr.alloc t true (.tuple #[])).run P w= .ok (.pointer (some ⟨w.heap.size,0,none⟩)) (w.alloc (.cells z.cells t)):=by simp[Instr.alloc,zeroValue,typeInfo,hi,a,newVar,newRow]
theorem XL {l r:List DV} {n o:Nat->Prop} (off:Nat) (z:Jm w S l n) (B:Jm w S r o) (hd:∀x,n x->¬o x) (G:off+r.length≤l.length):
 ∃F,Jm w S (l.take off++r++l.drop (off+r.length)) F/\∀x,F x->n x∨o x:=by
 obtain⟨g,q,g2,s,p⟩:=KB.1 z;obtain⟨Fr,C,D,E,u⟩:=KB.1 B;have d:∀i,(l.take off++r++l.drop (off+r.length))[i]? =if i<off then l[i]? else if i<off+r.length then r[i-off]? else l[i]? :=by
  intro i;have j:(l.take off).length=off:=by simp;omega
  by_cases b:i<off
  . rw[ABt,ABA (by omega),ABi,AAs b,AAs b]
  . by_cases c:i<off+r.length
    . rw[ABA (by simp;omega),ABC (by omega),j,AAp b,AAs c]
    . rw[ABC (by simp;omega),List.getElem?_drop,AAp b,AAp c];congr 1;simp;omega
 refine⟨λx=>∃i,(if i<off then g i x else if i<off+r.length then Fr (i-off) x else g i x),KB.2 ⟨λi x=>if i<off then g i x else if i<off+r.length then Fr (i-off) x else g i x,?_,?_,?_,λx=>AB7⟩,?_⟩
 . intro i e f;rw[d]at f;by_cases b:i<off
   . simp only[b,AA5]at f ⊢;exact q i e f
   . by_cases c:i<off+r.length
     . simp only[b,c,AA5,AAx]at f ⊢;exact C _ e f
     . simp only[b,c,AAx]at f ⊢;exact q i e f
 . intro i t x a k;have out:∀i,g i x->n x:=λi h=>(p x).2 ⟨i,h⟩;have m:∀i,Fr i x->o x:=λi h=>(u x).2 ⟨i,h⟩;by_cases b:i<off<;>by_cases c:t<off<;>by_cases v:i<off+r.length<;>by_cases y:t<off+r.length<;>simp only[b,c,v,y,AA5,AAx]at a k<;>
    first
     |exact g2 _ _ x a k
     |exact absurd (m _ k) (hd x (out _ a))
     |exact absurd (m _ a) (hd x (out _ k))
     | (have:=D _ _ x a k;omega)
     |omega
 . intro i x a;rw[d];by_cases b:i<off
   . simp only[b,AA5]at a ⊢;exact s i x a
   . by_cases c:i<off+r.length
     . simp only[b,c,AA5,AAx]at a ⊢;exact E _ x a
     . simp only[b,c,AAx]at a ⊢;exact s i x a
 . rintro x ⟨i,a⟩;by_cases b:i<off
   . simp only[b,AA5]at a;exact .inl ((p x).2 ⟨i,a⟩)
   . by_cases c:i<off+r.length
     . simp only[b,c,AA5,AAx]at a;exact .inr ((u x).2 ⟨_,a⟩)
     . simp only[b,c,AAx]at a;exact .inl ((p x).2 ⟨i,a⟩)
theorem pY (ds r:List DV) (off:Nat):(ds.take off++r++ds.drop (off+r.length)).map DV.er=fE (ds.map DV.er) off (r.map DV.er):=by simp[fE,ABz,List.map_drop]
theorem fold_set (vs:List Value) (off:Nat) (a:Array Value) (h:off+vs.length≤a.size) (m:Nat):
 ((vs.zipIdx m).foldl (λe (x:Value×Nat)=>e.setIfInBounds (off+x.2) x.1) a).toList=a.toList.take (off+m)++vs++a.toList.drop (off+m+vs.length)∨off+m+vs.length>a.size:=by
 induction vs generalizing a m with
 |nil=>left;simp
 |cons v vs ih=>
  by_cases c:off+m+(v::vs).length>a.size
  . exact .inr c
  . left
    simp only[List.zipIdx_cons,List.foldl_cons];have b:=ih (a.setIfInBounds (off+m) v) (by simp at h ⊢;omega) (m+1);simp only[Array.size_setIfInBounds]at b;rcases b with b|b
    . rw[b];have d:off+m<a.toList.length:=(by simp at c ⊢;omega);simp only[Array.toList_setIfInBounds];rw[List.take_set,List.drop_set_of_lt (by omega)];rw[show off+(m+1)=off+m+1 from by omega,List.take_succ_eq_append_getElem d,List.set_append_right _ _ (by simp;omega)];simp only[List.length_take,Nat.min_eq_left (Nat.le_of_lt d),Nat.sub_self,List.set_cons_zero,ABt,ABV,ABe,List.nil_append];rw[show off+m+1+vs.length=off+m+(vs.length+1)from by omega]
    . simp at b c;omega
end Go.Abs
