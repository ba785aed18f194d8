/- A calculus of abstract states of Go memory, and that it is sound. -/
import Derived.Orders
import Derived.Deep.LoopGhost
import Derived.Laws.Cells
import Derived.Laws.Small
import Derived.Laws.AppendOwn
import Derived.Laws.CopyRow
import Derived.Laws.StructEq
set_option linter.unusedSimpArgs false
set_option linter.unusedVariables false
set_option linter.defProp false
namespace Go.Abs
def AA0:=@List.append_assoc
def AA1:=@Nat.mul_le_mul_right
def AA2:=@List.getElem?_cons_succ
def AA3:=@List.eq_nil_iff_forall_not_mem
def AA4:=@Int.toNat_natCast
def AA5:=@beq_self_eq_true
def AA6:=@List.all_cons
def AA7:=@Option.isNone_iff_eq_none
def AA8:=@Nat.mul_comm
def AA9:=@List.mem_cons_self
def AAF:=@Option.bind_some
def AAG:=@Option.some.injEq
def AAH:=@Bool.and_eq_true
def AAI:=@List.getElem?_eq_some_iff
def AAJ:=@Option.some.inj
def AAK:=@List.getElem?_set_self
def AAL:=@List.getElem?_eq_getElem
def AAM:=@List.getElem?_set_ne
def AAN:=@List.all_eq_true
def AAO:=@if_neg
def AAP:=@if_pos
def AAQ:=@Bool.false_eq_true
def AAR:=@List.getElem?_map
def AAS:=@List.mem_of_getElem?
def AAT:=@of_decide_eq_true
def AAU:=@Prod.mk.injEq
def AAV:=@beq_iff_eq
def AAW:=@List.getElem_mem
def AAX:=@List.take_append_getElem
def AAY:=@if_false
def AAZ:=@decide_eq_true_eq
def AAa:=@List.mem_append
def AAb:=@List.map_cons
def AAc:=@Array.getD_eq_getD_getElem?
def AAd:=@Bool.true_and
def AAe:=@List.drop_zero
def AAf:=@List.getElem?_append_left
def AAg:=@List.mem_cons
def AAh:=@List.mem_singleton
def AAi:=@Option.map_eq_some_iff
def AAj:=@List.getElem?_of_mem
def AAk:=@Option.map_some
def AAl:=@List.getElem?_append_right
def AAm:=@List.mem_or_eq_of_mem_set
def AAn:=@List.length_map
def AAo:=@if_true
def AAp:=@Bool.or_eq_true
def AAq:=@List.contains_iff_mem
def AAr:=@Nat.le_refl
def AAs:=@List.take_of_length_le
def AAt:=@List.getElem?_cons_zero
def AAu:=@List.length_append
def AAv:=@List.map_append
def AAw:=@Array.getElem?_eq_some_iff
def AAx:=@List.length_cons
def AAy:=@List.map_nil
def AAz:=@List.cons_append
def ABA:=@List.length_nil
def ABB:=@List.nil_append
def ABC:=@List.all_map
def ABD:=@List.drop_eq_getElem_cons
def ABE:=@List.getElem?_eq_none
def ABF:=@Nat.le_trans
def ABG:=@Array.getElem?_setIfInBounds
def ABH:=@List.getElem?_take
def ABI:=@Nat.lt_of_lt_of_le
def ABJ:=@List.not_mem_nil
def ABK:=@List.mem_map_of_mem
def ABL:=@Nat.div_add_mod
def ABM:=@Nat.succ_mul
def ABN:=@Nat.zero_add
def ABO:=@List.eq_of_mem_replicate
def ABP:=@Nat.lt_succ_self
def ABQ:=@or_false
def ABR:=@List.mem_map
def ABS:=@Array.ext'
def ABT:=@Bool.not_eq_true'
def ABU:=@List.ext_getElem?
def ABV:=@List.append_nil
def ABW:=@Array.getElem?_modify
def ABX:=@List.map_take
def ABY:=@List.take_append_drop
def ABZ:=@List.mem_of_find?_eq_some
def ABa:=@List.mem_of_mem_take
def ABb:=@Iff.rfl
def ABc:=@List.cons.injEq
def ABd:=@List.flatten_cons
def ABe:=@List.size_toArray
def ABf:=@List.map_congr_left
def ABg:=@List.map_drop
abbrev ABh (a:Type _):=Option a
abbrev ABi:=ByteArray
abbrev Step:=Nat×Nat×Nat
inductive AV where
 |sc (v:Value)
 |sl (x:Bool) (k:Nat) (rows:List (List AV))
 |own (b:Bool) (k:Nat) (rows:List (List AV))
 |agg (cs:List AV)
 |BT (cs:List AV)
 |al (r:Nat) (p:List Step)
 |KJ (r:Nat) (p:List Step) (i j k:Nat)
 |fp (cs:List AV)
 |dead
 |un
 |cl (f:Nat) (rs:List (Nat×List Step))
 |vb (s off:Nat) (us:List Value)
 |kN (f:Nat) (VW:List (List AV))
 deriving Inhabited
abbrev Sg:=Nat->AV
def DP {α:Type} (σ:Nat->α) (d:Nat) (v:α):Nat->α:=λs=>if s=d then v else σ s
theorem BG {a:Type} (σ:Nat->a) (d:Nat) (v:a):DP σ d v d=v:=by simp[DP]
theorem Ba {a:Type} (σ:Nat->a) {d s:Nat} (v:a) (h:s≠d):DP σ d v s=σ s:=by simp[DP,h]
def sub:AV->List Step->ABh AV
 |a,[]=>some a
 | .own _ _ rows,(i,j,_)::p=>match rows[i]? with
  |some row=>match row[j]? with
   |some c=>sub c p
   |none=>none
  |none=>none
 | .agg cs,(_,j,_)::p=>match cs[j]? with
  |some c=>sub c p
  |none=>none
 | .BT cs,(_,j,_)::p=>match cs[j]? with
  |some c=>sub c p
  |none=>none
 |_,_::_=>none
def put:AV->List Step->AV->ABh AV
 |_,[],x=>some x
 | .own b k rows,(i,j,_)::p,x=>match rows[i]? with
  |some row=>match row[j]? with
   |some c=>match put c p x with
    |some c'=>some (.own b k (rows.set i (row.set j c')))
    |none=>none
   |none=>none
  |none=>none
 | .agg cs,(_,j,_)::p,x=>match cs[j]? with
  |some c=>match put c p x with
   |some c'=>some (.agg (cs.set j c'))
   |none=>none
  |none=>none
 | .BT cs,(_,j,_)::p,x=>match cs[j]? with
  |some c=>match put c p x with
   |some c'=>some (.BT (cs.set j c'))
   |none=>none
  |none=>none
 |_,_::_,_=>none
inductive DV where
 |lf (a:AV) (v:Value)
 |own (h:Value) (b:Bool) (k:Nat) (rows:List (List DV))
 |agg (cs:List DV)
 |BT (cs:List DV)
 deriving Inhabited
mutual
def DV.er:DV->AV
 | .lf a _=>a
 | .own _ b k rows=>.own b k (erR rows)
 | .agg cs=>.agg (erL cs)
 | .BT cs=>.BT (erL cs)
def erL:List DV->List AV
 |[]=>[]
 |d::r=>d.er::erL r
def erR:List (List DV)->List (List AV)
 |[]=>[]
 |d::r=>erL d::erR r
end
theorem kM (l:List DV):erL l=l.map DV.er:=by
 induction l with
 |nil=>rfl
 |cons d r ih=>simp[erL,ih]
theorem erR_eq (l:List (List DV)):erR l=l.map (·.map DV.er):=by
 induction l with
 |nil=>rfl
 |cons d r ih=>simp[erR,ih,kM]
mutual
def DV.A0:DV->Value
 | .lf _ v=>v
 | .own h _ _ _=>h
 | .agg cs=>.agg (xE cs).toArray
 | .BT cs=>.tuple (xE cs).toArray
def xE:List DV->List Value
 |[]=>[]
 |d::r=>d.A0::xE r
end
theorem mY (l:List DV):xE l=l.map DV.A0:=by
 induction l with
 |nil=>rfl
 |cons d r ih=>simp[xE,ih]
@[simp]theorem El (a:AV) (v:Value):(DV.lf a v).er=a:=by simp[DV.er]
@[simp]theorem EN (h:Value) (b:Bool) (k:Nat) (rows:List (List DV)):(DV.own h b k rows).er= .own b k (rows.map (·.map DV.er)):=by simp[DV.er,erR_eq]
@[simp]theorem G7 (a:List DV):(DV.agg a).er= .agg (a.map DV.er):=by simp[DV.er,kM]
@[simp]theorem I0 (a:List DV):(DV.BT a).er= .BT (a.map DV.er):=by simp[DV.er,kM]
@[simp]theorem Ke (a:AV) (v:Value):(DV.lf a v).A0=v:=by simp[DV.A0]
@[simp]theorem KE (h:Value) (b:Bool) (k:Nat) (rows:List (List DV)):(DV.own h b k rows).A0=h:=by simp[DV.A0]
@[simp]theorem JP (a:List DV):(DV.agg a).A0= .agg (a.map DV.A0).toArray:=by simp[DV.A0,mY]
@[simp]theorem Kr (a:List DV):(DV.BT a).A0= .tuple (a.map DV.A0).toArray:=by simp[DV.A0,mY]
def Ao:DV->List Step->Option DV
 |a,[]=>some a
 | .own _ _ _ rows,(i,j,_)::p=>match rows[i]? with
  |some row=>match row[j]? with
   |some c=>Ao c p
   |none=>none
  |none=>none
 | .agg cs,(_,j,_)::p=>match cs[j]? with
  |some c=>Ao c p
  |none=>none
 | .BT cs,(_,j,_)::p=>match cs[j]? with
  |some c=>Ao c p
  |none=>none
 |_,_::_=>none
def DW:DV->List Step->DV->Option DV
 |_,[],x=>some x
 | .own h b k rows,(i,j,_)::p,x=>match rows[i]? with
  |some row=>match row[j]? with
   |some c=>match DW c p x with
    |some c'=>some (.own h b k (rows.set i (row.set j c')))
    |none=>none
   |none=>none
  |none=>none
 | .agg cs,(_,j,_)::p,x=>match cs[j]? with
  |some c=>match DW c p x with
   |some c'=>some (.agg (cs.set j c'))
   |none=>none
  |none=>none
 | .BT cs,(_,j,_)::p,x=>match cs[j]? with
  |some c=>match DW c p x with
   |some c'=>some (.BT (cs.set j c'))
   |none=>none
  |none=>none
 |_,_::_,_=>none
def C3:AV->Bool
 | .own .. | .agg _| .BT _=>false
 |_=>true
inductive Ya:DV->Prop
 |lf (a v) (h:C3 a=true):Ya (.lf a v)
 |own (h b k rows) (hr:∀(i j:Nat) row d,rows[i]? =some row->row[j]? =some d->Ya d):Ya (.own h b k rows)
 |agg (cs) (hr:∀(i:Nat) d,cs[i]? =some d->Ya d):Ya (.agg cs)
 |BT (cs) (hr:∀(i:Nat) d,cs[i]? =some d->Ya d):Ya (.BT cs)
theorem Ya.Ao {d x:DV} {p:List Step} (h:Ya d) (e:Ao d p=some x):Ya x:=by
 induction p generalizing d with
 |nil=>simp only[Abs.Ao,Option.some.injEq]at e;exact e▸h
 |cons s p ih=>
  obtain⟨i,j,k⟩:=s;cases h with
  |lf a v h=>simp[Abs.Ao]at e
  |own hh b k' rows hr=>
   simp only[Abs.Ao]at e;split at e
   . split at e
     . rename_i g l _ c f;exact ih (hr i j g c l f) e
     . cases e
   . cases e
  |agg cs hr=>
   simp only[Abs.Ao]at e;split at e
   . rename_i c f;exact ih (hr j c f) e
   . cases e
  |BT cs hr=>
   simp only[Abs.Ao]at e;split at e
   . rename_i c f;exact ih (hr j c f) e
   . cases e
theorem Dj {d:DV} {p:List Step} {a:AV} (h:Ya d) (e:sub d.er p=some a):∃x,Ao d p=some x/\x.er=a:=by
 induction p generalizing d with
 |nil=>simp only[sub,Option.some.injEq]at e;exact⟨d,rfl,e⟩
 |cons s p ih=>
  obtain⟨i,j,k⟩:=s;cases h with
  |lf b v h=>cases b<;>simp_all [sub,C3]
  |own hh b k' rows hr=>
   simp only[EN,sub,List.getElem?_map]at e;cases hi:rows[i]? with
   |none=>simp[hi]at e
   |some row=>
    simp only[hi,Option.map_some,List.getElem?_map]at e;cases hj:row[j]? with
    |none=>simp[hj]at e
    |some c=>simp only[hj,Option.map_some]at e;obtain⟨x,g,f⟩:=ih (hr i j row c hi hj) e;exact⟨x,by simp[Ao,hi,hj,g],f⟩
  |agg cs hr=>
   simp only[G7,sub,List.getElem?_map]at e;cases hj:cs[j]? with
   |none=>simp[hj]at e
   |some c=>simp only[hj,Option.map_some]at e;obtain⟨x,g,f⟩:=ih (hr j c hj) e;exact⟨x,by simp[Ao,hj,g],f⟩
  |BT cs hr=>
   simp only[I0,sub,List.getElem?_map]at e;cases hj:cs[j]? with
   |none=>simp[hj]at e
   |some c=>simp only[hj,Option.map_some]at e;obtain⟨x,g,f⟩:=ih (hr j c hj) e;exact⟨x,by simp[Ao,hj,g],f⟩
theorem Gr {d:DV} {p:List Step} {a:AV} (x:DV) (h:Ya d) (e:put d.er p x.er=some a):∃t,DW d p x=some t/\t.er=a:=by
 induction p generalizing d a with
 |nil=>simp only[put,Option.some.injEq]at e;exact⟨x,rfl,e⟩
 |cons s p ih=>
  obtain⟨i,j,k⟩:=s;cases h with
  |lf b v h=>cases b<;>simp_all [put,C3]
  |own hh b k' rows hr=>
   simp only[EN,put,List.getElem?_map]at e;cases hi:rows[i]? with
   |none=>simp[hi]at e
   |some row=>
    simp only[hi,Option.map_some,List.getElem?_map]at e;cases hj:row[j]? with
    |none=>simp[hj]at e
    |some c=>
     simp only[hj,Option.map_some]at e;cases hp:put c.er p x.er with
     |none=>simp[hp]at e
     |some c'=>simp only[hp,Option.some.injEq]at e;obtain⟨t,g,f⟩:=ih (hr i j row c hi hj) hp;refine⟨.own hh b k' (rows.set i (row.set j t)),by simp[DW,hi,hj,g],?_⟩;rw[← e,← f];simp[List.map_set]
  |agg cs hr=>
   simp only[G7,put,List.getElem?_map]at e;cases hj:cs[j]? with
   |none=>simp[hj]at e
   |some c=>
    simp only[hj,Option.map_some]at e;cases hp:put c.er p x.er with
    |none=>simp[hp]at e
    |some c'=>simp only[hp,Option.some.injEq]at e;obtain⟨t,g,f⟩:=ih (hr j c hj) hp;refine⟨.agg (cs.set j t),by simp[DW,hj,g],?_⟩;rw[← e,← f];simp[List.map_set]
  |BT cs hr=>
   simp only[I0,put,List.getElem?_map]at e;cases hj:cs[j]? with
   |none=>simp[hj]at e
   |some c=>
    simp only[hj,Option.map_some]at e;cases hp:put c.er p x.er with
    |none=>simp[hp]at e
    |some c'=>simp only[hp,Option.some.injEq]at e;obtain⟨t,g,f⟩:=ih (hr j c hj) hp;refine⟨.BT (cs.set j t),by simp[DW,hj,g],?_⟩;rw[← e,← f];simp[List.map_set]
end Go.Abs
namespace Go.Abs
def Fl:Value->Bool
 | .agg _| .tuple _=>false
 |_=>true
def I9 (bx:Bool) (b n c:Nat):Value:=if bx then .pointer (some ⟨b,0,none⟩)else .slice (some ⟨b,0,none⟩) n c
inductive Fz (w:World) (S:Nat->Prop):AV->Value->Prop
 |sc (v:Value) (hp:Fl v=true):Fz w S (.sc v) v
 |dead (v:Value):Fz w S .dead v
 |nil (x:Bool) (k:Nat) (a:ABh Addr) (c:Nat) (hx:x=true->c=0):Fz w S (.sl x k []) (.slice a 0 c)
 |sl (x:Bool) (k:Nat) (rows:List (List AV)) (b off c:Nat) (vs:Nat->Nat->Value) (hx:x=true->c=rows.length) (QY:rows.length≤c) (hS:S b)
  (hk:∀row∈rows,row.length=k)
  (hc:∀i j row a,rows[i]? =some row->row[j]? =some a->w.cell? ⟨b,off+(i*k+j),none⟩=some (vs i j))
  (hr:∀i j row a,rows[i]? =some row->row[j]? =some a->Fz w S a (vs i j)):Fz w S (.sl x k rows) (.slice (some ⟨b,off,none⟩) rows.length c)
 |agg (cs:List AV) (vs:List Value) (hs:vs.length=cs.length) (h:∀(i:Nat) a v,cs[i]? =some a->vs[i]? =some v->Fz w S a v):Fz w S (.agg cs) (.agg vs.toArray)
 |BT (cs:List AV) (vs:List Value) (hs:vs.length=cs.length) (h:∀(i:Nat) a v,cs[i]? =some a->vs[i]? =some v->Fz w S a v):Fz w S (.BT cs) (.tuple vs.toArray)
theorem Fz.mono {w w':World} {S S':Nat->Prop} {a:AV} {v:Value} (h:Fz w S a v) (l:∀b,S b->w'.heap[b]? =w.heap[b]?) (g:∀b,S b->S' b):Fz w' S' a v:=by
 induction h with
 |sc v hp=>exact .sc v hp
 |dead v=>exact .dead v
 |nil x k a c hx=>exact .nil x k a c hx
 |sl x k rows b off c vs hx QY hb hk hc hr ih=>refine .sl x k rows b off c vs hx QY (g b hb) hk (λi j d a e f=> ?_) (λi j d a e f=>ih i j d a e f);rw[← hc i j d a e f];simp only[World.cell?,l b hb]
 |agg cs vs hs h ih=>exact .agg cs vs hs ih
 |BT cs vs hs h ih=>exact .BT cs vs hs ih
def wI (w:World) (S:Nat->Prop) (cs:List AV) (v:Value):Prop:=∃b off,v= .pointer (some ⟨b,off,none⟩)/\S b/\∀(j:Nat) a,cs[j]? =some a->∃u,w.cell? ⟨b,off+j,none⟩=some u/\Fz w S a u
theorem wI.mono {w w':World} {S S':Nat->Prop} {c:List AV} {v:Value} (h:wI w S c v) (f:∀b,S b->w'.heap[b]? =w.heap[b]?) (d:∀b,S b->S' b):wI w' S' c v:=by obtain⟨b,off,rfl,e,g⟩:=h;refine⟨b,off,rfl,d b e,λj a k=> ?_⟩;obtain⟨u,l,i⟩:=g j a k;refine⟨u,?_,i.mono f d⟩;rw[← l];simp only[World.cell?,f b e]
def HM (w:World) (S:Nat->Prop):AV->Value->Prop
 | .sc u,v=>v=u/\Fl u=true
 | .sl x k rows,v=>Fz w S (.sl x k rows) v
 | .fp cs,v=>∃b off,v= .pointer (some ⟨b,off,none⟩)/\S b/\∀(j:Nat) a,cs[j]? =some a->∃u,w.cell? ⟨b,off+j,none⟩=some u/\Fz w S a u
 | .un,v=>v=undef
 | .al ..,_=>True
 | .KJ ..,_=>True
 | .dead,_=>True
 | .cl ..,_=>True
 | .kN f VW,v=>∃vs:List Value,v= .func (.func f) #[] vs.toArray/\vs.length=VW.length/\∀(i:Nat) cs u,VW[i]? =some cs->vs[i]? =some u->wI w S cs u
 | .vb _ off us,v=>∃b,v= .pointer (some ⟨b,off,none⟩)/\S b/\∀(j:Nat) u,us[j]? =some u->w.cell? ⟨b,j,none⟩=some u
 |_,_=>False
theorem HM.C3 {w:World} {S:Nat->Prop} {a:AV} {v:Value} (h:HM w S a v):C3 a=true:=by cases a<;>simp_all [HM,Abs.C3]
theorem HM.mono {w w':World} {S S':Nat->Prop} {a:AV} {v:Value} (h:HM w S a v) (e:∀b,S b->w'.heap[b]? =w.heap[b]?) (c:∀b,S b->S' b):HM w' S' a v:=by
 cases a with
 |sl x k rows=>exact Fz.mono h e c
 |fp n=>obtain⟨b,off,rfl,d,g⟩:=h;refine⟨b,off,rfl,c b d,λj a l=> ?_⟩;obtain⟨u,m,r⟩:=g j a l;refine⟨u,?_,r.mono e c⟩;rw[← m];simp only[World.cell?,e b d]
 |sc u=>exact h
 |own=>exact h
 |agg=>exact h
 |BT=>exact h
 |al=>exact h
 |KJ=>exact h
 |dead=>exact h
 |un=>exact h
 |cl=>exact h
 |kN f VW=>obtain⟨vs,o,p,q⟩:=h;exact⟨vs,o,p,λi n u hi m=>(q i n u hi m).mono e c⟩
 |vb s off us=>obtain⟨b,rfl,d,g⟩:=h;refine⟨b,rfl,c b d,λj u l=> ?_⟩;rw[← g j u l];simp only[World.cell?,e b d]
inductive Ok (w:World) (S:Nat->Prop):DV->(Nat->Prop)->Prop
 |lf (a:AV) (v:Value) (F:Nat->Prop) (ha:HM w S a v) (hF:∀x,¬F x):Ok w S (.lf a v) F
 |nil (k:Nat) (F:Nat->Prop) (hF:∀x,¬F x):Ok w S (.own (.slice none 0 0) false k []) F
 |own (bx:Bool) (k:Nat) (rows:List (List DV)) (b c:Nat) (arr:Array Value) (E:TypeId) (Fs:Nat->Nat->Nat->Prop) (F:Nat->Prop)
  (hb:w.heap[b]? =some (.cells arr E (0,0))) (hk:∀row∈rows,row.length=k)
  (Dv:if bx then rows.length=1/\arr.size=k else c*k=arr.size/\rows.length≤c) (hS:¬S b)
  (hv:∀(i j:Nat) row d,rows[i]? =some row->row[j]? =some d->arr[i*k+j]? =some d.A0)
  (hr:∀(i j:Nat) row d,rows[i]? =some row->row[j]? =some d->Ok w S d (Fs i j))
  (hd:∀i j i' j' x,Fs i j x->Fs i' j' x->i=i'/\j=j')
  (Bb:∀i j x,Fs i j x->∃row d,rows[i]? =some row/\row[j]? =some d) (Jf:∀i j,¬Fs i j b)
  (hF:∀x,F x↔x=b∨∃i j,Fs i j x):Ok w S (.own (I9 bx b rows.length c) bx k rows) F
 |agg (cs:List DV) (Fs:Nat->Nat->Prop) (F:Nat->Prop) (hr:∀(i:Nat) d,cs[i]? =some d->Ok w S d (Fs i))
  (hd:∀i i' x,Fs i x->Fs i' x->i=i') (Bb:∀i x,Fs i x->∃d,cs[i]? =some d) (hF:∀x,F x↔∃i,Fs i x):Ok w S (.agg cs) F
 |BT (cs:List DV) (Fs:Nat->Nat->Prop) (F:Nat->Prop) (hr:∀(i:Nat) d,cs[i]? =some d->Ok w S d (Fs i))
  (hd:∀i i' x,Fs i x->Fs i' x->i=i') (Bb:∀i x,Fs i x->∃d,cs[i]? =some d) (hF:∀x,F x↔∃i,Fs i x):Ok w S (.BT cs) F
variable {w w':World} {S S':Nat->Prop} {d:DV} {F F':Nat->Prop}
theorem Ok.KU (h:Ok w S d F):Ya d:=by
 induction h with
 |lf a v F ha hF=>exact .lf a v ha.C3
 |nil k F hF=>exact .own _ _ _ _ (by simp)
 |own bx k rows b c arr E Fs F hb hk Dv hS hv hr hd Bb Jf hF ih=>exact .own _ _ _ _ ih
 |agg cs Fs F hr hd Bb hF ih=>exact .agg cs ih
 |BT cs Fs F hr hd Bb hF ih=>exact .BT cs ih
theorem Ok.Ek (h:Ok w S d F):∀x,F x->¬S x:=by
 induction h with
 |lf a v F ha hF=>exactλx e=>absurd e (hF x)
 |nil k F hF=>exactλx e=>absurd e (hF x)
 |own bx k rows b c arr E Fs F hb hk Dv hS hv hr hd Bb Jf hF ih=>
  intro x e;rcases(hF x).1 e with rfl|⟨i,j,h⟩
  . exact hS
  . obtain⟨g,d,f,l⟩:=Bb i j x h;exact ih i j g d f l x h
 |agg cs Fs F hr hd Bb hF ih=>intro x e;obtain⟨i,h⟩:=(hF x).1 e;obtain⟨d,f⟩:=Bb i x h;exact ih i d f x h
 |BT cs Fs F hr hd Bb hF ih=>intro x e;obtain⟨i,h⟩:=(hF x).1 e;obtain⟨d,f⟩:=Bb i x h;exact ih i d f x h
theorem Ok.lt (h:Ok w S d F):∀x,F x->x<w.heap.size:=by
 induction h with
 |lf a v F ha hF=>exactλx e=>absurd e (hF x)
 |nil k F hF=>exactλx e=>absurd e (hF x)
 |own bx k rows b c arr E Fs F hb hk Dv hS hv hr hd Bb Jf hF ih=>
  intro x e;rcases(hF x).1 e with rfl|⟨i,j,h⟩
  . exact(AAw.1 hb).1
  . obtain⟨g,d,f,l⟩:=Bb i j x h;exact ih i j g d f l x h
 |agg cs Fs F hr hd Bb hF ih=>intro x e;obtain⟨i,h⟩:=(hF x).1 e;obtain⟨d,f⟩:=Bb i x h;exact ih i d f x h
 |BT cs Fs F hr hd Bb hF ih=>intro x e;obtain⟨i,h⟩:=(hF x).1 e;obtain⟨d,f⟩:=Bb i x h;exact ih i d f x h
theorem Ok.congr (h:Ok w S d F) (a:∀x,F' x↔F x):Ok w S d F':=by have:F'=F:=funext λx=>propext (a x);exact this▸h
theorem Ok.mono (h:Ok w S d F) (o:∀b,S b->w'.heap[b]? =w.heap[b]?) (g:∀b,F b->w'.heap[b]? =w.heap[b]?) (n:∀b,S b->S' b) (hn:∀x,F x->¬S' x):Ok w' S' d F:=by
 induction h with
 |lf a v F ha hF=>exact .lf a v F (ha.mono o n) hF
 |nil k F hF=>exact .nil k F hF
 |own bx k rows b c arr E Fs F hb hk Dv Ku hv hr hd Bb Jf hF ih=>
  refine .own bx k rows b c arr E Fs F ?_ hk Dv (hn b ((hF b).2 (.inl rfl))) hv (λi j l d f m=>ih i j l d f m ?_ ?_) hd Bb Jf hF
  . rw[g b ((hF b).2 (.inl rfl))];exact hb
  . exactλx e=>g x ((hF x).2 (.inr ⟨i,j,e⟩))
  . exactλx e=>hn x ((hF x).2 (.inr ⟨i,j,e⟩))
 |agg cs Fs F hr hd Bb hF ih=>exact .agg cs Fs F (λi d f=>ih i d f (λx e=>g x ((hF x).2 ⟨i,e⟩)) (λx e=>hn x ((hF x).2 ⟨i,e⟩))) hd Bb hF
 |BT cs Fs F hr hd Bb hF ih=>exact .BT cs Fs F (λi d f=>ih i d f (λx e=>g x ((hF x).2 ⟨i,e⟩)) (λx e=>hn x ((hF x).2 ⟨i,e⟩))) hd Bb hF
theorem Ok.Ao {x:DV} {p:List Step} (h:Ok w S d F) (f:Ao d p=some x):∃F',Ok w S x F'/\∀y,F' y->F y:=by
 induction p generalizing d F with
 |nil=>simp only[Abs.Ao,AAG]at f;exact⟨F,f▸h,λ_ h=>h⟩
 |cons s p ih=>
  obtain⟨i,j,k⟩:=s;cases h with
  |lf a v _ ha hF=>simp[Abs.Ao]at f
  |nil k _ hF=>simp[Abs.Ao]at f
  |own bx k rows b c arr E Fs _ hb hk Dv Ku hv hr hd Bb Jf hF=>
   simp only[Abs.Ao]at f;split at f
   . split at f
     . rename_i o q _ e m;obtain⟨F',g,l⟩:=ih (hr i j o e q m) f;exact⟨F',g,λy n=>(hF y).2 (.inr ⟨i,j,l y n⟩)⟩
     . cases f
   . cases f
  |agg cs Fs _ hr hd Bb hF=>
   simp only[Abs.Ao]at f;split at f
   . rename_i e m;obtain⟨F',g,l⟩:=ih (hr j e m) f;exact⟨F',g,λy n=>(hF y).2 ⟨j,l y n⟩⟩
   . cases f
  |BT cs Fs _ hr hd Bb hF=>
   simp only[Abs.Ao]at f;split at f
   . rename_i e m;obtain⟨F',g,l⟩:=ih (hr j e m) f;exact⟨F',g,λy n=>(hF y).2 ⟨j,l y n⟩⟩
   . cases f
mutual
def I1:AV->AV
 | .own false k rows=>.sl false k (Mg rows)
 | .own true _ _=>.dead
 | .agg cs=>.agg (X8 cs)
 | .BT cs=>.BT (X8 cs)
 | .sc v=>.sc v
 | .sl x k rows=>.sl x k rows
 |_=>.dead
def X8:List AV->List AV
 |[]=>[]
 |a::r=>I1 a::X8 r
def Mg:List (List AV)->List (List AV)
 |[]=>[]
 |a::r=>X8 a::Mg r
end
theorem VX (l:List AV):X8 l=l.map I1:=by
 induction l with
 |nil=>rfl
 |cons d r ih=>simp[X8,ih]
theorem VY (l:List (List AV)):Mg l=l.map (·.map I1):=by
 induction l with
 |nil=>rfl
 |cons d r ih=>simp[Mg,ih,VX]
@[simp]theorem NM (k:Nat) (rows:List (List AV)):I1 (.own false k rows)= .sl false k (rows.map (·.map I1)):=by simp[I1,VY]
@[simp]theorem nN (k:Nat) (rows:List (List AV)):I1 (.own true k rows)= .dead:=by simp[I1]
@[simp]theorem nM (a:List AV):I1 (.agg a)= .agg (a.map I1):=by simp[I1,VX]
@[simp]theorem nO (a:List AV):I1 (.BT a)= .BT (a.map I1):=by simp[I1,VX]
@[simp]theorem frz_sc (v:Value):I1 (.sc v)= .sc v:=by simp[I1]
@[simp]theorem zJ (x:Bool) (k:Nat) (rows:List (List AV)):I1 (.sl x k rows)= .sl x k rows:=by simp[I1]
theorem zI {a:AV} {v:Value} (h:HM w S a v):Fz w S (I1 a) v:=by
 cases a with
 |sc u=>obtain⟨rfl,b⟩:=h;simpa using Fz.sc v b
 |sl x k rows=>rw[zJ];exact h
 |_=>first|exact h.elim| (simp only[I1];exact .dead v)
theorem Ok.freeze (h:Ok w S d F):Fz w (λx=>S x∨F x) (I1 d.er) d.A0:=by
 induction h with
 |lf a v F ha hF=>simp only[El,Ke];exact(zI ha).mono (λ_ _=>rfl) (λ_ h=>.inl h)
 |nil k F hF=>simpa using Fz.nil false k none 0 (by simp)
 |own bx k rows b c arr E Fs F hb hk Dv Ku hv hr hd Bb Jf hF ih=>
  cases bx with
  |true=>simp only[EN,nN];exact .dead _
  |false=>
   simp only[EN,NM,KE,I9,List.map_map];have g:((rows.map ((λx=>x.map I1) ∘ λx=>x.map DV.er))).length=rows.length:=(by simp);rw[show(Value.slice (some ⟨b,0,none⟩) rows.length c)=Value.slice (some ⟨b,0,none⟩) (rows.map ((λx=>x.map I1) ∘ λx=>x.map DV.er)).length c from by rw[g]];refine Fz.sl false k _ b 0 c (λi j=>(arr[i*k+j]?).getD undef) (by simp) (by rw[g];simp at Dv;exact Dv.2) (.inr ((hF b).2 (.inl rfl))) ?_ ?_ ?_
   . intro n q;obtain⟨m,l,rfl⟩:=List.mem_map.1 q;simpa using hk m l
   . intro i j n a e f;simp only[List.getElem?_map,Option.map_eq_some_iff]at e;obtain⟨m,l,rfl⟩:=e;simp only[Function.comp,List.map_map,List.getElem?_map,Option.map_eq_some_iff]at f;obtain⟨d0,o,rfl⟩:=f;simp[World.cell?,hb,hv i j m d0 l o]
   . intro i j n a e f;simp only[List.getElem?_map,Option.map_eq_some_iff]at e;obtain⟨m,l,rfl⟩:=e;simp only[Function.comp,List.map_map,List.getElem?_map,Option.map_eq_some_iff]at f;obtain⟨d0,o,rfl⟩:=f;simp only[hv i j m d0 l o,Option.getD_some];refine(ih i j m d0 l o).mono (λ_ _=>rfl) ?_;rintro x (h|h)
     . exact .inl h
     . exact .inr ((hF x).2 (.inr ⟨i,j,h⟩))
 |agg cs Fs F hr hd Bb hF ih=>
  simp only[G7,nM,JP];refine Fz.agg _ _ (by simp) ?_;intro i a v e f;simp only[List.map_map,List.getElem?_map,Option.map_eq_some_iff]at e f;obtain⟨d1,e,rfl⟩:=e;obtain⟨p,f,rfl⟩:=f;obtain rfl:d1=p:=by rw[e]at f;exact Option.some.inj f
  refine(ih i d1 e).mono (λ_ _=>rfl) ?_;rintro x (h|h)
  . exact .inl h
  . exact .inr ((hF x).2 ⟨i,h⟩)
 |BT cs Fs F hr hd Bb hF ih=>
  simp only[I0,nO,Kr];refine Fz.BT _ _ (by simp) ?_;intro i a v e f;simp only[List.map_map,List.getElem?_map,Option.map_eq_some_iff]at e f;obtain⟨d1,e,rfl⟩:=e;obtain⟨p,f,rfl⟩:=f;obtain rfl:d1=p:=by rw[e]at f;exact Option.some.inj f
  refine(ih i d1 e).mono (λ_ _=>rfl) ?_;rintro x (h|h)
  . exact .inl h
  . exact .inr ((hF x).2 ⟨i,h⟩)
end Go.Abs
namespace Go.Abs
variable {w w':World} {S S':Nat->Prop} {d:DV} {F F':Nat->Prop}
def Ry:Value->ABh Nat
 | .slice (some a) _ _=>some a.block
 | .pointer (some a)=>some a.block
 |_=>none
@[simp]theorem WX (bx:Bool) (b n c:Nat):Ry (I9 bx b n c)=some b:=by cases bx<;>rfl
theorem oH {k i j a b:Nat} (l:j<k) (d:b<k) (h:i*k+j=a*k+b):i=a/\j=b:=by
 have c:0<k:=by omega
 have e:(i*k+j)/k=i:=by rw[AA8,Nat.mul_add_div c,Nat.div_eq_of_lt l];rfl
 have f:(a*k+b)/k=a:=by rw[AA8,Nat.mul_add_div c,Nat.div_eq_of_lt d];rfl
 have g:i=a:=by rw[← e,← f,h]
 subst g;exact⟨rfl,by omega⟩
theorem Qg (w:World) (b o:Nat) (v:Value) (arr:Array Value) (E:TypeId) (fz:Nat×Nat) (a:w.heap[b]? =some (.cells arr E fz)):
 (w.setCell ⟨b,o,none⟩ v).heap[b]? =some (.cells (arr.setIfInBounds o v) E fz):=by
 simp[World.setCell,ABW,a]
theorem DA (w:World) (b o x:Nat) (v:Value) (h:x≠b):(w.setCell ⟨b,o,none⟩ v).heap[x]? =w.heap[x]? :=by simp only[World.setCell,ABW];rw[AAO (by omega)]
theorem RL {b:Type} {rows:List (List b)} {k i j:Nat} {a:List b} {x:b} (e:∀a∈rows,a.length=k) (c:rows[i]? =some a) (d:a[j]? =some x):j<k:=by
 have:=e a (AAS c)
 have:=(AAI.1 d).1;omega
theorem Ok.store {new:DV} {Fn:Nat->Prop} {k i j:Nat} {bx:Bool} {rows:List (List DV)} {u:List DV} {X:DV} {K:Value} {b:Nat} (p:List Step)
 (h:Ok w S d F) (z:Abs.Ao d p=some (.own K bx k rows)) (L:rows[i]? =some u) (Z:u[j]? =some X) (hb:Ry K=some b)
 (hn:Ok (w.setCell ⟨b,i*k+j,none⟩ new.A0) S new Fn) (G:∀x,Fn x->¬F x):
 ∃t F',DW d (p++[(i,j,k)]) new=some t/\Ok (w.setCell ⟨b,i*k+j,none⟩ new.A0) S t F'/\(∀x,F' x->F x∨Fn x)/\t.A0=d.A0/\F b:=by
 induction p generalizing d F with
 |nil=>
  simp only[Abs.Ao,AAG]at z;subst z;generalize hvv:K=dS at h;cases h with
  |nil k _ hF=>simp at L
  |own _ _ _ b' c arr E Fs _ nS hk Dv Ku K hr hd Bb Jf hF=>
   subst hvv;simp only[WX,AAG]at hb;subst hb;have hjk:=RL hk L Z;have J:=(AAI.1 L).1;have D:=(AAI.1 Z).1;have UM:i*k+j<arr.size:=(by have:=K i j u X L Z;exact(AAw.1 this).1);refine⟨.own (I9 bx b' rows.length c) bx k (rows.set i (u.set j new)),λx=>x=b'∨∃g o,(if g=i/\o=j then Fn else Fs g o) x,?_,?_,?_,by simp,(hF b').2 (.inl rfl)⟩
   . simp[DW,L,Z]
   . rw[show(I9 bx b' rows.length c)=I9 bx b' (rows.set i (u.set j new)).length c from by simp];refine Ok.own bx k _ b' c (arr.setIfInBounds (i*k+j) new.A0) E (λg o=>if g=i/\o=j then Fn else Fs g o) _ (Qg _ _ _ _ _ _ _ nS) ?_ ?_ Ku ?_ ?_ ?_ ?_ ?_ (λx=>ABb)
     . intro r Vl;rcases AAm Vl with h|rfl
       . exact hk r h
       . simp[hk u (AAS L)]
     . simpa using Dv
     . intro g o r e m l;by_cases hi:g=i
       . subst hi;rw[AAK J]at m;obtain rfl:=AAJ m;by_cases Q:o=j
         . subst Q;rw[AAK D]at l;obtain rfl:=AAJ l;simp[UM]
         . rw[AAM (by omega)]at l;rw[Array.getElem?_setIfInBounds_ne (by have:=RL hk L l;omega)];exact K g o u e L l
       . rw[AAM (by omega)]at m;rw[Array.getElem?_setIfInBounds_ne]
         . exact K g o r e m l
         . intro he;exact hi (oH (RL hk m l) hjk he.symm).1
     . intro g o r e m l;by_cases y:g=i/\o=j
       . obtain⟨rfl,rfl⟩:=y;rw[AAK J]at m;obtain rfl:=AAJ m;rw[AAK D]at l;obtain rfl:=AAJ l;simpa using hn
       . simp only[y,AAY];have C:Ok w S e (Fs g o):=by
          by_cases hi:g=i
          . subst hi;have Q:o≠j:=λe=>y ⟨rfl,e⟩;rw[AAK J]at m;obtain rfl:=AAJ m;rw[AAM (by omega)]at l;exact hr g o u e L l
          . rw[AAM (by omega)]at m;exact hr g o r e m l
         refine C.mono (λx f=>DA _ _ _ _ _ ?_) (λx f=>DA _ _ _ _ _ ?_) (λ_ h=>h) C.Ek
         . rintro rfl;exact Ku f
         . rintro rfl;exact Jf _ _ f
     . intro i1 j1 i2 j2 x f q;split at f<;>split at q
       . rename_i a b;omega
       . exact absurd ((hF x).2 (.inr ⟨i2,j2,q⟩)) (G x f)
       . exact absurd ((hF x).2 (.inr ⟨i1,j1,f⟩)) (G x q)
       . exact hd _ _ _ _ x f q
     . intro i1 j1 x f;split at f
       . rename_i y;obtain⟨rfl,rfl⟩:=y;exact⟨_,new,AAK J,AAK D⟩
       . obtain⟨r,e,m,l⟩:=Bb i1 j1 x f;by_cases hi:i1=i
         . subst hi;rename_i U;have Q:j1≠j:=λe=>U ⟨rfl,e⟩;obtain rfl:u=r:=(by rw[L]at m;exact AAJ m);exact⟨_,e,AAK J,by rw[AAM (by omega)];exact l⟩
         . exact⟨r,e,by rw[AAM (by omega)];exact m,l⟩
     . intro i1 j1 f;split at f
       . exact G b' f ((hF b').2 (.inl rfl))
       . exact Jf _ _ f
   . rintro x (rfl|⟨i1,j1,f⟩)
     . exact .inl ((hF x).2 (.inl rfl))
     . split at f
       . exact .inr f
       . exact .inl ((hF x).2 (.inr ⟨i1,j1,f⟩))
 |cons s p ih=>
  obtain⟨i0,j0,k0⟩:=s;cases h with
  |lf a v _ ha hF=>simp[Abs.Ao]at z
  |nil k _ hF=>simp[Abs.Ao]at z
  |own yJ k1 KX b0 c arr E Fs _ nS hk Dv Ku K hr hd Bb Jf hF=>
   simp only[Abs.Ao]at z;split at z
   . split at z
     . rename_i N M _ O B;obtain⟨t,P,W,R,H,T,I⟩:=ih (hr i0 j0 N O M B) z (λx f V=>G x f ((hF x).2 (.inr ⟨i0,j0,V⟩)));have U:b0≠b:=(by rintro rfl;exact Jf _ _ I);have J:=(AAI.1 M).1;have D:=(AAI.1 B).1;refine⟨.own (I9 yJ b0 KX.length c) yJ k1 (KX.set i0 (N.set j0 t)),λx=>x=b0∨∃g o,(if g=i0/\o=j0 then P else Fs g o) x,?_,?_,?_,by simp,(hF b).2 (.inr ⟨i0,j0,I⟩)⟩
       . simp[DW,M,B,W]
       . rw[show(I9 yJ b0 KX.length c)=I9 yJ b0 (KX.set i0 (N.set j0 t)).length c from by simp];refine Ok.own yJ k1 _ b0 c arr E (λg o=>if g=i0/\o=j0 then P else Fs g o) _ (by rw[DA _ _ _ _ _ U];exact nS) ?_ (by simpa using Dv) Ku ?_ ?_ ?_ ?_ ?_ (λx=>ABb)
         . intro r Vl;rcases AAm Vl with h|rfl
           . exact hk r h
           . simp[hk N (AAS M)]
         . intro g o r e m l;by_cases hi:g=i0
           . subst hi;rw[AAK J]at m;obtain rfl:=AAJ m;by_cases Q:o=j0
             . subst Q;rw[AAK D]at l;obtain rfl:=AAJ l;rw[T];exact K g o N O M B
             . rw[AAM (by omega)]at l;exact K g o N e M l
           . rw[AAM (by omega)]at m;exact K g o r e m l
         . intro g o r e m l;by_cases y:g=i0/\o=j0
           . obtain⟨rfl,rfl⟩:=y;rw[AAK J]at m;obtain rfl:=AAJ m;rw[AAK D]at l;obtain rfl:=AAJ l;simpa using R
           . simp only[y,AAY];have C:Ok w S e (Fs g o):=by
              by_cases hi:g=i0
              . subst hi;have Q:o≠j0:=λe=>y ⟨rfl,e⟩;rw[AAK J]at m;obtain rfl:=AAJ m;rw[AAM (by omega)]at l;exact hr g o N e M l
              . rw[AAM (by omega)]at m;exact hr g o r e m l
             refine C.mono (λx f=>DA _ _ _ _ _ ?_) (λx f=>DA _ _ _ _ _ ?_) (λ_ h=>h) C.Ek
             . rintro rfl;exact(hr i0 j0 N O M B).Ek x I f
             . rintro rfl;exact y (hd _ _ _ _ x f I)
         . intro i1 j1 i2 j2 x f q;split at f<;>split at q
           . rename_i a b;omega
           . rename_i a b;rcases H x f with h|h
             . exact absurd (hd _ _ _ _ x q h) b
             . exact absurd ((hF x).2 (.inr ⟨i2,j2,q⟩)) (G x h)
           . rename_i a b;rcases H x q with h|h
             . exact absurd (hd _ _ _ _ x f h) a
             . exact absurd ((hF x).2 (.inr ⟨i1,j1,f⟩)) (G x h)
           . exact hd _ _ _ _ x f q
         . intro i1 j1 x f;split at f
           . rename_i y;obtain⟨rfl,rfl⟩:=y;exact⟨_,t,AAK J,AAK D⟩
           . obtain⟨r,e,m,l⟩:=Bb i1 j1 x f;by_cases hi:i1=i0
             . subst hi;rename_i U;have Q:j1≠j0:=λe=>U ⟨rfl,e⟩;obtain rfl:N=r:=(by rw[M]at m;exact AAJ m);exact⟨_,e,AAK J,by rw[AAM (by omega)];exact l⟩
             . exact⟨r,e,by rw[AAM (by omega)];exact m,l⟩
         . intro i1 j1 f;split at f
           . rcases H b0 f with h|h
             . exact Jf _ _ h
             . exact G b0 h ((hF b0).2 (.inl rfl))
           . exact Jf _ _ f
       . rintro x (rfl|⟨i1,j1,f⟩)
         . exact .inl ((hF x).2 (.inl rfl))
         . split at f
           . rcases H x f with h|h
             . exact .inl ((hF x).2 (.inr ⟨i0,j0,h⟩))
             . exact .inr h
           . exact .inl ((hF x).2 (.inr ⟨i1,j1,f⟩))
     . cases z
   . cases z
  |agg cs Fs _ hr hd Bb hF=>
   simp only[Abs.Ao]at z;split at z
   . rename_i O B;obtain⟨t,P,W,R,H,T,I⟩:=ih (hr j0 O B) z (λx f V=>G x f ((hF x).2 ⟨j0,V⟩));have D:=(AAI.1 B).1;refine⟨.agg (cs.set j0 t),λx=>∃g,(if g=j0 then P else Fs g) x,by simp[DW,B,W],?_,?_,?_,(hF b).2 ⟨j0,I⟩⟩
     . refine Ok.agg _ (λg=>if g=j0 then P else Fs g) _ ?_ ?_ ?_ (λx=>ABb)
       . intro g e l;by_cases hi:g=j0
         . subst hi;rw[AAK D]at l;obtain rfl:=AAJ l;simpa using R
         . simp only[hi,AAY];rw[AAM (by omega)]at l;refine(hr g e l).mono (λx f=>DA _ _ _ _ _ ?_) (λx f=>DA _ _ _ _ _ ?_) (λ_ h=>h) (hr g e l).Ek
           . rintro rfl;exact(hr j0 O B).Ek x I f
           . rintro rfl;exact hi (hd _ _ x f I)
       . intro i1 i2 x f q;split at f<;>split at q
         . omega
         . rename_i a b;rcases H x f with h|h
           . exact absurd (hd _ _ x q h) b
           . exact absurd ((hF x).2 ⟨i2,q⟩) (G x h)
         . rename_i a b;rcases H x q with h|h
           . exact absurd (hd _ _ x f h) a
           . exact absurd ((hF x).2 ⟨i1,f⟩) (G x h)
         . exact hd _ _ x f q
       . intro i1 x f;split at f
         . rename_i y;subst y;exact⟨t,AAK D⟩
         . rename_i y;obtain⟨e,m⟩:=Bb i1 x f;exact⟨e,by rw[AAM (by omega)];exact m⟩
     . rintro x ⟨i1,f⟩;split at f
       . rcases H x f with h|h
         . exact .inl ((hF x).2 ⟨j0,h⟩)
         . exact .inr h
       . exact .inl ((hF x).2 ⟨i1,f⟩)
     . simp only[JP,List.map_set,T];congr 2;apply ABU;intro n;by_cases hn:n=j0
       . subst hn;rw[AAK (by simpa using D)];simp[B]
       . rw[AAM (by omega)]
   . cases z
  |BT cs Fs _ hr hd Bb hF=>
   simp only[Abs.Ao]at z;split at z
   . rename_i O B;obtain⟨t,P,W,R,H,T,I⟩:=ih (hr j0 O B) z (λx f V=>G x f ((hF x).2 ⟨j0,V⟩));have D:=(AAI.1 B).1;refine⟨.BT (cs.set j0 t),λx=>∃g,(if g=j0 then P else Fs g) x,by simp[DW,B,W],?_,?_,?_,(hF b).2 ⟨j0,I⟩⟩
     . refine Ok.BT _ (λg=>if g=j0 then P else Fs g) _ ?_ ?_ ?_ (λx=>ABb)
       . intro g e l;by_cases hi:g=j0
         . subst hi;rw[AAK D]at l;obtain rfl:=AAJ l;simpa using R
         . simp only[hi,AAY];rw[AAM (by omega)]at l;refine(hr g e l).mono (λx f=>DA _ _ _ _ _ ?_) (λx f=>DA _ _ _ _ _ ?_) (λ_ h=>h) (hr g e l).Ek
           . rintro rfl;exact(hr j0 O B).Ek x I f
           . rintro rfl;exact hi (hd _ _ x f I)
       . intro i1 i2 x f q;split at f<;>split at q
         . omega
         . rename_i a b;rcases H x f with h|h
           . exact absurd (hd _ _ x q h) b
           . exact absurd ((hF x).2 ⟨i2,q⟩) (G x h)
         . rename_i a b;rcases H x q with h|h
           . exact absurd (hd _ _ x f h) a
           . exact absurd ((hF x).2 ⟨i1,f⟩) (G x h)
         . exact hd _ _ x f q
       . intro i1 x f;split at f
         . rename_i y;subst y;exact⟨t,AAK D⟩
         . rename_i y;obtain⟨e,m⟩:=Bb i1 x f;exact⟨e,by rw[AAM (by omega)];exact m⟩
     . rintro x ⟨i1,f⟩;split at f
       . rcases H x f with h|h
         . exact .inl ((hF x).2 ⟨j0,h⟩)
         . exact .inr h
       . exact .inl ((hF x).2 ⟨i1,f⟩)
     . simp only[Kr,List.map_set,T];congr 2;apply ABU;intro n;by_cases hn:n=j0
       . subst hn;rw[AAK (by simpa using D)];simp[B]
       . rw[AAM (by omega)]
   . cases z
end Go.Abs
namespace Go.Abs
structure Gi where
 rt:List (Nat×List Nat)
def Gi.Gc (G:Gi) (s:Nat):List Nat:=match G.rt.find? (·.1==s)with
 |some x=>x.2
 |none=>[]
def Gi.Nk (G:Gi) (d:Nat):List Nat:=(G.rt.filter (λx=>x.2.contains d)).map (·.1)
theorem Gi.oL {G:Gi} {s d:Nat} (h:d∈G.Gc s):s∈G.Nk d:=by
 unfold Gi.Gc at h;split at h
 . rename_i x b;have a:=List.find?_some b;have c:=ABZ b;simp only[AAV]at a;subst a;simp only[Gi.Nk,ABR,List.mem_filter];exact⟨x,⟨c,by simpa using h⟩,rfl⟩
 . cases h
mutual
def FM (L:List Nat):AV->Bool
 | .al r _=>L.contains r
 | .KJ r _ _ _ _=>L.contains r
 | .cl _ rs=>rs.all λx=>L.contains x.1
 | .vb s _ _=>L.contains s
 | .agg cs=>PK L cs
 | .BT cs=>PK L cs
 |_=>true
def PK (L:List Nat):List AV->Bool
 |[]=>true
 |a::r=>FM L a&&PK L r
end
theorem Vd (L:List Nat) (l:List AV):PK L l=l.all (FM L):=by
 induction l with
 |nil=>rfl
 |cons d r ih=>simp[PK,ih]
mutual
def FL (d:Nat):AV->Bool
 | .al r _=>r != d
 | .KJ r _ _ _ _=>r != d
 | .cl _ rs=>rs.all λx=>x.1 != d
 | .vb s _ _=>s != d
 | .agg cs=>NQ d cs
 | .BT cs=>NQ d cs
 |_=>true
def NQ (d:Nat):List AV->Bool
 |[]=>true
 |a::r=>FL d a&&NQ d r
end
theorem ZD (d:Nat) (l:List AV):NQ d l=l.all (FL d):=by
 induction l with
 |nil=>rfl
 |cons a r ih=>simp[NQ,ih]
mutual
def DT (d:Nat):AV->AV
 | .al r p=>if r=d then .dead else .al r p
 | .KJ r p i j k=>if r=d then .dead else .KJ r p i j k
 | .cl f rs=>if(rs.all λx=>x.1 != d)=true then .cl f rs else .dead
 | .vb s o us=>if s=d then .dead else .vb s o us
 | .agg cs=>.agg (Oq d cs)
 | .BT cs=>.BT (Oq d cs)
 |a=>a
def Oq (d:Nat):List AV->List AV
 |[]=>[]
 |a::r=>DT d a::Oq d r
end
theorem Y6 (d:Nat) (l:List AV):Oq d l=l.map (DT d):=by
 induction l with
 |nil=>rfl
 |cons a r ih=>simp[Oq,ih]
@[simp]theorem rin_sc (L:List Nat) (v:Value):FM L (.sc v)=true:=by simp[FM]
@[simp]theorem rin_sl (L:List Nat) (x:Bool) (k:Nat) (rows:List (List AV)):FM L (.sl x k rows)=true:=by simp[FM]
@[simp]theorem rin_own (L:List Nat) (x:Bool) (k:Nat) (rows:List (List AV)):FM L (.own x k rows)=true:=by simp[FM]
@[simp]theorem rin_fp (L:List Nat) (a:List AV):FM L (.fp a)=true:=by simp[FM]
@[simp]theorem rin_dead (L:List Nat):FM L .dead=true:=by simp[FM]
@[simp]theorem rin_un (L:List Nat):FM L .un=true:=by simp[FM]
@[simp]theorem Jd (L:List Nat) (r:Nat) (p:List Step):FM L (.al r p)=L.contains r:=by simp[FM]
@[simp]theorem Ve (L:List Nat) (r:Nat) (p:List Step) (i j k:Nat):FM L (.KJ r p i j k)=L.contains r:=by simp[FM]
@[simp]theorem Jc (L:List Nat) (a:List AV):FM L (.agg a)=a.all (FM L):=by simp[FM,Vd]
@[simp]theorem NW (L:List Nat) (a:List AV):FM L (.BT a)=a.all (FM L):=by simp[FM,Vd]
@[simp]theorem killr_sc (d:Nat) (v:Value):DT d (.sc v)= .sc v:=by simp[DT]
@[simp]theorem killr_sl (d:Nat) (x:Bool) (k:Nat) (rows:List (List AV)):DT d (.sl x k rows)= .sl x k rows:=by simp[DT]
@[simp]theorem killr_own (d:Nat) (x:Bool) (k:Nat) (rows:List (List AV)):DT d (.own x k rows)= .own x k rows:=by simp[DT]
@[simp]theorem killr_fp (d:Nat) (a:List AV):DT d (.fp a)= .fp a:=by simp[DT]
@[simp]theorem killr_dead (d:Nat):DT d .dead= .dead:=by simp[DT]
@[simp]theorem killr_un (d:Nat):DT d .un= .un:=by simp[DT]
@[simp]theorem Wp (d r:Nat) (p:List Step):DT d (.al r p)=if r=d then .dead else .al r p:=by simp[DT]
@[simp]theorem To (d r:Nat) (p:List Step) (i j k:Nat):DT d (.KJ r p i j k)=if r=d then .dead else .KJ r p i j k:=by simp[DT]
@[simp]theorem Y7 (d:Nat) (a:List AV):DT d (.agg a)= .agg (a.map (DT d)):=by simp[DT,Y6]
@[simp]theorem Y8 (d:Nat) (a:List AV):DT d (.BT a)= .BT (a.map (DT d)):=by simp[DT,Y6]
@[simp]theorem rin_fcl (L:List Nat) (f:Nat) (a:List (List AV)):FM L (.kN f a)=true:=by simp[FM]
@[simp]theorem killr_fcl (d f:Nat) (a:List (List AV)):DT d (.kN f a)= .kN f a:=by simp[DT]
@[simp]theorem rin_vb (L:List Nat) (s o:Nat) (a:List Value):FM L (.vb s o a)=L.contains s:=by simp[FM]
@[simp]theorem Wq (d s o:Nat) (a:List Value):DT d (.vb s o a)=if s=d then .dead else .vb s o a:=by simp[DT]
@[simp]theorem nroot_vb (d s o:Nat) (a:List Value):FL d (.vb s o a)=(s != d):=by simp[FL]
@[simp]theorem lZ (L:List Nat) (f:Nat) (rs:List (Nat×List Step)):FM L (.cl f rs)=rs.all λx=>L.contains x.1:=by simp[FM]
@[simp]theorem SH (d f:Nat) (rs:List (Nat×List Step)):DT d (.cl f rs)=if(rs.all λx=>x.1 != d)=true then .cl f rs else .dead:=by simp[DT]
@[simp]theorem nroot_cl (d f:Nat) (rs:List (Nat×List Step)):FL d (.cl f rs)=rs.all λx=>x.1 != d:=by simp[FL]
@[simp]theorem sU (d:Nat) (a:List AV):FL d (.agg a)=a.all (FL d):=by simp[FL,ZD]
@[simp]theorem sW (d:Nat) (a:List AV):FL d (.BT a)=a.all (FL d):=by simp[FL,ZD]
@[simp]theorem nroot_al (d r:Nat) (p:List Step):FL d (.al r p)=(r != d):=by simp[FL]
@[simp]theorem nroot_adr (d r:Nat) (p:List Step) (i j k:Nat):FL d (.KJ r p i j k)=(r != d):=by simp[FL]
mutual
def Gx (d:Nat):DV->DV
 | .lf a v=>.lf (DT d a) v
 | .own h b k rows=>.own h b k rows
 | .agg cs=>.agg (Wi d cs)
 | .BT cs=>.BT (Wi d cs)
def Wi (d:Nat):List DV->List DV
 |[]=>[]
 |a::r=>Gx d a::Wi d r
end
theorem Y1 (d:Nat) (l:List DV):Wi d l=l.map (Gx d):=by
 induction l with
 |nil=>rfl
 |cons a r ih=>simp[Wi,ih]
@[simp]theorem Wj (d:Nat) (a:AV) (v:Value):Gx d (.lf a v)= .lf (DT d a) v:=by simp[Gx]
@[simp]theorem Ml (d:Nat) (h:Value) (b:Bool) (k:Nat) (rows:List (List DV)):Gx d (.own h b k rows)= .own h b k rows:=by simp[Gx]
@[simp]theorem Ju (d:Nat) (a:List DV):Gx d (.agg a)= .agg (a.map (Gx d)):=by simp[Gx,Y1]
@[simp]theorem Jv (d:Nat) (a:List DV):Gx d (.BT a)= .BT (a.map (Gx d)):=by simp[Gx,Y1]
variable {w w':World} {S S':Nat->Prop} {x:DV} {F F':Nat->Prop}
theorem KT (d:Nat) (h:Ok w S x F):(Gx d x).er=DT d x.er/\(Gx d x).A0=x.A0/\Ok w S (Gx d x) F/\FL d (Gx d x).er=true:=by
 induction h with
 |lf a v F ha hF=>
  refine⟨by simp,by simp,?_,?_⟩
  . rw[Wj];refine .lf _ v F ?_ hF;cases a with
    |al r p=>rw[Wp];by_cases h:r=d<;>simp[h,HM]
    |KJ r p i j k=>rw[To];by_cases h:r=d<;>simp[h,HM]
    |cl f rs=>rw[SH];split<;>trivial
    |vb s o us=>rw[Wq];split<;>first|trivial|exact ha
    |agg cs=>exact ha.elim
    |BT cs=>exact ha.elim
    |own=>exact ha.elim
    |_=>simpa using ha
  . have:=ha.C3;cases a with
    |al r p=>by_cases h:r=d<;>simp[h,FL]
    |KJ r p i j k=>by_cases h:r=d<;>simp[h,FL]
    |vb s o us=>by_cases h:s=d<;>simp[h,FL]
    |cl f rs=>
     simp only[Wj,El,SH];split
     . rename_i h;simpa using h
     . simp[FL]
    |agg cs=>exact ha.elim
    |BT cs=>exact ha.elim
    |own=>exact ha.elim
    |_=>simp[FL]
 |nil k F hF=>exact⟨by simp,by simp,by rw[Ml];exact .nil k F hF,by simp[FL]⟩
 |own bx k rows b c arr E Fs F hb hk Dv Ku hv hr hd Bb Jf hF ih=>exact⟨by simp,by simp,by rw[Ml];exact .own bx k rows b c arr E Fs F hb hk Dv Ku hv hr hd Bb Jf hF,by simp[FL]⟩
 |agg cs Fs F hr hd Bb hF ih=>
  have key:∀e∈cs,(Gx d e).er=DT d e.er/\(Gx d e).A0=e.A0/\FL d (Gx d e).er=true:=by intro e g;obtain⟨i,hi⟩:=List.getElem?_of_mem g;exact⟨(ih i e hi).1,(ih i e hi).2.1,(ih i e hi).2.2.2⟩
  refine⟨?_,?_,?_,?_⟩
  . simp only[Ju,G7,Y7,List.map_map,AV.agg.injEq];exact List.map_congr_left λe g=>(key e g).1
  . simp only[Ju,JP,List.map_map];congr 2;exact List.map_congr_left λe g=>(key e g).2.1
  . rw[Ju];refine .agg _ Fs F ?_ hd ?_ hF
    . intro i e l;simp only[List.getElem?_map,Option.map_eq_some_iff]at l;obtain⟨m,n,rfl⟩:=l;exact(ih i m n).2.2.1
    . intro i x q;obtain⟨e,l⟩:=Bb i x q;exact⟨Gx d e,by simp[l]⟩
  . simp only[Ju,G7,sU,List.map_map,List.all_map,List.all_eq_true];exactλe g=>(key e g).2.2
 |BT cs Fs F hr hd Bb hF ih=>
  have key:∀e∈cs,(Gx d e).er=DT d e.er/\(Gx d e).A0=e.A0/\FL d (Gx d e).er=true:=by intro e g;obtain⟨i,hi⟩:=List.getElem?_of_mem g;exact⟨(ih i e hi).1,(ih i e hi).2.1,(ih i e hi).2.2.2⟩
  refine⟨?_,?_,?_,?_⟩
  . simp only[Jv,I0,Y8,List.map_map,AV.BT.injEq];exact List.map_congr_left λe g=>(key e g).1
  . simp only[Jv,Kr,List.map_map];congr 2;exact List.map_congr_left λe g=>(key e g).2.1
  . rw[Jv];refine .BT _ Fs F ?_ hd ?_ hF
    . intro i e l;simp only[List.getElem?_map,Option.map_eq_some_iff]at l;obtain⟨m,n,rfl⟩:=l;exact(ih i m n).2.2.1
    . intro i x q;obtain⟨e,l⟩:=Bb i x q;exact⟨Gx d e,by simp[l]⟩
  . simp only[Jv,I0,sW,List.map_map,List.all_map,List.all_eq_true];exactλe g=>(key e g).2.2
def MF (δ:Nat->DV):AV->Value->Prop
 | .al r p,v=>∃bx k rows,Ao (δ r) p=some (.own v bx k rows)
 | .KJ r p i j k,v=>∃h bx rows b,Ao (δ r) p=some (.own h bx k rows)/\Ry h=some b/\v= .pointer (some ⟨b,i*k+j,none⟩)
 | .vb s _ us,_=>(δ s).A0= .agg us.toArray
 | .cl f rs,v=>∃vs:List Value,v= .func (.func f) #[] vs.toArray/\vs.length=rs.length/\∀(i:Nat) r p u,rs[i]? =some (r,p)->vs[i]? =some u->∃bx k rows,Ao (δ r) p=some (.own u bx k rows)
 |_,_=>True
inductive DQ (δ:Nat->DV):DV->Prop
 |lf (a v) (h:MF δ a v):DQ δ (.lf a v)
 |own (h b k rows):DQ δ (.own h b k rows)
 |agg (cs) (hr:∀(i:Nat) d,cs[i]? =some d->DQ δ d):DQ δ (.agg cs)
 |BT (cs) (hr:∀(i:Nat) d,cs[i]? =some d->DQ δ d):DQ δ (.BT cs)
theorem DQ.mono {δ g:Nat->DV} {L:List Nat} (h:DQ δ x) (e:FM L x.er=true)
 (m:∀r∈L,∀p v bx k rows,Ao (δ r) p=some (.own v bx k rows)->∃c,Ao (g r) p=some (.own v bx k c)) (q:∀r∈L,(g r).A0=(δ r).A0):DQ g x:=by
 induction h with
 |lf a v h=>
  refine .lf a v ?_;cases a with
  |al r p=>obtain⟨bx,k,rows,h⟩:=h;obtain⟨c,l⟩:=m r (by simpa using e) p v bx k rows h;exact⟨bx,k,c,l⟩
  |KJ r p i j k=>obtain⟨n,bx,rows,b,h,z,rfl⟩:=h;obtain⟨c,l⟩:=m r (by simpa using e) p n bx k rows h;exact⟨n,bx,c,b,l,z,rfl⟩
  |vb s o us=>exact(q s (by simpa using e)).trans h
  |cl f rs=>obtain⟨vs,t,w,y⟩:=h;refine⟨vs,t,w,λi r p u hi C=> ?_⟩;obtain⟨bx,k,rows,B⟩:=y i r p u hi C;simp only[El,lZ,List.all_eq_true]at e;obtain⟨c,l⟩:=m r (by simpa using e _ (List.mem_of_getElem? hi)) p u bx k rows B;exact⟨bx,k,c,l⟩
  |_=>trivial
 |own=>exact .own _ _ _ _
 |agg cs _ ih=>refine .agg cs λi d hd=>ih i d hd ?_;simp only[G7,Jc,List.all_map,List.all_eq_true]at e;exact e d (List.mem_of_getElem? hd)
 |BT cs _ ih=>refine .BT cs λi d hd=>ih i d hd ?_;simp only[I0,NW,List.all_map,List.all_eq_true]at e;exact e d (List.mem_of_getElem? hd)
theorem tK {L:List Nat} {d:Nat} {a:AV}:FM L a=true->d∉L->FL d a=true:=by
 refine AV.rec (motive_1:=λa=>FM L a=true->d∉L->FL d a=true) (motive_2:=λ_=>True) (motive_3:=λl=>PK L l=true->d∉L->NQ d l=true)
  ?_ ?_ ?_ ?_ ?_ ?_ ?_ ?_ ?_ ?_ ?_ ?_ ?_ ?_ ?_ ?_ ?_ a
 all_goals intros
 all_goals first|trivial|simp[FL];done|skip
 all_goals simp_all [FM,PK,NQ,FL]
 all_goals first
  | (rintro rfl;simp_all;done)
  | (rename_i c f;intro a b g e;subst e;exact f (c _ b g))
theorem sH {L:List Nat} {d:Nat} {a:AV}:FM L a=true->FM L (DT d a)=true:=by
 refine AV.rec (motive_1:=λa=>FM L a=true->FM L (DT d a)=true) (motive_2:=λ_=>True) (motive_3:=λl=>PK L l=true->PK L (Oq d l)=true)
  ?_ ?_ ?_ ?_ ?_ ?_ ?_ ?_ ?_ ?_ ?_ ?_ ?_ ?_ ?_ ?_ ?_ a
 all_goals intros
 all_goals first|trivial| (simp_all [FM,PK,DT,Oq];done)|skip
 all_goals first
  | (simp only[DT];split<;>simp_all [FM];done)
  | (simp only[DT];split<;>first|assumption|simp[FM])
  | (rename_i b h;simp only[DT,FM]at h ⊢;exact b h)
end Go.Abs
namespace Go.Abs
variable {w w':World} {S S':Nat->Prop} {d:DV} {F F':Nat->Prop}
theorem Ok.replace {n:DV} (p:List Step) (h:Ok w S d F) (C:Abs.Ao d p=some n):
 ∃q,Ok w S n q/\(∀x,q x->F x)/\∀(w':World) (S':Nat->Prop) (new:DV) (Fn:Nat->Prop),new.A0=n.A0->Ok w' S' new Fn->
  (∀x,Fn x->F x->q x)->(∀b,S b->w'.heap[b]? =w.heap[b]?)->(∀b,F b->¬q b->w'.heap[b]? =w.heap[b]?)->(∀b,S b->S' b)->(∀b,F b->¬q b->¬S' b)->
  ∃t F',DW d p new=some t/\Ok w' S' t F'/\(∀x,F' x↔(F x/\¬q x)∨Fn x)/\t.A0=d.A0:=by
 induction p generalizing d F with
 |nil=>
  simp only[Abs.Ao,AAG]at C;subst C;refine⟨F,h,λ_ h=>h,λw' S' new Fn Z hn _ _ _ _ _=>⟨new,Fn,rfl,hn,λx=>⟨.inr,?_⟩,Z⟩⟩;rintro(⟨y,K⟩|h)
  . exact absurd y K
  . exact h
 |cons s p ih=>
  obtain⟨i0,j0,k0⟩:=s;cases h with
  |lf a v _ Z hF=>simp[Abs.Ao]at C
  |nil k _ hF=>simp[Abs.Ao]at C
  |own yJ k1 KX b0 c arr E Fs _ nS hk Dv Ku hv hr hd Bb Jf hF=>
   simp only[Abs.Ao]at C;split at C
   . split at C
     . rename_i W U _ e0 H;obtain⟨q,ho,Q,MJ⟩:=ih (hr i0 j0 W e0 U H) C;have O:∀x,q x->F x:=λx f=>(hF x).2 (.inr ⟨i0,j0,Q x f⟩);refine⟨q,ho,O,?_⟩;intro w' S' new Fn Z hn z X T V R;have Df:=(AAI.1 U).1;have N:=(AAI.1 H).1;obtain⟨t,L,ht,Co,G,DU⟩:=MJ w' S' new Fn Z hn (λx f u=>z x f ((hF x).2 (.inr ⟨i0,j0,u⟩))) X
        (λb P=>T b ((hF b).2 (.inr ⟨i0,j0,P⟩))) V (λb P=>R b ((hF b).2 (.inr ⟨i0,j0,P⟩)))
       have rQ:¬q b0:=λh=>Jf _ _ (Q _ h);have J:F b0:=(hF b0).2 (.inl rfl);have M:∀i j,¬(i=i0/\j=j0)->∀x,Fs i j x->¬q x:=λi j l x f lC=>l (hd _ _ _ _ x f (Q x lC));refine⟨.own (I9 yJ b0 KX.length c) yJ k1 (KX.set i0 (W.set j0 t)),λx=>x=b0∨∃g B,(if g=i0/\B=j0 then L else Fs g B) x,?_,?_,?_,by simp⟩
       . simp[DW,U,H,ht]
       . rw[show(I9 yJ b0 KX.length c)=I9 yJ b0 (KX.set i0 (W.set j0 t)).length c from by simp];refine Ok.own yJ k1 _ b0 c arr E (λg B=>if g=i0/\B=j0 then L else Fs g B) _ (by rw[T b0 J rQ];exact nS) ?_ (by simpa using Dv) (R b0 J rQ) ?_ ?_ ?_ ?_ ?_ (λx=>ABb)
         . intro r Vl;rcases AAm Vl with h|rfl
           . exact hk r h
           . simp[hk W (AAS U)]
         . intro g B r e m o;by_cases hi:g=i0
           . subst hi;rw[AAK Df]at m;obtain rfl:=AAJ m;by_cases hj:B=j0
             . subst hj;rw[AAK N]at o;obtain rfl:=AAJ o;rw[DU];exact hv g B W e0 U H
             . rw[AAM (by omega)]at o;exact hv g B W e U o
           . rw[AAM (by omega)]at m;exact hv g B r e m o
         . intro g B r e m o;by_cases l:g=i0/\B=j0
           . obtain⟨rfl,rfl⟩:=l;rw[AAK Df]at m;obtain rfl:=AAJ m;rw[AAK N]at o;obtain rfl:=AAJ o;simpa using Co
           . simp only[l,AAY];have hold:Ok w S e (Fs g B):=by
              by_cases hi:g=i0
              . subst hi;have hj:B≠j0:=λe=>l ⟨rfl,e⟩;rw[AAK Df]at m;obtain rfl:=AAJ m;rw[AAM (by omega)]at o;exact hr g B W e U o
              . rw[AAM (by omega)]at m;exact hr g B r e m o
             have I:∀x,Fs g B x->F x/\¬q x:=λx f=>⟨(hF x).2 (.inr ⟨g,B,f⟩),M g B l x f⟩;exact hold.mono X (λx f=>T x (I x f).1 (I x f).2) V (λx f=>R x (I x f).1 (I x f).2)
         . intro i1 j1 i2 j2 x f u;have D:∀i j,¬(i=i0/\j=j0)->Fs i j x->¬L x:=by
            intro i j l y K;rcases(G x).1 K with⟨m,o⟩|m
            . exact l (hd _ _ _ _ x y m)
            . exact M i j l x y (z x m ((hF x).2 (.inr ⟨i,j,y⟩)))
           split at f<;>split at u
           . rename_i a b;omega
           . rename_i a b;exact absurd f (D _ _ b u)
           . rename_i a b;exact absurd u (D _ _ a f)
           . exact hd _ _ _ _ x f u
         . intro i1 j1 x f;split at f
           . rename_i l;obtain⟨rfl,rfl⟩:=l;exact⟨_,t,AAK Df,AAK N⟩
           . obtain⟨r,e,m,o⟩:=Bb i1 j1 x f;by_cases hi:i1=i0
             . subst hi;rename_i Mj;have hj:j1≠j0:=λe=>Mj ⟨rfl,e⟩;obtain rfl:W=r:=(by rw[U]at m;exact AAJ m);exact⟨_,e,AAK Df,by rw[AAM (by omega)];exact o⟩
             . exact⟨r,e,by rw[AAM (by omega)];exact m,o⟩
         . intro i1 j1 f;split at f
           . rcases(G b0).1 f with h|h
             . exact Jf _ _ h.1
             . exact rQ (z b0 h J)
           . exact Jf _ _ f
       . intro x;constructor
         . rintro(rfl|⟨i1,j1,f⟩)
           . exact .inl ⟨J,rQ⟩
           . split at f
             . rcases(G x).1 f with h|h
               . exact .inl ⟨(hF x).2 (.inr ⟨i0,j0,h.1⟩),h.2⟩
               . exact .inr h
             . rename_i l;exact .inl ⟨(hF x).2 (.inr ⟨i1,j1,f⟩),M _ _ l x f⟩
         . rintro(⟨y,K⟩|h)
           . rcases(hF x).1 y with rfl|⟨i1,j1,m⟩
             . exact .inl rfl
             . by_cases l:i1=i0/\j1=j0
               . obtain⟨rfl,rfl⟩:=l;exact .inr ⟨i1,j1,by simp;exact(G x).2 (.inl ⟨m,K⟩)⟩
               . exact .inr ⟨i1,j1,by simp only[l,AAY];exact m⟩
           . exact .inr ⟨i0,j0,by simp;exact(G x).2 (.inr h)⟩
     . cases C
   . cases C
  |agg cs Fs _ hr hd Bb hF=>
   simp only[Abs.Ao]at C;split at C
   . rename_i e0 H;obtain⟨q,ho,Q,MJ⟩:=ih (hr j0 e0 H) C;have O:∀x,q x->F x:=λx f=>(hF x).2 ⟨j0,Q x f⟩;refine⟨q,ho,O,?_⟩;intro w' S' new Fn Z hn z X T V R;have N:=(AAI.1 H).1;obtain⟨t,L,ht,Co,G,DU⟩:=MJ w' S' new Fn Z hn (λx f u=>z x f ((hF x).2 ⟨j0,u⟩)) X
      (λb P=>T b ((hF b).2 ⟨j0,P⟩)) V (λb P=>R b ((hF b).2 ⟨j0,P⟩))
     have M:∀i,¬i=j0->∀x,Fs i x->¬q x:=λi l x f lC=>l (hd _ _ x f (Q x lC));refine⟨.agg (cs.set j0 t),λx=>∃g,(if g=j0 then L else Fs g) x,by simp[DW,H,ht],?_,?_,?_⟩
     . refine Ok.agg _ (λg=>if g=j0 then L else Fs g) _ ?_ ?_ ?_ (λx=>ABb)
       . intro g e o;by_cases hi:g=j0
         . subst hi;rw[AAK N]at o;obtain rfl:=AAJ o;simpa using Co
         . simp only[hi,AAY];rw[AAM (by omega)]at o;have I:∀x,Fs g x->F x/\¬q x:=λx f=>⟨(hF x).2 ⟨g,f⟩,M g hi x f⟩;exact(hr g e o).mono X (λx f=>T x (I x f).1 (I x f).2) V (λx f=>R x (I x f).1 (I x f).2)
       . intro i1 i2 x f u;have D:∀i,¬i=j0->Fs i x->¬L x:=by
          intro i l y K;rcases(G x).1 K with⟨m,o⟩|m
          . exact l (hd _ _ x y m)
          . exact M i l x y (z x m ((hF x).2 ⟨i,y⟩))
         split at f<;>split at u
         . omega
         . rename_i a b;exact absurd f (D _ b u)
         . rename_i a b;exact absurd u (D _ a f)
         . exact hd _ _ x f u
       . intro i1 x f;split at f
         . rename_i l;subst l;exact⟨t,AAK N⟩
         . rename_i l;obtain⟨e,m⟩:=Bb i1 x f;exact⟨e,by rw[AAM (by omega)];exact m⟩
     . intro x;constructor
       . rintro⟨i1,f⟩;split at f
         . rcases(G x).1 f with h|h
           . exact .inl ⟨(hF x).2 ⟨j0,h.1⟩,h.2⟩
           . exact .inr h
         . rename_i l;exact .inl ⟨(hF x).2 ⟨i1,f⟩,M _ l x f⟩
       . rintro(⟨y,K⟩|h)
         . obtain⟨i1,m⟩:=(hF x).1 y;by_cases l:i1=j0
           . subst l;exact⟨i1,by simp;exact(G x).2 (.inl ⟨m,K⟩)⟩
           . exact⟨i1,by simp only[l,AAY];exact m⟩
         . exact⟨j0,by simp;exact(G x).2 (.inr h)⟩
     . simp only[JP,List.map_set,DU];congr 2;apply ABU;intro n;by_cases hn:n=j0
       . subst hn;rw[AAK (by simpa using N)];simp[H]
       . rw[AAM (by omega)]
   . cases C
  |BT cs Fs _ hr hd Bb hF=>
   simp only[Abs.Ao]at C;split at C
   . rename_i e0 H;obtain⟨q,ho,Q,MJ⟩:=ih (hr j0 e0 H) C;have O:∀x,q x->F x:=λx f=>(hF x).2 ⟨j0,Q x f⟩;refine⟨q,ho,O,?_⟩;intro w' S' new Fn Z hn z X T V R;have N:=(AAI.1 H).1;obtain⟨t,L,ht,Co,G,DU⟩:=MJ w' S' new Fn Z hn (λx f u=>z x f ((hF x).2 ⟨j0,u⟩)) X
      (λb P=>T b ((hF b).2 ⟨j0,P⟩)) V (λb P=>R b ((hF b).2 ⟨j0,P⟩))
     have M:∀i,¬i=j0->∀x,Fs i x->¬q x:=λi l x f lC=>l (hd _ _ x f (Q x lC));refine⟨.BT (cs.set j0 t),λx=>∃g,(if g=j0 then L else Fs g) x,by simp[DW,H,ht],?_,?_,?_⟩
     . refine Ok.BT _ (λg=>if g=j0 then L else Fs g) _ ?_ ?_ ?_ (λx=>ABb)
       . intro g e o;by_cases hi:g=j0
         . subst hi;rw[AAK N]at o;obtain rfl:=AAJ o;simpa using Co
         . simp only[hi,AAY];rw[AAM (by omega)]at o;have I:∀x,Fs g x->F x/\¬q x:=λx f=>⟨(hF x).2 ⟨g,f⟩,M g hi x f⟩;exact(hr g e o).mono X (λx f=>T x (I x f).1 (I x f).2) V (λx f=>R x (I x f).1 (I x f).2)
       . intro i1 i2 x f u;have D:∀i,¬i=j0->Fs i x->¬L x:=by
          intro i l y K;rcases(G x).1 K with⟨m,o⟩|m
          . exact l (hd _ _ x y m)
          . exact M i l x y (z x m ((hF x).2 ⟨i,y⟩))
         split at f<;>split at u
         . omega
         . rename_i a b;exact absurd f (D _ b u)
         . rename_i a b;exact absurd u (D _ a f)
         . exact hd _ _ x f u
       . intro i1 x f;split at f
         . rename_i l;subst l;exact⟨t,AAK N⟩
         . rename_i l;obtain⟨e,m⟩:=Bb i1 x f;exact⟨e,by rw[AAM (by omega)];exact m⟩
     . intro x;constructor
       . rintro⟨i1,f⟩;split at f
         . rcases(G x).1 f with h|h
           . exact .inl ⟨(hF x).2 ⟨j0,h.1⟩,h.2⟩
           . exact .inr h
         . rename_i l;exact .inl ⟨(hF x).2 ⟨i1,f⟩,M _ l x f⟩
       . rintro(⟨y,K⟩|h)
         . obtain⟨i1,m⟩:=(hF x).1 y;by_cases l:i1=j0
           . subst l;exact⟨i1,by simp;exact(G x).2 (.inl ⟨m,K⟩)⟩
           . exact⟨i1,by simp only[l,AAY];exact m⟩
         . exact⟨j0,by simp;exact(G x).2 (.inr h)⟩
     . simp only[Kr,List.map_set,DU];congr 2;apply ABU;intro n;by_cases hn:n=j0
       . subst hn;rw[AAK (by simpa using N)];simp[H]
       . rw[AAM (by omega)]
   . cases C
theorem Qh {t x new l:DV} (m:List Step) (d:DW t m new=some x) (f:Abs.Ao t m=some l) (y:∀h b k rows,l≠ .own h b k rows) (u:∀g,l≠ .agg g) (w:∀g,l≠ .BT g)
 (q:List Step) (v:Value) (bx:Bool) (k:Nat) (rows:List (List DV)) (e:Abs.Ao t q=some (.own v bx k rows)):∃n,Abs.Ao x q=some (.own v bx k n):=by
 induction m generalizing t x q with
 |nil=>
  simp only[Abs.Ao,AAG]at f;subst f;cases q with
  |nil=>simp only[Abs.Ao,AAG]at e;exact absurd e (y _ _ _ _)
  |cons s q=>
   cases t with
   |lf a v=>simp[Abs.Ao]at e
   |own h b k rows=>exact absurd rfl (y _ _ _ _)
   |agg g=>exact absurd rfl (u _)
   |BT g=>exact absurd rfl (w _)
 |cons s m ih=>
  obtain⟨i,j,D⟩:=s;cases t with
  |lf a v=>simp[DW]at d
  |own h b k1 JF=>
   simp only[DW]at d;simp only[Abs.Ao]at f;cases hi:JF[i]? with
   |none=>simp[hi]at d
   |some row=>
    simp only[hi]at d f;cases hj:row[j]? with
    |none=>simp[hj]at d
    |some c=>
     simp only[hj]at d f;cases hc:DW c m new with
     |none=>simp[hc]at d
     |some c'=>
      simp only[hc,AAG]at d;subst d;have B:=(AAI.1 hi).1;have o:=(AAI.1 hj).1;cases q with
      |nil=>simp only[Abs.Ao,AAG,DV.own.injEq]at e;obtain⟨rfl,rfl,rfl,_⟩:=e;exact⟨_,rfl⟩
      |cons s2 q=>
       obtain⟨i2,r,z⟩:=s2;simp only[Abs.Ao]at e ⊢;by_cases C:i2=i
       . subst C;simp only[AAK B];simp only[hi]at e;by_cases p:r=j
         . subst p;simp only[AAK o];simp only[hj]at e;exact ih hc f q e
         . rw[AAM (by omega)];exact⟨rows,e⟩
       . rw[AAM (by omega)];exact⟨rows,e⟩
  |agg g=>
   simp only[DW]at d;simp only[Abs.Ao]at f;cases hj:g[j]? with
   |none=>simp[hj]at d
   |some c=>
    simp only[hj]at d f;cases hc:DW c m new with
    |none=>simp[hc]at d
    |some c'=>
     simp only[hc,AAG]at d;subst d;have o:=(AAI.1 hj).1;cases q with
     |nil=>simp[Abs.Ao]at e
     |cons s2 q=>
      obtain⟨i2,r,z⟩:=s2;simp only[Abs.Ao]at e ⊢;by_cases p:r=j
      . subst p;simp only[AAK o];simp only[hj]at e;exact ih hc f q e
      . rw[AAM (by omega)];exact⟨rows,e⟩
  |BT g=>
   simp only[DW]at d;simp only[Abs.Ao]at f;cases hj:g[j]? with
   |none=>simp[hj]at d
   |some c=>
    simp only[hj]at d f;cases hc:DW c m new with
    |none=>simp[hc]at d
    |some c'=>
     simp only[hc,AAG]at d;subst d;have o:=(AAI.1 hj).1;cases q with
     |nil=>simp[Abs.Ao]at e
     |cons s2 q=>
      obtain⟨i2,r,z⟩:=s2;simp only[Abs.Ao]at e ⊢;by_cases p:r=j
      . subst p;simp only[AAK o];simp only[hj]at e;exact ih hc f q e
      . rw[AAM (by omega)];exact⟨rows,e⟩
end Go.Abs
namespace Go.Abs
variable {w w':World} {S S':Nat->Prop} {F F':Nat->Prop}
structure St (G:Gi) (w:World) (S:Nat->Prop) (δ:Nat->DV) (F:Nat->Nat->Prop):Prop where
 ok:∀s,Ok w S (δ s) (F s)
 LX:∀s t x,F s x->F t x->s=t
 al:∀s,DQ δ (δ s)
 rt:∀s,FM (G.Gc s) (δ s).er=true
 self:∀s,s∉G.Gc s
mutual
def Ex (n d:Nat):AV->AV
 | .al r p=>if r=d/\n≤p.length then .dead else .al r p
 | .KJ r p i j k=>if r=d/\n≤p.length then .dead else .KJ r p i j k
 | .cl f rs=>if(rs.all λx=>x.1 != d)=true then .cl f rs else .dead
 | .vb s o us=>if s=d then .dead else .vb s o us
 | .agg cs=>.agg (Tm n d cs)
 | .BT cs=>.BT (Tm n d cs)
 |a=>a
def Tm (n d:Nat):List AV->List AV
 |[]=>[]
 |a::r=>Ex n d a::Tm n d r
end
theorem Y3 (n d:Nat) (l:List AV):Tm n d l=l.map (Ex n d):=by
 induction l with
 |nil=>rfl
 |cons a r ih=>simp[Tm,ih]
mutual
def Fj (n d:Nat):DV->DV
 | .lf a v=>.lf (Ex n d a) v
 | .own h b k rows=>.own h b k rows
 | .agg cs=>.agg (SF n d cs)
 | .BT cs=>.BT (SF n d cs)
def SF (n d:Nat):List DV->List DV
 |[]=>[]
 |a::r=>Fj n d a::SF n d r
end
theorem Wk (n d:Nat) (l:List DV):SF n d l=l.map (Fj n d):=by
 induction l with
 |nil=>rfl
 |cons a r ih=>simp[SF,ih]
def Fk (G:Gi) (n d:Nat) (σ:Sg):Sg:=λs=>if s∈G.Nk d then Ex n d (σ s)else σ s
def EP (G:Gi) (n d:Nat) (δ:Nat->DV):Nat->DV:=λs=>if s∈G.Nk d then Fj n d (δ s)else δ s
def JB (G:Gi) (d:Nat) (σ:Sg):Sg:=λs=>if s∈G.Nk d then DT d (σ s)else σ s
def Gy (G:Gi) (d:Nat) (δ:Nat->DV):Nat->DV:=λs=>if s∈G.Nk d then Gx d (δ s)else δ s
theorem Xk {t:DV} (d:Nat) (q:List Step) {v:Value} {bx:Bool} {k:Nat} {rows:List (List DV)} (e:Abs.Ao t q=some (.own v bx k rows)):Abs.Ao (Gx d t) q=some (.own v bx k rows):=by
 induction q generalizing t with
 |nil=>simp only[Abs.Ao,Option.some.injEq]at e;subst e;simp[Abs.Ao]
 |cons s q ih=>
  obtain⟨i,j,f⟩:=s;cases t with
  |lf a v=>simp[Abs.Ao]at e
  |own h b k1 JF=>rw[Ml];exact e
  |agg cs=>
   simp only[Ju,Abs.Ao,List.getElem?_map]at e ⊢;cases hj:cs[j]? with
   |none=>simp[hj]at e
   |some c=>simp only[hj,Option.map_some]at e ⊢;exact ih e
  |BT cs=>
   simp only[Jv,Abs.Ao,List.getElem?_map]at e ⊢;cases hj:cs[j]? with
   |none=>simp[hj]at e
   |some c=>simp only[hj,Option.map_some]at e ⊢;exact ih e
theorem DQ.kill {δ:Nat->DV} {x:DV} (d:Nat) (h:DQ δ x) (b:Ya x):DQ δ (Gx d x):=by
 induction h with
 |lf a v h=>
  rw[Wj];refine .lf _ v ?_;cases b with
  |lf _ _ b=>
   cases a with
   |al r p=>
    rw[Wp];by_cases e:r=d
    . simp only[e,if_true];trivial
    . simp only[e,if_false];exact h
   |KJ r p i j k=>
    rw[To];by_cases e:r=d
    . simp only[e,if_true];trivial
    . simp only[e,if_false];exact h
   |vb s o us=>
    rw[Wq];split
    . trivial
    . exact h
   |cl f rs=>
    rw[SH];split
    . exact h
    . trivial
   |agg cs=>simp[C3]at b
   |BT cs=>simp[C3]at b
   |own=>simp[C3]at b
   |_=>simp only[DT];trivial
 |own=>rw[Ml];exact .own _ _ _ _
 |agg cs _ ih=>
  rw[Ju];cases b with
  |agg _ b=>refine .agg _ λi g hd=> ?_;simp only[List.getElem?_map,Option.map_eq_some_iff]at hd;obtain⟨e,c,rfl⟩:=hd;exact ih i e c (b i e c)
 |BT cs _ ih=>
  rw[Jv];cases b with
  |BT _ b=>refine .BT _ λi g hd=> ?_;simp only[List.getElem?_map,Option.map_eq_some_iff]at hd;obtain⟨e,c,rfl⟩:=hd;exact ih i e c (b i e c)
variable {G:Gi} {δ:Nat->DV} {Fr:Nat->Nat->Prop}
theorem St.dX (h:St G w S δ Fr) (d s:Nat):(Gy G d δ s).er=JB G d (λs=>(δ s).er) s:=by
 unfold Gy JB;split
 . exact(KT d (h.ok s)).1
 . rfl
theorem St.Tp (h:St G w S δ Fr) (d s:Nat):(Gy G d δ s).A0=(δ s).A0:=by
 unfold Gy;split
 . exact(KT d (h.ok s)).2.1
 . rfl
theorem St.dY (h:St G w S δ Fr) (d s:Nat):FL d (Gy G d δ s).er=true:=by
 unfold Gy;split
 . exact(KT d (h.ok s)).2.2.2
 . rename_i hn;exact tK (h.rt s) λa=>hn (Gi.oL a)
theorem St.killδ_ok (h:St G w S δ Fr) (d s:Nat):Ok w S (Gy G d δ s) (Fr s):=by
 unfold Gy;split
 . exact(KT d (h.ok s)).2.2.1
 . exact h.ok s
theorem St.dZ (h:St G w S δ Fr) (d s:Nat):FM (G.Gc s) (Gy G d δ s).er=true:=by
 unfold Gy;split
 . rw[(KT d (h.ok s)).1];exact sH (h.rt s)
 . exact h.rt s
theorem St.killδ_al (h:St G w S δ Fr) (d s:Nat):DQ δ (Gy G d δ s):=by
 unfold Gy;split
 . exact(h.al s).kill d (h.ok s).KU
 . exact h.al s
theorem sJ (d r:Nat) (p:List Step) {v:Value} {bx:Bool} {k:Nat} {rows:List (List DV)} (a:Abs.Ao (δ r) p=some (.own v bx k rows)):Abs.Ao (Gy G d δ r) p=some (.own v bx k rows):=by
 unfold Gy;split
 . exact Xk d p a
 . exact a
theorem sV {L:List Nat} {d:Nat} {a:AV}:FM L a=true->FL d a=true->FM (L.filter (· != d)) a=true:=by
 refine AV.rec (motive_1:=λa=>FM L a=true->FL d a=true->FM (L.filter (· != d)) a=true) (motive_2:=λ_=>True) (motive_3:=λl=>PK L l=true->NQ d l=true->PK (L.filter (· != d)) l=true)
  ?_ ?_ ?_ ?_ ?_ ?_ ?_ ?_ ?_ ?_ ?_ ?_ ?_ ?_ ?_ ?_ ?_ a
 all_goals intros
 all_goals first|trivial| (simp[FM];done)|skip
 all_goals first
  | (simp_all [FM,FL];done)
  | (simp_all [PK,NQ];done)
  | (rename_i b c;simp only[FM,FL,List.all_eq_true,List.contains_iff_mem,List.mem_filter]at b c ⊢;exactλx e=>⟨b x e,c x e⟩)
  | (rename_i f b c;simp only[FM,FL]at b c ⊢;exact f b c)
theorem St.set (h:St G w S δ Fr) (d:Nat) (e:DV) (Fn:Nat->Prop) (D:∀b,S b->w'.heap[b]? =w.heap[b]?) (B:∀s,s≠d->∀x,Fr s x->w'.heap[x]? =w.heap[x]?)
 (y:∀b,S b->S' b) (z:∀s,s≠d->∀x,Fr s x->¬S' x) (hn:Ok w' S' e Fn) (m:∀s,s≠d->∀x,Fn x->¬Fr s x) (q:FM (G.Gc d) e.er=true) (u:DQ δ e):
 St G w' S' (DP (Gy G d δ) d e) (DP Fr d Fn):=by
 have n:∀(L:List Nat),d∉L->∀r∈L,∀p v bx k rows,Abs.Ao (δ r) p=some (.own v bx k rows)->∃c,Abs.Ao (DP (Gy G d δ) d e r) p=some (.own v bx k c):=by intro L j r l p v bx k rows C;refine⟨rows,?_⟩;rw[Ba _ _ (by rintro rfl;exact j l)];exact sJ d r p C
 have o:∀(L:List Nat),d∉L->∀r∈L,(DP (Gy G d δ) d e r).A0=(δ r).A0:=by intro L j r l;rw[Ba _ _ (by rintro rfl;exact j l)];exact h.Tp d r
 refine⟨?_,?_,?_,?_,h.self⟩
 . intro s;by_cases a:s=d
   . subst a;rw[BG,BG];exact hn
   . rw[Ba _ _ a,Ba _ _ a];exact(h.killδ_ok d s).mono D (B s a) y (z s a)
 . intro s t x f g;by_cases a:s=d<;>by_cases i:t=d
   . omega
   . subst a;rw[BG]at f;rw[Ba _ _ i]at g;exact absurd g (m t i x f)
   . subst i;rw[BG]at g;rw[Ba _ _ a]at f;exact absurd f (m s a x g)
   . rw[Ba _ _ a]at f;rw[Ba _ _ i]at g;exact h.LX s t x f g
 . intro s;by_cases a:s=d
   . subst a;rw[BG];exact u.mono q (n _ (h.self s)) (o _ (h.self s))
   . rw[Ba _ _ a];refine(h.killδ_al d s).mono (sV (h.dZ d s) (h.dY d s)) (n _ ?_) (o _ ?_)
     . simp
     . simp
 . intro s;by_cases a:s=d
   . subst a;rw[BG];exact q
   . rw[Ba _ _ a];exact h.dZ d s
theorem St.poke (h:St G w S δ Fr) (d:Nat) (e:DV) (Fn:Nat->Prop) (C:∀b,S b->w'.heap[b]? =w.heap[b]?) (B:∀s,s≠d->∀x,Fr s x->w'.heap[x]? =w.heap[x]?)
 (hn:Ok w' S e Fn) (l:∀s,s≠d->∀x,Fn x->¬Fr s x) (o:FM (G.Gc d) e.er=true) (y:DQ δ e)
 (z:∀p v bx k rows,Abs.Ao (δ d) p=some (.own v bx k rows)->∃c,Abs.Ao e p=some (.own v bx k c)) (u:e.A0=(δ d).A0):
 St G w' S (DP δ d e) (DP Fr d Fn):=by
 have m:∀(L:List Nat),∀r∈L,∀p v bx k rows,Abs.Ao (δ r) p=some (.own v bx k rows)->∃c,Abs.Ao (DP δ d e r) p=some (.own v bx k c):=by
  intro L r _ p v bx k rows q;by_cases i:r=d
  . subst i;rw[BG];exact z p v bx k rows q
  . rw[Ba _ _ i];exact⟨rows,q⟩
 have n:∀(L:List Nat),∀r∈L,(DP δ d e r).A0=(δ r).A0:=by
  intro L r _;by_cases i:r=d
  . subst i;rw[BG];exact u
  . rw[Ba _ _ i]
 refine⟨?_,?_,?_,?_,h.self⟩
 . intro s;by_cases a:s=d
   . subst a;rw[BG,BG];exact hn
   . rw[Ba _ _ a,Ba _ _ a];exact(h.ok s).mono C (B s a) (λ_ h=>h) (h.ok s).Ek
 . intro s t x f g;by_cases a:s=d<;>by_cases j:t=d
   . omega
   . subst a;rw[BG]at f;rw[Ba _ _ j]at g;exact absurd g (l t j x f)
   . subst j;rw[BG]at g;rw[Ba _ _ a]at f;exact absurd f (l s a x g)
   . rw[Ba _ _ a]at f;rw[Ba _ _ j]at g;exact h.LX s t x f g
 . intro s;by_cases a:s=d
   . subst a;rw[BG];exact y.mono o (m _) (n _)
   . rw[Ba _ _ a];exact(h.al s).mono (h.rt s) (m _) (n _)
 . intro s;by_cases a:s=d
   . subst a;rw[BG];exact o
   . rw[Ba _ _ a];exact h.rt s
theorem St.world (h:St G w S δ Fr) (e:∀b,S b->w'.heap[b]? =w.heap[b]?) (d:∀s x,Fr s x->w'.heap[x]? =w.heap[x]?) (a:∀b,S b->S' b) (c:∀s x,Fr s x->¬S' x):St G w' S' δ Fr:=
 ⟨λs=>(h.ok s).mono e (d s) a (c s),h.LX,h.al,h.rt,h.self⟩
end Go.Abs
namespace Go.Abs
inductive Ar where
 |t (s:Nat)
 |c (a:AV)
 deriving Inhabited
inductive Xu where
 |cp (x:Ar)
 |mv (x:Ar)
 |fz (x:Ar)
 |pick (c a b:Ar)
 |bx (n:Nat) (x:Ar)
 |TY (z:List AV) (ps:List (Nat×Nat×Ar))
 |NH (k:Nat) (z:List (List AV)) (ps:List (Nat×Ar))
 |ld (agg:Bool) (n:Nat) (a:Ar)
 |st (n:Nat) (a v:Ar)
 |UG (off:Nat) (x:Ar)
 |fld (agg:Bool) (off n:Nat) (x:Ar)
 |Va (k:Nat) (x i:Ar)
 |aad (len k:Nat) (x i:Ar)
 |idx (agg:Bool) (len k:Nat) (x i:Ar)
 |bin (op:BinOp) (x y:Ar)
 |beq (neg:Bool) (x y:Ar)
 |un (op:UnOp) (x:Ar)
 |cvt (k:IntKind) (x:Ar)
 |mm (mx:Bool) (x y:Ar)
 |len (x:Ar)
 |YU (x:Ar)
 |fL (x i:Ar)
 |fK (neg:Bool) (kd:List Nat) (x y:Ar)
 |app (k bytes:Nat) (x y:Ar)
 |vV (k:Nat) (fr:Bool) (x:Ar) (lo hi mx:ABh Ar)
 |ext (x:Ar) (i:Nat)
 |mk (k bytes:Nat) (z:List AV) (l c:Ar)
 |JW (x:Ar)
 |mkf (f:Nat) (xs:List Ar)
 |Wv (a:Ar)
 |fl
 |flk (x:Ar) (k:Nat)
 |dT (r off kb k:Nat) (i:Ar)
 |Vg (a v:Ar)
 |std (a:Ar)
 |call (f:Nat) (args:List Ar) (m:Nat)
 |Ww (f:Nat) (pre:List Ar) (x:Ar) (c:ABh Nat) (post:List Ar)
 |bad
 deriving Inhabited
structure Dw where
 d:Nat
 kl:List Nat
 rs:List Nat
 deriving Inhabited
structure BP where
 dst:ABh Dw
 op:Xu
 guard:ABh (Nat×Bool)
 deriving Inhabited
structure uU where
 s:Nat
 e:Nat
 ap:Nat
 i7:Nat
 i8:Nat
 i9:Nat
 i11:Nat
 i12:Nat
 deriving Inhabited
inductive gC where
 |o (o:BP)
 |bxv (d:Dw) (n:Nat) (s:Nat)
 |clo (d:ABh Dw) (f:Nat) (x:Ar) (args:List Ar) (g:ABh (Nat×Bool))
 |SU (d:Dw) (neg:Bool) (x:Ar)
 |lb (d:ABh Dw) (f:Nat) (x:Ar) (gJ:List Ar) (y:Ar)
 |gld (d:Dw) (g n:Nat)
 deriving Inhabited
structure uV where
 r:Nat
 off:Nat
 kb:Nat
 i0:Nat
 i1:Nat
 i2:Nat
 d0:Nat
 d1:Nat
 deriving Inhabited
inductive IC where
 |skip
 |bad
 |YS (ops:List gC)
 |gz (c:Bool) (r:Nat) (p:List Step) (a:IC)
 |pg (c:Bool) (r:Nat) (p:List Step) (a:IC)
 |apd (f:uU) (ops:List BP)
 |OQ (ops:List BP)
 |flo (f:uV) (a b:List BP)
 |bE (fs:List (Nat×Nat×Nat×Nat)) (ops:List BP)
 |seq (a b:IC)
 |cond (c:Ar) (a b:IC)
 |block (id:Nat) (a:IC)
 |loop (a:IC)
 |exit (id:Nat)
 |ret
 deriving Inhabited
def ar (σ:Sg):Ar->AV
 | .t s=>σ s
 | .c a=>a
def G9:AV->Bool
 | .sc _| .sl .. =>true
 |_=>false
def I3:AV->AV
 | .sc u=>.sc u
 | .sl x k rows=>.sl x k rows
 |_=>.dead
def FB:AV->Bool
 | .sc _| .sl .. | .own .. =>true
 |_=>false
mutual
def view (r:Nat):List Step->AV->AV
 |p,.own _ _ _=>.al r p
 |p,.agg cs=>.agg (PR r p 0 cs)
 |p,.BT cs=>.BT (PR r p 0 cs)
 |_,a=>a
def PR (r:Nat) (p:List Step):Nat->List AV->List AV
 |_,[]=>[]
 |i,c::cs=>view r (p++[(0,i,0)]) c::PR r p (i+1) cs
end
def vC (r:Nat) (p:List Step) (i j k:Nat):AV->AV
 | .own _ _ _=>.al r (p++[(i,j,k)])
 | .sc v=>.sc v
 | .sl x k' rows=>.sl x k' rows
 |_=>.dead
def vF (s j:Nat):AV->AV
 | .own _ _ _=>.al s [(0,j,0)]
 | .agg _=>.dead
 | .BT _=>.dead
 |a=>a
def PQ (r:Nat) (p:List Step) (i k:Nat):Nat->List AV->List AV
 |_,[]=>[]
 |j,c::cs=>vC r p i j k c::PQ r p i k (j+1) cs
def ME (s:Nat):Nat->List AV->List AV
 |_,[]=>[]
 |j,c::cs=>vF s j c::ME s (j+1) cs
def JC (kl:List Nat) (d:Nat) (σ:Sg):Sg:=match kl with
 |[]=>σ
 |_=>λs=>if s∈kl then DT d (σ s)else σ s
def wr (d:Dw) (v:AV) (σ:Sg):Option Sg:=if FM d.rs v=true then some (DP (JC d.kl d.d σ) d.d v)else none
def aT (G:Gi) (r:Nat) (p:List Step) (σ:Sg):Option (AV×Sg):=
 match sub (σ r) p with
 |some (.own b k rows)=>match put (σ r) p .dead with
  |some t=>some (.own b k rows,DP (Fk G p.length r σ) r t)
  |none=>none
 |_=>none
def gN (G:Gi):List AV->Sg->Option (List AV×Sg)
 |[],σ=>some ([],σ)
 |a::cs,σ=>match a with
  | .al r p=>match aT G r p σ with
   |some (n,τ)=>match gN G cs τ with
    |some (l,τ')=>some (n::l,τ')
    |none=>none
   |none=>none
  |a=>if FB a=true then
   match gN G cs σ with
   |some (l,τ)=>some (a::l,τ)
   |none=>none
   else none
def tk (G:Gi) (x:Ar) (σ:Sg):Option (AV×Sg):=
 match x with
 | .c a=>some (a,σ)
 | .t s=>match σ s with
  | .al r p=>aT G r p σ
  | .own b k rows=>some (.own b k rows,DP (JB G s σ) s .dead)
  | .agg cs=>if cs.all G9=true then some (.agg cs,σ)else
   match gN G cs (DP (JB G s σ) s .dead)with
   |some (l,τ)=>some (.agg l,τ)
   |none=>none
  | .sc v=>some (.sc v,σ)
  | .sl e k rows=>some (.sl e k rows,σ)
  | .KJ r p i j k=>some (.KJ r p i j k,σ)
  | .fp cs=>some (.fp cs,σ)
  |_=>none
def cellsOf:AV->List AV
 | .agg cs=>cs
 |a=>[a]
def hd (σ:Sg) (x:Ar):Option (AV×Option (Nat×List Step)):=
 match x with
 | .c a=>match a with
  | .own b k rows=>some (.own b k rows,none)
  |_=>none
 | .t s=>match σ s with
  | .al r p=>match sub (σ r) p with
   |some n=>some (n,some (r,p))
   |none=>none
  | .own b k rows=>some (.own b k rows,some (s,[]))
  | .sl e k rows=>some (.sl e k rows,none)
  |_=>none
def Pz (G:Gi) (r:Nat) (p:List Step) (σ:Sg):Option (AV×Sg):=
 match sub (σ r) p with
 |some (.own b k rows)=>match put (σ r) p (I1 (.own b k rows))with
  |some t=>some (I1 (.own b k rows),DP (JB G r σ) r t)
  |none=>none
 |_=>none
def iY:AV->Option Int
 | .sc (.int _ n)=>some n
 |_=>none
def D9 (σ:Sg) (x:Ar):Option (Nat×List Step×Nat×Nat×Nat):=
 match x with
 | .c _=>none
 | .t s=>match σ s with
  | .KJ r p i j k=>some (r,p,i,j,k)
  | .own true k _=>some (s,[],0,0,k)
  | .al r p=>match sub (σ r) p with
   |some (.own true k _)=>some (r,p,0,0,k)
   |_=>none
  |_=>none
def binI (op:BinOp) (k:IntKind) (x y:Int):Option Value:=
 match op with
 | .add=>some (.int k (k.wrap (x+y)))
 | .sub=>some (.int k (k.wrap (x-y)))
 | .mul=>some (.int k (k.wrap (x*y)))
 | .quo=>if y=0 then none else some (.int k (k.wrap (x.tdiv y)))
 | .rem=>if y=0 then none else some (.int k (x.tmod y))
 | .eql=>some (.bool (x==y))
 | .neq=>some (.bool (x != y))
 | .lss=>some (.bool (x<y))
 | .leq=>some (.bool (x≤y))
 | .gtr=>some (.bool (x>y))
 | .geq=>some (.bool (x≥y))
 |_=>none
def binF (op:BinOp):AV->AV->Option AV
 | .sc (.int k x),.sc (.int k' y)=>if k=k' then(binI op k x y).map .sc else none
 | .sc (.string x),.sc (.string y)=>match op with
  | .eql=>some (.sc (.bool (x.toList==y.toList)))
  | .neq=>some (.sc (.bool (!(x.toList==y.toList))))
  |_=>none
 |_,_=>none
def unF (op:UnOp):AV->Option AV
 | .sc (.bool x)=>match op with
  | .not=>some (.sc (.bool (!x)))
  |_=>none
 | .sc (.int k x)=>match op with
  | .neg=>some (.sc (.int k (k.wrap (0-x))))
  |_=>none
 |_=>none
def IB (agg:Bool) (n:Nat) (cs:List AV):Option AV:=
 if cs.length=n then(if agg=true then some (.agg cs)else match cs with|[c]=>some c|_=>none)else none
def Rn (rows:List (List AV)) (lo hi:Nat):Option (List (List AV)):=
 if lo≤hi/\hi≤rows.length then some ((rows.drop lo).take (hi-lo))else none
def Mp (σ:Sg) (x:Option Ar) (d:Nat):Option Nat:=
 match x with
 |none=>some d
 |some a=>match iY (ar σ a)with
  |some n=>if 0≤n then some n.toNat else none
  |none=>none
def vT (σ:Sg) (mx:Option Ar) (h:Nat):Option Nat:=
 match mx with
 |none=>some h
 |some a=>Mp σ (some a) 0
def q9:Nat->Value->Value->Option Bool
 |0,.bool a,.bool b=>some (a==b)
 |1,.int k n,.int k' m=>if k=k' then some (n==m)else none
 |2,.string a,.string b=>some (a.toList==b.toList)
 |_,_,_=>none
def Pc:List Nat->List AV->List AV->Option Bool
 |[],[],[]=>some true
 |kd::ks,.sc u::xs,.sc v::ys=>match q9 kd u v,Pc ks xs ys with
  |some a,some b=>some (a&&b)
  |_,_=>none
 |_,_,_=>none
def Rg (σ:Sg):List Ar->Option (List (Nat×List Step))
 |[]=>some []
 |x::r=>match x with
  | .t s=>(match σ s,Rg σ r with
   | .own true _ _,some l=>some ((s,[])::l)
   | .al q p,some l=>(match sub (σ q) p with
    |some (.own true _ _)=>some ((q,p)::l)
    |_=>none)
   |_,_=>none)
  | .c _=>none
def valOf (o:Xu) (σ:Sg):Option AV:=
 match o with
 | .cp x=>match x with
  | .t s=>some (view s [] (σ s))
  | .c a=>some a
 | .pick c a b=>match ar σ c with
  | .sc (.bool x)=>match ar σ (if x=true then a else b)with
   | .sc v=>some (.sc v)
   |_=>none
  |_=>none
 | .ld agg n a=>match a with
  | .c _=>none
  | .t s=>match σ s with
   | .fp cs=>IB agg n ((cs.take n).map I3)
   | .vb q o _=>match σ q with
    | .agg cs=>IB agg n (ME q o ((cs.drop o).take n))
    |_=>none
   |_=>match D9 σ (.t s)with
    |some (r,p,i,j,k)=>match sub (σ r) p with
     |some (.own _ _ rows)=>match rows[i]? with
      |some row=>IB agg n (PQ r p i k j ((row.drop j).take n))
      |none=>none
     |_=>none
    |none=>none
 | .UG off x=>match x with
  | .c _=>none
  | .t s=>match σ s with
   | .fp cs=>some (.fp (cs.drop off))
   | .vb q o us=>some (.vb q (o+off) us)
   |_=>match D9 σ (.t s)with
    |some (r,p,i,j,k)=>some (.KJ r p i (j+off) k)
    |none=>none
 | .fld agg off n x=>match x with
  | .c _=>none
  | .t s=>match σ s with
   | .agg cs=>IB agg n (ME s off ((cs.drop off).take n))
   |_=>none
 | .Va k x i=>match hd σ x,iY (ar σ i)with
  |some (.own false k' rows,some (r,p)),some n=>if k'=k/\0≤n/\n<rows.length then some (.KJ r p n.toNat 0 k)else none
  |some (.sl _ k' rows,_),some n=>if k'=k/\0≤n then(rows[n.toNat]?).map .fp else none
  |_,_=>none
 | .aad len k x i=>match x,iY (ar σ i)with
  | .t s,some n=>if 0≤n/\n<len then
   match σ s with
   | .fp cs=>some (.fp (cs.drop (n.toNat*k)))
   |_=>match D9 σ (.t s)with
    |some (r,p,i,j,k')=>some (.KJ r p i (j+n.toNat*k) k')
    |none=>none
   else none
  |_,_=>none
 | .idx agg len k x i=>match x,iY (ar σ i)with
  | .t s,some n=>if 0≤n/\n<len then
   match σ s with
   | .agg cs=>IB agg k (ME s (n.toNat*k) ((cs.drop (n.toNat*k)).take k))
   |_=>none
   else none
  |_,_=>none
 | .bin op x y=>binF op (ar σ x) (ar σ y)
 | .beq neg x y=>match ar σ x,ar σ y with
  | .sc (.bool a),.sc (.bool b)=>some (.sc (.bool (if neg=true then !(a==b)else(a==b))))
  |_,_=>none
 | .un op x=>unF op (ar σ x)
 | .cvt k x=>match ar σ x with
  | .sc (.int _ n)=>some (.sc (.int k (k.wrap n)))
  |_=>none
 | .mm mx x y=>match ar σ x,ar σ y with
  | .sc (.int k n),.sc (.int k' m)=>if k=k' then some (.sc (.int k (if mx=true then(if m>n then m else n)else(if m<n then m else n))))else none
  |_,_=>none
 | .len x=>match hd σ x with
  |some (.own false _ rows,_)=>some (.sc (.int .i64 rows.length))
  |some (.sl _ _ rows,_)=>some (.sc (.int .i64 rows.length))
  |_=>none
 | .YU x=>match ar σ x with
  | .sc (.string s)=>some (.sc (.int .i64 s.size))
  |_=>none
 | .fL x i=>match ar σ x,iY (ar σ i)with
  | .sc (.string s),some n=>if 0≤n then(s[n.toNat]?).map λb=>.sc (.int .u8 b.toNat)else none
  |_,_=>none
 | .fK neg kd x y=>match ar σ x,ar σ y with
  | .agg xs,.agg ys=>(Pc kd xs ys).map λb=>.sc (.bool (if neg=true then !b else b))
  |_,_=>none
 | .ext x i=>match x with
  | .t s=>match σ s with
   | .BT cs=>match cs[i]? with
    |some c=>some (view s [(0,i,0)] c)
    |none=>none
   |_=>none
  |_=>none
 | .JW x=>match ar σ x with
  | .KJ r p i j k=>some (.KJ r p i j k)
  | .fp cs=>some (.fp cs)
  | .al r p=>match sub (σ r) p with
   |some (.own true _ _)=>some (.al r p)
   |_=>none
  | .own true _ _=>match x with
   | .t s=>some (.al s [])
   |_=>none
  |_=>none
 | .mkf f xs=>(Rg σ xs).map (.cl f)
 | .fl=>some .dead
 | .flk x k=>match x with
  | .t s=>match σ s with
   | .BT cs=>if k<cs.length then some .dead else none
   |_=>none
  |_=>none
 | .dT r off kb k i=>match σ r,iY (ar σ i)with
  | .own true kb' [row],some n=>match row[off]? with
   |some (.own false k' rows)=>if kb'=kb/\k'=k/\0≤n/\n<rows.length then some (.KJ r [(0,off,kb)] n.toNat 0 k)else none
   |_=>none
  |_,_=>none
 | .Wv a=>match D9 σ a with
  |some (r,p,i,j,k)=>match sub (σ r) p with
   |some (.own _ _ rows)=>match rows[i]? with
    |some row=>match row[j]? with
     |some (.own _ _ _)=>some (.al r (p++[(i,j,k)]))
     |_=>none
    |none=>none
   |_=>none
  |none=>none
 |_=>none
def aN (cs:List AV) (off:Nat) (xs:List AV):List AV:=cs.take off++xs++cs.drop (off+xs.length)
def Ul (G:Gi):List (Nat×Nat×Ar)->List AV->Sg->Option (List AV×Sg)
 |[],cs,σ=>some (cs,σ)
 | (off,n,x)::ps,cs,σ=>match tk G x σ with
  |some (a,τ)=>if(cellsOf a).length=n/\off+n≤cs.length/\(cellsOf a).all FB=true then Ul G ps (aN cs off (cellsOf a)) τ else none
  |none=>none
def Um (G:Gi) (k:Nat):List (Nat×Ar)->List (List AV)->Sg->Option (List (List AV)×Sg)
 |[],rows,σ=>some (rows,σ)
 | (i,x)::ps,rows,σ=>match tk G x σ with
  |some (a,τ)=>if(cellsOf a).length=k/\i<rows.length/\(cellsOf a).all FB=true then Um G k ps (rows.set i (cellsOf a)) τ else none
  |none=>none
def stC (p:List Step) (i k:Nat):Nat->List AV->AV->Option AV
 |_,[],t=>some t
 |j,c::cs,t=>match put t (p++[(i,j,k)]) c with
  |some t'=>stC p i k (j+1) cs t'
  |none=>none
def Ap (n bytes:Nat):Bool:=n*bytes≤70368744177664
def V0 (G:Gi) (k:Nat) (y:Ar) (σ:Sg):Option (List (List AV)×Sg):=
 match y with
 | .t s=>match σ s with
  | .own false k' rows=>if k'=k/\rows.all (·.all FB)=true then some (rows,DP (JB G s σ) s .dead)else none
  | .sl _ k' rows=>if k'=k/\rows.all (·.all G9)=true then some (rows,σ)else none
  | .al r p=>match Pz G r p σ with
   |some (.sl _ k' rows,τ)=>if k'=k/\rows.all (·.all G9)=true then some (rows,τ)else none
   |_=>none
  |_=>none
 | .c a=>match a with
  | .own false _ []=>some ([],σ)
  |_=>none
def Uj (G:Gi) (k:Nat) (x:Ar) (τ:Sg):Option (AV×Sg):=
 match x with
 | .t s=>match τ s with
  | .sl true k' rows=>if k'=k/\rows.all (·.all G9)=true then some (.sl true k' rows,τ)else none
  | .own false k' rows=>if k'=k then some (.own false k' rows,DP (JB G s τ) s .dead)else none
  | .al r p=>match aT G r p τ with
   |some (.own false k' rows,τ')=>if k'=k then some (.own false k' rows,τ')else none
   |_=>none
  |_=>none
 | .c a=>match a with
  | .own false _ []=>some (.own false k [],τ)
  |_=>none
def F6 (G:Gi) (o:Xu) (d:Option Dw) (σ:Sg):Option Sg:=
 match o,d with
 | .mv x,some d=>match tk G x σ with
  |some (v,τ)=>wr d v τ
  |none=>none
 | .fz x,some d=>match x with
  | .t s=>match σ s with
   | .al r p=>match Pz G r p σ with
    |some (v,τ)=>wr d v τ
    |none=>none
   | .own _ _ _=>match Pz G s [] σ with
    |some (v,τ)=>wr d v τ
    |none=>none
   | .sc v=>wr d (.sc v) σ
   | .sl e k rows=>wr d (.sl e k rows) σ
   |_=>none
  | .c _=>none
 | .bx n x,some d=>match tk G x σ with
  |some (v,τ)=>if(cellsOf v).length=n/\(cellsOf v).all FB=true then wr d (.own true n [cellsOf v]) τ else none
  |none=>none
 | .TY z ps,some d=>match Ul G ps z σ with
  |some (cs,τ)=>wr d (.agg cs) τ
  |none=>none
 | .NH k z ps,some d=>match Um G k ps z σ with
  |some (rows,τ)=>wr d (.own false k rows) τ
  |none=>none
 | .mk k bytes z l c,some d=>match iY (ar σ l),iY (ar σ c)with
  |some l,some c=>if 0≤l/\l≤c/\Ap c.toNat bytes=true then wr d (.own false k (List.replicate l.toNat z)) σ else none
  |_,_=>none
 | .vV k fr x lo hi mx,some d=>match hd σ x with
  |some (.sl _ k' rows,_)=>match Mp σ lo 0,Mp σ hi rows.length with
   |some l,some h=>match Rn rows l h,vT σ mx h with
    |some rs,some m=>if k'=k/\m=h then wr d (.sl mx.isSome k rs) σ else none
    |_,_=>none
   |_,_=>none
  |some (.own false k' rows,some (r,p))=>match Mp σ lo 0,Mp σ hi rows.length with
   |some l,some h=>match Rn rows l h,vT σ mx h with
    |some rs,some m=>if k'=k/\m=h then
     (if fr=true then
      match Pz G r p σ with
      |some (_,τ)=>wr d (.sl mx.isSome k (rs.map (·.map I1))) τ
      |none=>none
     else if l=0/\mx.isNone=true then
      match aT G r p σ with
      |some (_,τ)=>wr d (.own false k rs) τ
      |none=>none
     else none)
     else none
    |_,_=>none
   |_,_=>none
  |_=>none
 | .app k bytes x y,some d=>match V0 G k y σ with
  |some (ys,τ)=>match Uj G k x τ with
   |some (.own _ _ rows,τ')=>if Ap (rows.length+ys.length) bytes=true then wr d (.own false k (rows++ys)) τ' else none
   |some (.sl _ _ rows,τ')=>if ys.isEmpty=true then wr d (.sl false k rows) τ'
    else if Ap (rows.length+ys.length) bytes=true then wr d (.own false k (rows++ys)) τ' else none
   |_=>none
  |none=>none
 | .st n a v,none=>match tk G v σ with
  |some (x,τ)=>match D9 τ a with
   |some (r,p,i,j,k)=>match sub (τ r) p with
    |some (.own _ _ rows)=>match rows[i]? with
     |some row=>
      if(cellsOf x).length=n/\(cellsOf x).all FB=true/\j+n≤row.length then
       match stC p i k j (cellsOf x) (τ r)with
       |some t=>if((row.drop j).take n).all C3=true then some (DP τ r t)else some (DP (JB G r τ) r t)
       |none=>none
      else none
     |none=>none
    |_=>none
   |none=>none
  |none=>none
 | .Vg a v,none=>match ar σ v with
  | .sc u=>match D9 σ a with
   |some (r,p,i,j,k)=>match sub (σ r) p with
    |some (.own _ _ rows)=>match rows[i]? with
     |some row=>match row[j]? with
      |some (.sc _)=>match put (σ r) (p++[(i,j,k)]) (.sc u)with
       |some t=>some (DP σ r t)
       |none=>none
      |_=>none
     |none=>none
    |_=>none
   |none=>none
  |_=>none
 | .std a,none=>match D9 σ a with
  |some (r,p,i,j,_)=>match sub (σ r) (p++[(i,j,0)])with
   |some .dead=>some σ
   |_=>none
  |none=>none
 |o,some d=>match valOf o σ with
  |some v=>wr d v σ
  |none=>none
 |_,none=>none
theorem lda_ld {a:Ar} {σ:Sg} {v:AV} (h:valOf (.Wv a) σ=some v):valOf (.ld false 1 a) σ=some v:=by
 simp only[valOf]at h ⊢;split at h
 . rename_i r p i j k d;split at h
   . rename_i b y rows u;split at h
     . rename_i e n;split at h
       . rename_i g x f l;obtain rfl:=Option.some.inj h;have hd:(e.drop j).take 1=[.own g x f]:=(by obtain⟨m,w⟩:=List.getElem?_eq_some_iff.1 l;rw[List.drop_eq_getElem_cons m,w];rfl);cases a with
         |c=>simp[D9]at d
         |t s=>
          simp only;cases hσ:σ s with
          |fp cs=>simp[D9,hσ]at d
          |vb q o us=>simp[D9,hσ]at d
          |_=>simp only[d,u,n,hd];rfl
       . cases h
     . cases h
   . cases h
 . cases h
theorem sts_st {G:Gi} {a v:Ar} {σ τ:Sg} (h:F6 G (.Vg a v) none σ=some τ):F6 G (.st 1 a v) none σ=some τ:=by
 simp only[F6]at h ⊢;split at h
 . rename_i u d;have f:tk G v σ=some (.sc u,σ):=by
    cases v with
    |c c=>simp only[ar]at d;subst d;rfl
    |t s=>simp only[ar]at d;simp[tk,d]
   rw[f];simp only;split at h
   . rename_i r p i j k g
     try simp only[g]
     split at h
     . rename_i b y rows o
       try simp only[o]
       split at h
       . rename_i e n
         try simp only[n]
         split at h
         . rename_i x l;obtain⟨m,w⟩:=List.getElem?_eq_some_iff.1 l;have hd:(e.drop j).take 1=[.sc x]:=(by rw[List.drop_eq_getElem_cons m,w];rfl);split at h
           . rename_i t q;obtain rfl:=Option.some.inj h;rw[if_pos ⟨by simp[cellsOf],by simp[cellsOf,FB],by omega⟩];simp[cellsOf,stC,q,hd,C3]
           . cases h
         . cases h
       . cases h
     . cases h
   . cases h
 . cases h
def Z2 (kb off:Nat):AV->Bool
 | .own true k [row]=>k==kb&&decide (off<row.length)
 |_=>false
end Go.Abs
namespace Go.Abs
structure Ext (w w':World) (F:Nat->Prop):Prop where
 os:w'.os=w.os
 tape:w'.tape=w.tape
 output:w'.output=w.output
 size:w.heap.size≤w'.heap.size
 block:∀b,b<w.heap.size->¬F b->w'.heap[b]? =w.heap[b]?
def Km:List ABi:=[⟨#[118,97,114]⟩,⟨#[118,111,108,97,116,105,108,101]⟩,⟨#[109,117,116,101,120]⟩,⟨#[114,119,108,111,99,107]⟩,⟨#[99,111,110,100]⟩,⟨#[102,117,116,117,114,101]⟩,⟨#[116,104,114,101,97,100]⟩,⟨#[105,102]⟩,⟨#[101,108,115,101]⟩,⟨#[119,104,105,108,101]⟩,⟨#[108,111,99,107]⟩,⟨#[114,101,97,100]⟩,⟨#[119,114,105,116,101]⟩,⟨#[116,114,97,110,115,97,99,116,105,111,110]⟩,⟨#[97,116,111,109,105,99]⟩,⟨#[119,97,105,116]⟩,⟨#[110,111,116,105,102,121]⟩,⟨#[110,111,116,105,102,121,97,108,108]⟩,⟨#[115,112,97,119,110]⟩,⟨#[106,111,105,110]⟩,⟨#[115,101,116]⟩,⟨#[103,101,116]⟩]
def Gam:List (Nat×List Value):=[(0,Km.map Value.string)]
def GI (w:World) (S:Nat->Prop):Prop:=∀x∈Gam,S x.1/\∃arr E fz,w.heap[x.1]? =some (.cells arr E fz)/\∀(j:Nat) v,x.2[j]? =some v->arr[j]? =some v
def BM (P:Program) (f:Nat) (args:List AV) (res:AV) (outs:List AV):Prop:=
 ∀(w:World) (S:Nat->Prop) (ds:List DV) (F:Nat->Prop),GI w S->ds.map DV.er=args->Ok w S (.BT ds) F->(∀b,S b->b<w.heap.size)->
  Calls P f (ds.map DV.A0).toArray w λe w'=>∃(r:DV) (os:List DV) (S' F':Nat->Prop),e= .returned r.A0/\r.er=res/\os.map DV.er=outs/\os.map DV.A0=ds.map DV.A0/\
   Ok w' S' (.BT (r::os)) F'/\Ext w w' F/\(∀b,S b->S' b)/\(∀b,S' b->S b∨F b∨w.heap.size≤b)/\(∀b,S' b->b<w'.heap.size)/\(∀x,F' x->F x∨w.heap.size≤x)
def Says (P:Program) (f:Nat) (args:List AV) (res:AV):Prop:=BM P f args res (args.map λ_=>.dead)
def Sj (σ:Sg):AV->ABh AV
 | .al r p=>match sub (σ r) p with
  |some (.own false k rows)=>some (I1 (.own false k rows))
  |some (.own true _ [row])=>some (.fp (row.map I1))
  |_=>none
 | .own false k rows=>some (I1 (.own false k rows))
 | .own true _ [row]=>some (.fp (row.map I1))
 | .fp cs=>some (.fp cs)
 | .sc v=>some (.sc v)
 | .sl _ k rows=>some (.sl false k rows)
 |_=>none
def vU (σ:Sg):List AV->ABh (List AV)
 |[]=>some []
 |a::r=>match Sj σ a,vU σ r with
  |some x,some l=>some (x::l)
  |_,_=>none
def eN (σ:Sg):AV->ABh AV
 | .agg cs=>match vU σ cs with
  |some l=>some (.agg l)
  |none=>none
 | .al r p=>Sj σ (.al r p)
 | .own b k rows=>Sj σ (.own b k rows)
 | .sc v=>Sj σ (.sc v)
 | .sl e k rows=>Sj σ (.sl e k rows)
 | .fp cs=>Sj σ (.fp cs)
 |_=>none
def JX (σ:Sg):List Ar->ABh (List AV)
 |[]=>some []
 |x::r=>match eN σ (ar σ x),JX σ r with
  |some a,some l=>some (a::l)
  |_,_=>none
def fzl:AV->AV
 | .sl _ k rows=>.sl false k rows
 |a=>I1 a
def vI:AV->AV
 | .agg cs=>.agg (cs.map fzl)
 |a=>fzl a
def MZ (G:Gi):List Ar->Sg->ABh (List AV×Sg)
 |[],σ=>some ([],σ)
 |x::r,σ=>match tk G x σ with
  |some (a,τ)=>match MZ G r τ with
   |some (l,τ')=>some (vI a::l,τ')
   |none=>none
  |none=>none
def Qi (G:Gi):List Ar->Sg->ABh (List AV×Sg)
 |[],σ=>some ([],σ)
 |x::r,σ=>match tk G x σ with
  |some (a,τ)=>match Qi G r τ with
   |some (l,τ')=>some (a::l,τ')
   |none=>none
  |none=>none
def V7 (σ:Sg):List (Nat×List Step)->ABh (List (List AV))
 |[]=>some []
 | (r,p)::l=>match Sj σ (.al r p),V7 σ l with
  |some (.fp cs),some VW=>some (cs::VW)
  |_,_=>none
def VM (G:Gi):List Ar->Sg->ABh (List AV×Sg)
 |[],_=>none
 |x::r,σ=>match r with
  |[]=>(match ar σ x with
   | .cl f rs=>(match V7 σ rs with
    |some VW=>some ([.kN f VW],σ)
    |none=>none)
   |_=>none)
  |y::r=>match tk G x σ with
   |some (a,τ)=>match VM G (y::r) τ with
    |some (l,τ')=>some (a::l,τ')
    |none=>none
   |none=>none
def Ys:AV->Bool
 | .sc _=>true
 | .agg cs=>cs.all λ| .sc _=>true|_=>false
 | .BT cs=>cs.all λ| .sc _=>true|_=>false
 |_=>false
mutual
def fresh:AV->Bool
 | .sc _=>true
 | .own _ _ rows=>Qs rows
 | .agg cs=>Ob cs
 | .BT cs=>Ob cs
 |_=>false
def Ob:List AV->Bool
 |[]=>true
 |a::r=>fresh a&&Ob r
def Qs:List (List AV)->Bool
 |[]=>true
 |a::r=>Ob a&&Qs r
end
def Jq:AV->Bool
 | .sc _| .sl .. | .own .. =>true
 |_=>false
def clean:AV->Bool
 | .agg cs=>cs.all Jq
 | .BT cs=>cs.all λ
  | .agg l=>l.all Jq
  |a=>Jq a
 |a=>Jq a
def RK (m:Nat) (res:AV):Option AV:=
 match m with
 |0=>if Ys res=true then some res else none
 |1=>some (I1 res)
 |2=>if fresh res=true then some res else none
 |3=>if clean res=true then some res else none
 |4=>if fresh res=true then some res else none
 |_=>none
def Fw (G:Gi) (m:Nat) (args:List Ar) (σ:Sg):Option (List AV×Sg):=
 match m with
 |1=>MZ G args σ
 |3=>Qi G args σ
 |4=>VM G args σ
 |_=>match JX σ args with
  |some l=>some (l,σ)
  |none=>none
def Cw (dst:Option Dw) (v:AV) (K:Sg->Prop) (τ:Sg):Prop:=
 match dst with
 |some d=>(match wr d v τ with
  |some τ'=>K τ'
  |none=>False)
 |none=>K τ
def plc (σ:Sg):Ar->Option (Nat×List Step)
 | .t s=>match σ s with
  | .al r p=>some (r,p)
  | .own _ _ _=>some (s,[])
  |_=>none
 | .c _=>none
def Hl:AV->Bool
 | .own .. | .dead=>true
 |_=>false
def Q8:AV->AV
 | .sc v=>.sc v
 | .sl _ k rows=>.sl false k rows
 |_=>.dead
def rdF (σ:Sg):Ar->Option AV
 | .t s=>match σ s with
  | .agg cs=>some (.agg (cs.map Q8))
  |a=>some (Q8 a)
 | .c a=>match a with
  | .sc v=>some (.sc v)
  | .own false k []=>some (.sl false k [])
  |_=>none
def OI (σ:Sg):List Ar->Option (List AV)
 |[]=>some []
 |x::r=>match rdF σ x,OI σ r with
  |some a,some l=>some (a::l)
  |_,_=>none
def O5 (σ:Sg) (x:Ar) (c:Option Nat):Option (Nat×List Step):=match c with
 |none=>plc σ x
 |some j=>match x with
  | .t s=>match σ s with
   | .agg cs=>match cs[j]? with
    |some (.al r p)=>some (r,p)
    |some (.own _ _ _)=>some (s,[(0,j,0)])
    |_=>none
   |_=>none
  | .c _=>none
def SL (σ:Sg) (x:Ar) (c:Option Nat) (n:AV):AV:=match c with
 |none=>n
 |some j=>match ar σ x with
  | .agg cs=>.agg ((cs.map Q8).set j n)
  |_=>.dead
def Rf (c:Option Nat) (out:AV):Option AV:=match c with
 |none=>some out
 |some j=>match out with
  | .agg cs=>cs[j]?
  |_=>none
def SM (u:AV) (b:Bool) (k:Nat) (p:List Step):Nat:=match u with
 | .own b' k' _=>if b'=b/\k'=k then p.length+1 else 0
 |_=>0
def D8 (P:Program) (G:Gi) (o:BP) (K:Sg->Prop) (σ:Sg):Prop:=
 match o.op with
 | .call f args m=>match Fw G m args σ with
  |some (aZ9,τ)=>∃res,Says P f aZ9 res/\(match RK m res with
   |some v=>Cw o.dst v K τ
   |none=>False)
  |none=>False
 | .Ww f pre x c post=>match O5 σ x c,OI σ pre,OI σ post with
  |some (r,p),some aZ9,some bs=>(match sub (σ r) p with
   |some (.own b k rows)=>∃res out u,BM P f (aZ9++SL σ x c (.own b k rows)::bs) res ((aZ9.map λ_=>.dead)++out::bs.map λ_=>.dead)/\Rf c out=some u/\Hl u=true/\clean res=true/\(match put (σ r) p u with
    |some t=>Cw o.dst res K (DP (Fk G (SM u b k p) r σ) r t)
    |none=>False)
   |_=>False)
  |_,_,_=>False
 |op=>match F6 G op o.dst σ with
  |some τ=>K τ
  |none=>False
def KK (P:Program) (G:Gi) (o:BP) (K:Sg->Prop) (σ:Sg):Prop:=
 match o.guard with
 |none=>D8 P G o K σ
 |some (g,want)=>match σ g with
  | .sc (.bool b)=>if b=want then D8 P G o K σ else
   (match o.dst with
   |some d=>K (DP (JC d.kl d.d σ) d.d .un)
   |none=>K σ)
  | .un=>(match o.dst with
   |some d=>K (DP (JC d.kl d.d σ) d.d .un)
   |none=>K σ)
  |_=>False
def ND (P:Program) (G:Gi):List BP->(Sg->Prop)->Sg->Prop
 |[],K,σ=>K σ
 |o::os,K,σ=>KK P G o (ND P G os K) σ
def rowsOf:AV->Option (List (List AV))
 | .own false _ rows=>some rows
 | .sl _ _ rows=>some rows
 |_=>none
def qP (σ:Sg):List (Nat×List Step)->Option (List AV)
 |[]=>some []
 | (r,p)::l=>match Sj σ (.al r p),qP σ l with
  |some a,some aZ9=>some (a::aZ9)
  |_,_=>none
def yM (σ:Sg) (f:Nat) (x:Ar) (args:List Ar):Option (List AV):=match ar σ x with
 | .cl f' rs=>if f'=f then(match JX σ args,qP σ rs with
  |some aZ9,some bs=>some (aZ9++bs)
  |_,_=>none)else none
 |_=>none
def dG (g n:Nat):Option (List Value):=match Gam.find? (λx=>x.1==g)with
 |some x=>if x.2.length=n/\x.2.all Fl=true then some x.2 else none
 |none=>none
def Xi (d:Option Dw) (K:Sg->Prop) (σ:Sg):Prop:=match d with
 |some d=>K (DP (JC d.kl d.d σ) d.d .un)
 |none=>K σ
def gdP (g:Option (Nat×Bool)) (A B:Sg->Prop) (σ:Sg):Prop:=match g with
 |none=>A σ
 |some (g,want)=>match σ g with
  | .sc (.bool b)=>if b=want then A σ else B σ
  | .un=>B σ
  |_=>False
def kB (P:Program) (d:Option Dw) (f:Nat) (x:Ar) (args:List Ar) (K:Sg->Prop) (σ:Sg):Prop:=match yM σ f x args with
 |some aZ9=>∃res,Says P f aZ9 res/\(match RK 0 res with
  |some v=>Cw d v K σ
  |none=>False)
 |none=>False
def lbQ (P:Program) (G:Gi) (d:Option Dw) (f:Nat) (r r2:Nat) (p p2:List Step) (v n:AV) (b:Bool) (k:Nat) (ms:List AV) (K:Sg->Prop) (τ:Sg):Prop:=
 r≠r2/\∃res out,BM P f (n::(ms++[v])) res (out::((ms.map λ_=>.dead)++[v]))/\Hl out=true/\clean res=true/\(match put (τ r) p out with
  |some t=>(match put (DP (Fk G (SM out b k p) r τ) r t r2) p2 v with
   |some t2=>Cw d res K (DP (Fk G p2.length r2 (DP (Fk G (SM out b k p) r τ) r t)) r2 t2)
   |none=>False)
  |none=>False)
def lbP (P:Program) (G:Gi) (d:Option Dw) (f:Nat) (x:Ar) (gJ:List Ar) (y:Ar) (K:Sg->Prop) (σ:Sg):Prop:=match plc σ y with
 |some (r2,p2)=>(match aT G r2 p2 σ with
  |some (v,τ)=>(match plc τ x,OI τ gJ with
   |some (r,p),some ms=>(match sub (τ r) p with
    |some (.own b k rows)=>lbQ P G d f r r2 p p2 v (.own b k rows) b k ms K τ
    |_=>False)
   |_,_=>False)
  |none=>False)
 |none=>False
def K5 (P:Program) (G:Gi):List gC->(Sg->Prop)->Sg->Prop
 |[],K,σ=>K σ
 | .o o::xs,K,σ=>KK P G o (K5 P G xs K) σ
 | .SU d neg x::xs,K,σ=>match hd σ x with
  |some (a,_)=>(match rowsOf a with
   |some rows=>∀b:Bool,(b=true->rows=[])->Cw (some d) (.sc (.bool (if neg=true then !b else b))) (K5 P G xs K) σ
   |none=>False)
  |none=>False
 | .gld d g n::xs,K,σ=>match dG g n with
  |some cs=>Cw (some d) (.agg (cs.map .sc)) (K5 P G xs K) σ
  |none=>False
 | .bxv d n s::xs,K,σ=>match σ s with
  | .agg cs=>cs.length=n/\∀us:List Value,us.length=n->Cw (some d) (.vb s 0 us) (K5 P G xs K) σ
  |_=>False
 | .lb d f x gJ y::xs,K,σ=>lbP P G d f x gJ y (K5 P G xs K) σ
 | .clo d f x args g::xs,K,σ=>gdP g (kB P d f x args (K5 P G xs K)) (Xi d (K5 P G xs K)) σ
def czS (G:Gi) (r:Nat) (p:List Step) (σ:Sg):Option Sg:=match sub (σ r) p with
 |some (.own b k rows)=>(match put (σ r) p (.own b k (Mg rows))with
  |some t=>some (DP (Fk G (p.length+1) r σ) r t)
  |none=>none)
 |_=>none
def gzS (G:Gi) (c:Bool) (r:Nat) (p:List Step) (σ:Sg):Option Sg:=if c=true then czS G r p σ else match sub (σ r) p with
 |some (.sl _ _ _)=>some σ
 |_=>match Pz G r p σ with
  |some (_,τ)=>some τ
  |none=>none
def pgQ (G:Gi) (c:Bool) (r:Nat) (p:List Step) (Q:Exit->Sg->Prop):Exit->Sg->Prop
 | .normal,σ=>(match gzS G c r p σ with
  |some τ=>Q .normal τ
  |none=>False)
 |e,σ=>Q e σ
def QP (P:Program) (G:Gi) (f:uV):List BP->(Sg->Prop)->Sg->Prop
 |[],K,σ=>K σ
 |o::os,K,σ=>Z2 f.kb f.off (σ f.r)=true/\KK P G o (QP P G f os K) σ
def Om:AV->Bool
 | .own false _ _=>true
 |_=>false
def Qz:AV->Bool
 | .KJ .. =>true
 |_=>false
def sY (f:uU) (m:Nat) (σ:Sg):Bool:=(decide (m≤f.i7)||Om (σ f.s))&&(decide (m≤f.i8)||Qz (σ f.e))&&(decide (m≤f.i11)||Qz (σ f.ap))
def Nl (P:Program) (G:Gi) (f:uU):Nat->List BP->(Sg->Prop)->Sg->Prop
 |m,[],K,σ=>sY f m σ=true/\K σ
 |m,o::os,K,σ=>sY f m σ=true/\KK P G o (Nl P G f (m+1) os K) σ
def Exit.QL (next:Sg->Prop) (Q:Exit->Sg->Prop):Exit->Sg->Prop
 | .normal,σ=>next σ
 |e,σ=>Q e σ
def Exit.V6 (id:Nat) (Q:Exit->Sg->Prop):Exit->Sg->Prop
 | .exit i,σ=>if i=id then Q .normal σ else Q (.exit i) σ
 |e,σ=>Q e σ
def HX (P:Program) (G:Gi):IC->(Exit->Sg->Prop)->Sg->Prop
 | .skip,Q,σ=>Q .normal σ
 | .bad,_,_=>False
 | .YS xs,Q,σ=>K5 P G xs (Q .normal) σ
 | .apd f ops,Q,σ=>Nl P G f 0 ops (KK P G ⟨none,.st 1 (.t f.ap) (.t f.s),none⟩ (Q .normal)) σ
 | .pg c r p a,Q,σ=>HX P G a (pgQ G c r p Q) σ
 | .gz c r p a,Q,σ=>match gzS G c r p σ with
  |some τ=>HX P G a Q τ
  |none=>False
 | .OQ ops,Q,σ=>ND P G ops (Q .normal) σ
 | .flo f a b,Q,σ=>QP P G f a (ND P G b (Q .normal)) σ
 | .bE _ ops,Q,σ=>ND P G ops (Q .normal) σ
 | .seq a b,Q,σ=>HX P G a (Exit.QL (HX P G b Q) Q) σ
 | .cond c a b,Q,σ=>match ar σ c with
  | .sc (.bool x)=>if x=true then HX P G a Q σ else HX P G b Q σ
  |_=>False
 | .block id a,Q,σ=>HX P G a (Exit.V6 id Q) σ
 | .loop a,Q,σ=>∃I:Nat->Sg->Prop,(∃n,I n σ)/\∀n τ,I n τ->HX P G a (Exit.QL (λτ'=>∃n',n'<n/\I n' τ') Q) τ
 | .exit id,Q,σ=>Q (.exit id) σ
 | .ret,Q,σ=>Q .ret σ
theorem yC (P:Program) (G:Gi) (Q:Exit->Sg->Prop) (σ:Sg):HX P G .skip Q σ=Q .normal σ:=(rfl)
theorem awp_reg (P:Program) (G:Gi) (ops:List BP) (Q:Exit->Sg->Prop) (σ:Sg):HX P G (.OQ ops) Q σ=ND P G ops (Q .normal) σ:=(rfl)
theorem awp_rex (P:Program) (G:Gi) (a:List gC) (Q:Exit->Sg->Prop) (σ:Sg):HX P G (.YS a) Q σ=K5 P G a (Q .normal) σ:=(rfl)
theorem nA (P:Program) (G:Gi) (a b:IC) (Q:Exit->Sg->Prop) (σ:Sg):HX P G (.seq a b) Q σ=HX P G a (Exit.QL (HX P G b Q) Q) σ:=(rfl)
theorem qI (P:Program) (G:Gi) (b:Nat) (a:IC) (Q:Exit->Sg->Prop) (σ:Sg):HX P G (.block b a) Q σ=HX P G a (Exit.V6 b Q) σ:=(rfl)
theorem yA (P:Program) (G:Gi) (a:Nat) (Q:Exit->Sg->Prop) (σ:Sg):HX P G (.exit a) Q σ=Q (.exit a) σ:=(rfl)
theorem awp_ret (P:Program) (G:Gi) (Q:Exit->Sg->Prop) (σ:Sg):HX P G .ret Q σ=Q .ret σ:=(rfl)
theorem cL (P:Program) (G:Gi) (c:Ar) (a b:IC) (Q:Exit->Sg->Prop) (σ:Sg):HX P G (.cond c a b) Q σ=match ar σ c with
 | .sc (.bool x)=>if x=true then HX P G a Q σ else HX P G b Q σ
 |_=>False:=rfl
theorem yB {P:Program} {G:Gi} {a:IC} {Q:Exit->Sg->Prop} {σ:Sg} (I:Nat->Sg->Prop) (n:Nat) (h:I n σ)
 (b:∀n τ,I n τ->HX P G a (Exit.QL (λc=>∃d,d<n/\I d c) Q) τ):HX P G (.loop a) Q σ:=⟨I,⟨n,h⟩,b⟩
theorem fI (next:Sg->Prop) (Q:Exit->Sg->Prop) (σ:Sg):Exit.QL next Q .normal σ=next σ:=(rfl)
theorem tV (next:Sg->Prop) (Q:Exit->Sg->Prop) (a:Nat) (σ:Sg):Exit.QL next Q (.exit a) σ=Q (.exit a) σ:=(rfl)
theorem seqA_ret (next:Sg->Prop) (Q:Exit->Sg->Prop) (σ:Sg):Exit.QL next Q .ret σ=Q .ret σ:=(rfl)
theorem X3 (a:Nat) (Q:Exit->Sg->Prop) (σ:Sg):Exit.V6 a Q .normal σ=Q .normal σ:=(rfl)
theorem OX (a i:Nat) (Q:Exit->Sg->Prop) (σ:Sg):Exit.V6 a Q (.exit i) σ=if i=a then Q .normal σ else Q (.exit i) σ:=(rfl)
theorem jG (a:Nat) (Q:Exit->Sg->Prop) (σ:Sg):Exit.V6 a Q .ret σ=Q .ret σ:=(rfl)
inductive RV where
 |tmp (t:Nat)
 |cell (a:Nat) (agg:Bool) (n:Nat)
 deriving Inhabited
def FU (G:Gi):List RV->Sg->Option (List AV×Sg)
 |[],σ=>some ([],σ)
 | .tmp t::l,σ=>match tk G (.t t) σ with
  |some (v,τ)=>match FU G l τ with
   |some (vs,τ')=>some (v::vs,τ')
   |none=>none
  |none=>none
 | .cell a agg n::l,σ=>match σ a with
  | .own true _ [row]=>match IB agg n row with
   |some v=>match FU G l (DP (JB G a σ) a .dead)with
    |some (vs,τ')=>some (v::vs,τ')
    |none=>none
   |none=>none
  |_=>none
def one:List AV->AV
 |[v]=>v
 |vs=>.BT vs
def Ends (G:Gi) (rs:List RV) (res:AV) (e:Exit) (σ:Sg):Prop:=
 (match e with| .normal=>True| .ret=>True|_=>False)/\∃vs τ,FU G rs σ=some (vs,τ)/\one vs=res
def start (args:List AV):Sg:=λs=>args.getD s .un
end Go.Abs
namespace Go.Abs
variable {w w':World} {S S':Nat->Prop} {F F':Nat->Prop} {G:Gi} {δ δ':Nat->DV} {Fr:Nat->Nat->Prop}
theorem Wl (n d r:Nat) (p:List Step):Ex n d (.al r p)=if r=d/\n≤p.length then .dead else .al r p:=by simp[Ex]
theorem Tn (n d r:Nat) (p:List Step) (i j k:Nat):Ex n d (.KJ r p i j k)=if r=d/\n≤p.length then .dead else .KJ r p i j k:=by simp[Ex]
@[simp]theorem Y4 (n d:Nat) (a:List AV):Ex n d (.agg a)= .agg (a.map (Ex n d)):=by simp[Ex,Y3]
@[simp]theorem Y5 (n d:Nat) (a:List AV):Ex n d (.BT a)= .BT (a.map (Ex n d)):=by simp[Ex,Y3]
theorem Wn (n d s o:Nat) (a:List Value):Ex n d (.vb s o a)=if s=d then .dead else .vb s o a:=by simp[Ex]
theorem Wm (n d f:Nat) (rs:List (Nat×List Step)):Ex n d (.cl f rs)=if(rs.all λx=>x.1 != d)=true then .cl f rs else .dead:=by simp[Ex]
@[simp]theorem Y2 (n d:Nat) (a:AV) (v:Value):Fj n d (.lf a v)= .lf (Ex n d a) v:=by simp[Fj]
@[simp]theorem LG (n d:Nat) (h:Value) (b:Bool) (k:Nat) (rows:List (List DV)):Fj n d (.own h b k rows)= .own h b k rows:=by simp[Fj]
@[simp]theorem Jw (n d:Nat) (a:List DV):Fj n d (.agg a)= .agg (a.map (Fj n d)):=by simp[Fj,Wk]
@[simp]theorem Jx (n d:Nat) (a:List DV):Fj n d (.BT a)= .BT (a.map (Fj n d)):=by simp[Fj,Wk]
theorem Pf (L:List Nat) (n d:Nat):∀(a:AV),FM L a=true->FM L (Ex n d a)=true
 | .al r p,h=>by
  rw[Wl];split
  . simp
  . exact h
 | .KJ r p i j k,h=>by
  rw[Tn];split
  . simp
  . exact h
 | .agg cs,h=>by rw[Jc,AAN]at h;rw[Y4,Jc,ABC,AAN];intro c b;exact Pf L n d c (h c b)
 | .BT cs,h=>by rw[NW,AAN]at h;rw[Y5,NW,ABC,AAN];intro c b;exact Pf L n d c (h c b)
 | .sc _,_=>by simp[Ex]
 | .sl ..,_=>by simp[Ex]
 | .own ..,_=>by simp[Ex]
 | .fp _,_=>by simp[Ex]
 | .dead,_=>by simp[Ex]
 | .un,_=>by simp[Ex]
 | .kN ..,_=>by simp[Ex,FM]
 | .vb s o us,h=>by
  rw[Wn];split
  . simp
  . exact h
 | .cl f rs,h=>by
  rw[Wm];split
  . exact h
  . simp
theorem lJ {a:AV} (n d:Nat) {v:Value} (b:HM w S a v):HM w S (Ex n d a) v:=by
 cases a with
 |al r p=>rw[Wl];split<;>simp[HM]
 |KJ r p i j k=>rw[Tn];split<;>simp[HM]
 |cl f rs=>rw[Wm];split<;>trivial
 |vb s o us=>rw[Wn];split<;>first|trivial|exact b
 |agg cs=>exact b.elim
 |BT cs=>exact b.elim
 |own=>exact b.elim
 |_=>simpa[Ex]using b
theorem Kw {x:DV} (n d:Nat) (h:Ok w S x F):(Fj n d x).er=Ex n d x.er/\(Fj n d x).A0=x.A0/\Ok w S (Fj n d x) F:=by
 induction h with
 |lf a v F ha hF=>refine⟨by simp,by simp,?_⟩;rw[Y2];exact .lf _ v F (lJ n d ha) hF
 |nil k F hF=>exact⟨by simp[Ex],by simp,by rw[LG];exact .nil k F hF⟩
 |own bx k rows b c arr E Fs F hb hk Dv Ku hv hr hd Bb Jf hF ih=>exact⟨by simp[Ex],by simp,by rw[LG];exact .own bx k rows b c arr E Fs F hb hk Dv Ku hv hr hd Bb Jf hF⟩
 |agg cs Fs F hr hd Bb hF ih=>
  have key:∀e∈cs,(Fj n d e).er=Ex n d e.er/\(Fj n d e).A0=e.A0:=by intro e f;obtain⟨i,hi⟩:=AAj f;exact⟨(ih i e hi).1,(ih i e hi).2.1⟩
  refine⟨?_,?_,?_⟩
  . simp only[Jw,G7,Y4,List.map_map,AV.agg.injEq];exact ABf λe f=>(key e f).1
  . simp only[Jw,JP,List.map_map];congr 2;exact ABf λe f=>(key e f).2
  . rw[Jw];refine .agg _ Fs F ?_ hd ?_ hF
    . intro i e g;simp only[AAR,AAi]at g;obtain⟨j,l,rfl⟩:=g;exact(ih i j l).2.2
    . intro i x m;obtain⟨e,g⟩:=Bb i x m;exact⟨Fj n d e,by simp[g]⟩
 |BT cs Fs F hr hd Bb hF ih=>
  have key:∀e∈cs,(Fj n d e).er=Ex n d e.er/\(Fj n d e).A0=e.A0:=by intro e f;obtain⟨i,hi⟩:=AAj f;exact⟨(ih i e hi).1,(ih i e hi).2.1⟩
  refine⟨?_,?_,?_⟩
  . simp only[Jx,I0,Y5,List.map_map,AV.BT.injEq];exact ABf λe f=>(key e f).1
  . simp only[Jx,Kr,List.map_map];congr 2;exact ABf λe f=>(key e f).2
  . rw[Jx];refine .BT _ Fs F ?_ hd ?_ hF
    . intro i e g;simp only[AAR,AAi]at g;obtain⟨j,l,rfl⟩:=g;exact(ih i j l).2.2
    . intro i x m;obtain⟨e,g⟩:=Bb i x m;exact⟨Fj n d e,by simp[g]⟩
theorem DQ.Ex {x:DV} (n d:Nat) (h:DQ δ x) (g:Ya x)
 (q:∀r p v bx k rows,(r≠d∨p.length<n)->Ao (δ r) p=some (.own v bx k rows)->∃c,Ao (δ' r) p=some (.own v bx k c)) (y:∀r,r≠d->(δ' r).A0=(δ r).A0):DQ δ' (Fj n d x):=by
 induction h with
 |lf a v h=>
  rw[Y2];refine .lf _ v ?_;cases g with
  |lf _ _ g=>
   cases a with
   |al r p=>
    rw[Wl];split
    . trivial
    . rename_i e;obtain⟨bx,k,rows,h⟩:=h;obtain⟨c,l⟩:=q r p v bx k rows (by omega) h;exact⟨bx,k,c,l⟩
   |KJ r p i j k=>
    rw[Tn];split
    . trivial
    . obtain⟨t,bx,rows,b,h,E,rfl⟩:=h;obtain⟨c,l⟩:=q r p t bx k rows (by omega) h;exact⟨t,bx,c,b,l,E,rfl⟩
   |vb s o us=>
    rw[Wn];split
    . trivial
    . exact(y s (by assumption)).trans h
   |cl f rs=>
    rw[Wm];split
    . rename_i w;obtain⟨vs,B,C,D⟩:=h;refine⟨vs,B,C,λi r p u hi G=> ?_⟩;obtain⟨bx,k,rows,F⟩:=D i r p u hi G;rw[AAN]at w;obtain⟨c,l⟩:=q r p u bx k rows (.inl (by simpa using w _ (AAS hi))) F;exact⟨bx,k,c,l⟩
    . trivial
   |agg cs=>simp[C3]at g
   |BT cs=>simp[C3]at g
   |own=>simp[C3]at g
   |_=>simp only[Abs.Ex];trivial
 |own=>rw[LG];exact .own _ _ _ _
 |agg cs _ ih=>
  rw[Jw];cases g with
  |agg _ g=>refine .agg _ λi z hd=> ?_;simp only[AAR,AAi]at hd;obtain⟨e,m,rfl⟩:=hd;exact ih i e m (g i e m)
 |BT cs _ ih=>
  rw[Jx];cases g with
  |BT _ g=>refine .BT _ λi z hd=> ?_;simp only[AAR,AAi]at hd;obtain⟨e,m,rfl⟩:=hd;exact ih i e m (g i e m)
theorem St.Pg (h:St G w S δ Fr) (n d s:Nat):(EP G n d δ s).er=Fk G n d (λs=>(δ s).er) s:=by
 unfold EP Fk;split
 . exact(Kw n d (h.ok s)).1
 . rfl
theorem St.LH (h:St G w S δ Fr) (n d s:Nat):(EP G n d δ s).A0=(δ s).A0:=by
 unfold EP;split
 . exact(Kw n d (h.ok s)).2.1
 . rfl
theorem St.sF (h:St G w S δ Fr) (n d s:Nat):Ok w S (EP G n d δ s) (Fr s):=by
 unfold EP;split
 . exact(Kw n d (h.ok s)).2.2
 . exact h.ok s
theorem St.sG (h:St G w S δ Fr) (n d s:Nat):FM (G.Gc s) (EP G n d δ s).er=true:=by
 unfold EP;split
 . rw[(Kw n d (h.ok s)).1];exact Pf _ n d _ (h.rt s)
 . exact h.rt s
theorem VL {t:DV} (n d:Nat) (q:List Step) {v:Value} {bx:Bool} {k:Nat} {rows:List (List DV)}:Abs.Ao (Fj n d t) q=some (.own v bx k rows)↔Abs.Ao t q=some (.own v bx k rows):=by
 induction q generalizing t with
 |nil=>simp only[Abs.Ao,AAG];cases t<;>simp
 |cons s q ih=>
  obtain⟨i,j,e⟩:=s;cases t with
  |lf a v=>simp[Abs.Ao]
  |own h b k1 JF=>rw[LG]
  |agg cs=>
   simp only[Jw,Abs.Ao,AAR];cases hj:cs[j]? with
   |none=>simp
   |some c=>simp only[AAk];exact ih
  |BT cs=>
   simp only[Jx,Abs.Ao,AAR];cases hj:cs[j]? with
   |none=>simp
   |some c=>simp only[AAk];exact ih
theorem Wo (n d r:Nat) (p:List Step) {v:Value} {bx:Bool} {k:Nat} {rows:List (List DV)}:Abs.Ao (EP G n d δ r) p=some (.own v bx k rows)↔Abs.Ao (δ r) p=some (.own v bx k rows):=by
 unfold EP;split
 . exact VL n d p
 . exact ABb
theorem Mq {t z y:DV} (q:List Step):∀(p:List Step),q.length≤p.length->DW t p y=some z->(q.length=p.length->∀v bx k rows,Abs.Ao t p=some (.own v bx k rows)->∃f,y= .own v bx k f)->∀{v:Value} {bx:Bool} {k:Nat} {rows:List (List DV)},Abs.Ao t q=some (.own v bx k rows)->∃f,Abs.Ao z q=some (.own v bx k f):=by
 induction q generalizing t z with
 |nil=>
  intro p u d w v bx k rows g;simp only[Abs.Ao,AAG]at g;subst g
  match p,u with
  |[],_=>simp only[DW,AAG]at d;subst d;obtain⟨f,h⟩:=w rfl v bx k rows rfl;exact⟨f,by rw[h];rfl⟩
  | (i,j,D)::p,_=>
   simp only[DW]at d;split at d
   . split at d
     . split at d
       . simp only[AAG]at d;subst d;exact⟨_,by simp[Abs.Ao];rfl⟩
       . cases d
     . cases d
   . cases d
 |cons s q ih=>
  intro p u d w v bx k rows g;obtain⟨i,j,D⟩:=s
  match p,u with
  | (i',j',k')::p,u=>
   have o:q.length≤p.length:=(by simpa using u);cases t with
   |lf a v=>simp[Abs.Ao]at g
   |own h b k1 JF=>
    simp only[DW]at d;split at d
    . rename_i E B;split at d
      . rename_i c n;split at d
        . rename_i c' r;simp only[AAG]at d;subst d;simp only[Abs.Ao]at g ⊢;cases hi:JF[i]? with
          |none=>simp[hi]at g
          |some row2=>
           simp only[hi]at g;cases hj:row2[j]? with
           |none=>simp[hj]at g
           |some c2=>
            simp only[hj]at g;have x:i<JF.length:=(AAI.1 hi).1;have l:j<row2.length:=(AAI.1 hj).1;by_cases C:i'=i
            . subst C;rw[hi]at B;cases B;rw[AAK x];by_cases m:j'=j
              . subst m;rw[hj]at n;cases n;simp only[AAK l];exact ih p o r (λe v bx k rows h=>w (by simp[e]) v bx k rows (by simp only[Abs.Ao,hi,hj];exact h)) g
              . simp only[AAM m,hj];exact⟨rows,g⟩
            . rw[AAM C];simp only[hi,hj];exact⟨rows,g⟩
        . cases d
      . cases d
    . cases d
   |agg cs=>
    simp only[DW]at d;split at d
    . rename_i c n;split at d
      . rename_i c' r;simp only[AAG]at d;subst d;simp only[Abs.Ao]at g ⊢;cases hj:cs[j]? with
        |none=>simp[hj]at g
        |some c2=>
         simp only[hj]at g;have l:j<cs.length:=(AAI.1 hj).1;by_cases m:j'=j
         . subst m;rw[hj]at n;cases n;simp only[AAK l];exact ih p o r (λe v bx k rows h=>w (by simp[e]) v bx k rows (by simp only[Abs.Ao,hj];exact h)) g
         . simp only[AAM m,hj];exact⟨rows,g⟩
      . cases d
    . cases d
   |BT cs=>
    simp only[DW]at d;split at d
    . rename_i c n;split at d
      . rename_i c' r;simp only[AAG]at d;subst d;simp only[Abs.Ao]at g ⊢;cases hj:cs[j]? with
        |none=>simp[hj]at g
        |some c2=>
         simp only[hj]at g;have l:j<cs.length:=(AAI.1 hj).1;by_cases m:j'=j
         . subst m;rw[hj]at n;cases n;simp only[AAK l];exact ih p o r (λe v bx k rows h=>w (by simp[e]) v bx k rows (by simp only[Abs.Ao,hj];exact h)) g
         . simp only[AAM m,hj];exact⟨rows,g⟩
      . cases d
    . cases d
theorem St.setn (h:St G w S δ Fr) (n d:Nat) (g:DV) (Fn:Nat->Prop) (H:∀b,S b->w'.heap[b]? =w.heap[b]?) (E:∀s,s≠d->∀x,Fr s x->w'.heap[x]? =w.heap[x]?)
 (C:∀b,S b->S' b) (D:∀s,s≠d->∀x,Fr s x->¬S' x) (hn:Ok w' S' g Fn) (y:∀s,s≠d->∀x,Fn x->¬Fr s x) (z:FM (G.Gc d) g.er=true) (B:DQ δ g)
 (u:∀p v bx k rows,p.length<n->Abs.Ao (δ d) p=some (.own v bx k rows)->∃c,Abs.Ao g p=some (.own v bx k c)):
 St G w' S' (DP (EP G n d δ) d g) (DP Fr d Fn):=by
 have o:∀r p v bx k rows,(r≠d∨p.length<n)->Abs.Ao (δ r) p=some (.own v bx k rows)->∃c,Abs.Ao (DP (EP G n d δ) d g r) p=some (.own v bx k c):=by
  intro r p v bx k rows f l;by_cases e:r=d
  . subst e;rw[BG];exact u p v bx k rows (by omega) l
  . rw[Ba _ _ e];exact⟨rows,(Wo n d r p).2 l⟩
 have q:∀r,r≠d->(DP (EP G n d δ) d g r).A0=(δ r).A0:=by intro r f;rw[Ba _ _ f];exact h.LH n d r
 refine⟨?_,?_,?_,?_,h.self⟩
 . intro s;by_cases a:s=d
   . subst a;rw[BG,BG];exact hn
   . rw[Ba _ _ a,Ba _ _ a];exact(h.sF n d s).mono H (E s a) C (D s a)
 . intro s t x i j;by_cases a:s=d<;>by_cases m:t=d
   . omega
   . subst a;rw[BG]at i;rw[Ba _ _ m]at j;exact absurd j (y t m x i)
   . subst m;rw[BG]at j;rw[Ba _ _ a]at i;exact absurd i (y s a x j)
   . rw[Ba _ _ a]at i;rw[Ba _ _ m]at j;exact h.LX s t x i j
 . intro s;by_cases a:s=d
   . subst a;rw[BG];refine B.mono z (λr f p v bx k rows l=>o r p v bx k rows (.inl ?_) l) (λr f=>q r ?_)
     . rintro rfl;exact h.self _ f
     . rintro rfl;exact h.self _ f
   . rw[Ba _ _ a];unfold EP;split
     . exact(h.al s).Ex n d (h.ok s).KU o q
     . rename_i hn;have hd:d∉G.Gc s:=λF=>hn (Gi.oL F);refine(h.al s).mono (h.rt s) (λr f p v bx k rows l=>o r p v bx k rows (.inl ?_) l) (λr f=>q r ?_)
       . rintro rfl;exact hd f
       . rintro rfl;exact hd f
 . intro s;by_cases a:s=d
   . subst a;rw[BG];exact z
   . rw[Ba _ _ a];exact h.sG n d s
end Go.Abs
namespace Go.Abs
variable {w w':World} {S S':Nat->Prop} {G:Gi} {δ:Nat->DV} {Fr:Nat->Nat->Prop}
structure Nx (w:World) (S U:Nat->Prop) (w':World) (S' U':Nat->Prop):Prop where
 os:w'.os=w.os
 tape:w'.tape=w.tape
 output:w'.output=w.output
 size:w.heap.size≤w'.heap.size
 block:∀b,b<w.heap.size->¬U b->w'.heap[b]? =w.heap[b]?
 sub:∀b,S b->S' b
 sup:∀b,S' b->S b∨U b∨w.heap.size≤b
 lt:(∀b,S b->b<w.heap.size)->∀b,S' b->b<w'.heap.size
 own:∀x,U' x->U x∨w.heap.size≤x
theorem Nx.refl (w:World) (S U:Nat->Prop):Nx w S U w S U:=
 ⟨rfl,rfl,rfl,AAr _,λ_ _ _=>rfl,λ_ h=>h,λ_ h=>.inl h,λh=>h,λ_ h=>.inl h⟩
theorem Nx.less {w:World} {S U a:Nat->Prop} (h:∀x,a x->U x):Nx w S U w S a:=
 ⟨rfl,rfl,rfl,AAr _,λ_ _ _=>rfl,λ_ h=>h,λ_ h=>.inl h,λh=>h,λx b=>.inl (h x b)⟩
theorem Nx.trans {w j l:World} {S S1 S2 U U1 g:Nat->Prop} (h:Nx w S U j S1 U1) (k:Nx j S1 U1 l S2 g):Nx w S U l S2 g:=by
 refine⟨k.os.trans h.os,k.tape.trans h.tape,k.output.trans h.output,ABF h.size k.size,?_,λb c=>k.sub b (h.sub b c),?_,λm b c=>k.lt (h.lt m) b c,?_⟩
 . intro b c i;rw[k.block b (ABI c h.size) ?_,h.block b c i];intro e;rcases h.own b e with a|a
   . exact i a
   . omega
 . intro b c;have f:=h.size;rcases k.sup b c with a|a|a
   . exact h.sup b a
   . rcases h.own b a with d|d
     . exact .inr (.inl d)
     . exact .inr (.inr d)
   . exact .inr (.inr (ABF f a))
 . intro x n;have f:=h.size;rcases k.own x n with a|a
   . exact h.own x a
   . exact .inr (ABF f a)
abbrev BD (Fr:Nat->Nat->Prop):Nat->Prop:=λx=>∃s,Fr s x
theorem kills_eq (d:Nat) (σ:Sg):JC (G.Nk d) d σ=JB G d σ:=by
 unfold JC JB;split
 . rename_i h;funext s;simp[h]
 . rfl
theorem DQ.dead (v:Value):DQ δ (.lf .dead v):=.lf _ _ trivial
theorem St.empty (h:St G w S δ Fr) (s:Nat):
 St G w S (DP (Gy G s δ) s (.lf .dead (δ s).A0)) (DP Fr s λ_=>False):=by
 refine h.set s _ _ (λ_ _=>rfl) (λ_ _ _ _=>rfl) (λ_ h=>h) (λt _ x a=>(h.ok t).Ek x a) (.lf _ _ _ trivial (λ_ h=>h)) (λ_ _ _ h=>h.elim) (by simp) (DQ.dead _)
theorem Hm (h:St G w S δ Fr) (d:Nat) (x:DV):(λs=>(DP (Gy G d δ) d x s).er)=DP (JB G d (λs=>(δ s).er)) d x.er:=by
 funext s;by_cases a:s=d
 . subst a;simp[DP]
 . simp only[DP,a,AAY];exact h.dX d s
theorem HN (h:St G w S δ Fr) (d:Nat) (x:DV) (s:Nat):(DP (Gy G d δ) d x s).A0=if s=d then x.A0 else(δ s).A0:=by
 by_cases a:s=d
 . subst a;simp[DP]
 . simp only[DP,a,AAY];exact h.Tp d s
theorem US {t n:DV} {a:AV} {m:Value} (p:List Step) (e:DW t p (.lf a m)=some n) (q:List Step) {v:Value} {bx:Bool} {k:Nat} {rows:List (List DV)}
 (d:Ao n q=some (.own v bx k rows)):∃f,Ao t q=some (.own v bx k f):=by
 induction p generalizing t n q with
 |nil=>
  simp only[DW,AAG]at e;subst e;cases q with
  |nil=>simp[Ao]at d
  |cons s q=>simp[Ao]at d
 |cons s p ih=>
  obtain⟨i,j,w⟩:=s;cases t with
  |lf a v=>simp[DW]at e
  |own hh b k1 JF=>
   simp only[DW]at e;cases hi:JF[i]? with
   |none=>simp[hi]at e
   |some row=>
    simp only[hi]at e;cases hj:row[j]? with
    |none=>simp[hj]at e
    |some c=>
     simp only[hj]at e;cases hc:DW c p (.lf a m)with
     |none=>simp[hc]at e
     |some c'=>
      simp only[hc,AAG]at e;subst e;have r:=(AAI.1 hi).1;have g:=(AAI.1 hj).1;cases q with
      |nil=>simp only[Ao,AAG,DV.own.injEq]at d;obtain⟨rfl,rfl,rfl,_⟩:=d;exact⟨_,rfl⟩
      |cons s2 q=>
       obtain⟨i2,l,o⟩:=s2;simp only[Ao]at d ⊢;by_cases u:i2=i
       . subst u;simp only[AAK r]at d;simp only[hi];by_cases h:l=j
         . subst h;simp only[AAK g]at d;simp only[hj];exact ih hc q d
         . rw[AAM (by omega)]at d;exact⟨rows,d⟩
       . rw[AAM (by omega)]at d;exact⟨rows,d⟩
  |agg cs=>
   simp only[DW]at e;cases hj:cs[j]? with
   |none=>simp[hj]at e
   |some c=>
    simp only[hj]at e;cases hc:DW c p (.lf a m)with
    |none=>simp[hc]at e
    |some c'=>
     simp only[hc,AAG]at e;subst e;have g:=(AAI.1 hj).1;cases q with
     |nil=>simp[Ao]at d
     |cons s2 q=>
      obtain⟨i2,l,o⟩:=s2;simp only[Ao]at d ⊢;by_cases h:l=j
      . subst h;simp only[AAK g]at d;simp only[hj];exact ih hc q d
      . rw[AAM (by omega)]at d;exact⟨rows,d⟩
  |BT cs=>
   simp only[DW]at e;cases hj:cs[j]? with
   |none=>simp[hj]at e
   |some c=>
    simp only[hj]at e;cases hc:DW c p (.lf a m)with
    |none=>simp[hc]at e
    |some c'=>
     simp only[hc,AAG]at e;subst e;have g:=(AAI.1 hj).1;cases q with
     |nil=>simp[Ao]at d
     |cons s2 q=>
      obtain⟨i2,l,o⟩:=s2;simp only[Ao]at d ⊢;by_cases h:l=j
      . subst h;simp only[AAK g]at d;simp only[hj];exact ih hc q d
      . rw[AAM (by omega)]at d;exact⟨rows,d⟩
theorem Lv {t l new:DV} (p:List Step) (e:DW t p new=some l) (m:DQ δ t) (hn:DQ δ new):DQ δ l:=by
 induction p generalizing t l with
 |nil=>simp only[DW,AAG]at e;exact e▸hn
 |cons s p ih=>
  obtain⟨i,j,k⟩:=s;cases m with
  |lf a v h=>simp[DW]at e
  |own hh b k1 rows=>
   simp only[DW]at e;split at e
   . split at e
     . split at e
       . simp only[AAG]at e;subst e;exact .own _ _ _ _
       . cases e
     . cases e
   . cases e
  |agg cs hr=>
   simp only[DW]at e;split at e
   . rename_i c f;split at e
     . rename_i c' g;simp only[AAG]at e;subst e;refine .agg _ λi d hd=> ?_;by_cases hi:i=j
       . subst hi;rw[AAK (AAI.1 f).1]at hd;obtain rfl:=AAJ hd;exact ih g (hr i c f)
       . rw[AAM (by omega)]at hd;exact hr i d hd
     . cases e
   . cases e
  |BT cs hr=>
   simp only[DW]at e;split at e
   . rename_i c f;split at e
     . rename_i c' g;simp only[AAG]at e;subst e;refine .BT _ λi d hd=> ?_;by_cases hi:i=j
       . subst hi;rw[AAK (AAI.1 f).1]at hd;obtain rfl:=AAJ hd;exact ih g (hr i c f)
       . rw[AAM (by omega)]at hd;exact hr i d hd
     . cases e
   . cases e
theorem LO {L:List Nat} {t m new:DV} (p:List Step) (d:DW t p new=some m) (e:FM L t.er=true) (hn:FM L new.er=true):FM L m.er=true:=by
 induction p generalizing t m with
 |nil=>simp only[DW,AAG]at d;exact d▸hn
 |cons s p ih=>
  obtain⟨i,j,k⟩:=s;cases t with
  |lf a v=>simp[DW]at d
  |own hh b k1 rows=>
   simp only[DW]at d;split at d
   . split at d
     . split at d
       . simp only[AAG]at d;subst d;simp
       . cases d
     . cases d
   . cases d
  |agg cs=>
   simp only[DW]at d;split at d
   . rename_i c g;split at d
     . rename_i c' f;simp only[AAG]at d;subst d;simp only[G7,Jc,ABC,AAN]at e ⊢;intro x l;rcases AAm l with h|rfl
       . exact e x h
       . exact ih f (e c (AAS g))
     . cases d
   . cases d
  |BT cs=>
   simp only[DW]at d;split at d
   . rename_i c g;split at d
     . rename_i c' f;simp only[AAG]at d;subst d;simp only[I0,NW,ABC,AAN]at e ⊢;intro x l;rcases AAm l with h|rfl
       . exact e x h
       . exact ih f (e c (AAS g))
     . cases d
   . cases d
theorem St.replace {n:DV} (h:St G w S δ Fr) (r:Nat) (p:List Step) (D:Ao (δ r) p=some n):
 ∃a,Ok w S n a/\(∀x,a x->Fr r x)/\∀(S':Nat->Prop) (new:DV),new.A0=n.A0->Ok w S' new (λ_=>False)->(∀b,S b->S' b)->(∀t b,Fr t b->¬a b->¬S' b)->
  (∀L,FM L new.er=true)->DQ δ new->
  ∃t F',DW (δ r) p new=some t/\St G w S' (DP (Gy G r δ) r t) (DP Fr r F')/\(∀x,F' x↔Fr r x/\¬a x)/\t.A0=(δ r).A0:=by
 obtain⟨a,C,f,u⟩:=(h.ok r).replace p D;refine⟨a,C,f,?_⟩;intro S' new z hn g i v m;obtain⟨t,F',e,k,o,l⟩:=u w S' new (λ_=>False) z hn (λ_ h=>h.elim) (λ_ _=>rfl) (λ_ _ _=>rfl) g (λb B y=>i r b B y);have j:∀x,F' x↔Fr r x/\¬a x:=λx=>by rw[o x];simp
 refine⟨t,F',e,?_,j,l⟩;refine h.set r t F' (λ_ _=>rfl) (λ_ _ _ _=>rfl) g ?_ k ?_ (LO p e (h.rt r) (v _)) (Lv p e (h.al r) m)
 . intro s d x c;exact i s x c λE=>d (h.LX s r x c (f x E))
 . intro s d x c q;exact d (h.LX s r x q ((j x).1 c).1)
theorem NL (h:St G w S δ Fr) (n d:Nat) (x:DV):(λs=>(DP (EP G n d δ) d x s).er)=DP (Fk G n d (λs=>(δ s).er)) d x.er:=by
 funext s;by_cases a:s=d
 . subst a;simp[DP]
 . simp only[DP,a,AAY];exact h.Pg n d s
theorem MH (h:St G w S δ Fr) (n d:Nat) (x:DV) (s:Nat):(DP (EP G n d δ) d x s).A0=if s=d then x.A0 else(δ s).A0:=by
 by_cases a:s=d
 . subst a;simp[DP]
 . simp only[DP,a,AAY];exact h.LH n d s
theorem St.eU {n:DV} (h:St G w S δ Fr) (r:Nat) (p:List Step) (J:Ao (δ r) p=some n):
 ∃a,Ok w S n a/\(∀x,a x->Fr r x)/\∀(S':Nat->Prop) (new:DV),new.A0=n.A0->Ok w S' new (λ_=>False)->(∀b,S b->S' b)->(∀t b,Fr t b->¬a b->¬S' b)->
  (∀L,FM L new.er=true)->DQ δ new->
  ∃t F',DW (δ r) p new=some t/\St G w S' (DP (EP G p.length r δ) r t) (DP Fr r F')/\(∀x,F' x↔Fr r x/\¬a x)/\t.A0=(δ r).A0:=by
 obtain⟨a,I,i,C⟩:=(h.ok r).replace p J;refine⟨a,I,i,?_⟩;intro S' new F hn j l D y;obtain⟨t,F',c,o,z,u⟩:=C w S' new (λ_=>False) F hn (λ_ h=>h.elim) (λ_ _=>rfl) (λ_ _ _=>rfl) j (λb H E=>l r b H E);have m:∀x,F' x↔Fr r x/\¬a x:=λx=>by rw[z x];simp
 refine⟨t,F',c,?_,m,u⟩;refine h.setn p.length r t F' (λ_ _=>rfl) (λ_ _ _ _=>rfl) j ?_ o ?_ (LO p c (h.rt r) (D _)) (Lv p c (h.al r) y) ?_
 . intro s f x d;exact l s x d λK=>f (h.LX s r x d (i x K))
 . intro s f x d B;exact f (h.LX s r x B ((m x).1 d).1)
 . intro q v bx k rows M g;exact Mq q p (by omega) c (λe=>absurd e (by omega)) g
theorem St.aT (h:St G w S δ Fr) {r:Nat} {p:List Step} {a:AV} {τ:Sg} (j:Abs.aT G r p (λs=>(δ s).er)=some (a,τ)):
 ∃g F' D Ff,St G w S g F'/\(λs=>(g s).er)=τ/\(∀s,(g s).A0=(δ s).A0)/\Ok w S D Ff/\D.er=a/\(∃v bx k rows,D= .own v bx k rows)/\Ao (δ r) p=some D/\(∀s x,F' s x->¬Ff x)/\
  (∀x,BD F' x∨Ff x->BD Fr x)/\(∀q v bx k rows,Ao (g r) q=some (.own v bx k rows)->∃f,Ao (δ r) q=some (.own v bx k f))/\(∀s,s≠r->g s=EP G p.length r δ s):=by
 unfold Abs.aT at j;split at j
 . rename_i b k rows N;split at j
   . rename_i t M;simp only[AAG,AAU]at j;obtain⟨rfl,rfl⟩:=j;obtain⟨D,y,l⟩:=Dj (h.ok r).KU N;obtain⟨I,B,n,J⟩:=h.eU r p y;obtain⟨P,F',m,E,o,F⟩:=J S (.lf .dead D.A0) (by simp) (.lf _ _ _ trivial (λ_ h=>h)) (λ_ h=>h) (λt b L _=>(h.ok t).Ek b L) (by simp) (DQ.dead _);have O:P.er=t:=(by obtain⟨R,u,K⟩:=Gr (d:=δ r) (p:=p) (a:=t) (.lf .dead D.A0) (h.ok r).KU (by simpa using M);rw[m]at u;obtain rfl:=AAJ u;exact K);have H:∃v bx k rows,D= .own v bx k rows:=by
      have:=B.KU;cases D with
      |own v bx k rows=>exact⟨v,bx,k,rows,rfl⟩
      |lf a v=>cases this with|lf _ _ hl=>simp at l;subst l;simp[C3]at hl
      |agg cs=>simp at l
      |BT cs=>simp at l
     refine⟨_,_,D,I,E,by rw[NL h,O],?_,B,l,H,y,?_,?_,?_,λs i=>Ba _ _ i⟩
     . intro s;rw[MH h];split
       . rename_i e;rw[e,F]
       . rfl
     . intro s x c z;by_cases i:s=r
       . subst i;rw[BG]at c;exact((o x).1 c).2 z
       . rw[Ba _ _ i]at c;exact i (h.LX s r x c (n x z))
     . rintro x (⟨s,c⟩|c)
       . by_cases i:s=r
         . subst i;rw[BG]at c;exact⟨s,((o x).1 c).1⟩
         . rw[Ba _ _ i]at c;exact⟨s,c⟩
       . exact⟨r,n x c⟩
     . intro q v bx Q f C;rw[BG]at C;exact US p m q C
   . cases j
 . cases j
end Go.Abs
namespace Go.Abs
variable {w w':World} {S S':Nat->Prop} {G:Gi} {δ:Nat->DV} {Fr:Nat->Nat->Prop}
theorem aA {t:DV} (d:Nat) (q:List Step) {v:Value} {bx:Bool} {k:Nat} {rows:List (List DV)} (e:Ao (Gx d t) q=some (.own v bx k rows)):Ao t q=some (.own v bx k rows):=by
 induction q generalizing t with
 |nil=>
  simp only[Ao,AAG]at e ⊢;cases t with
  |lf a v=>simp at e
  |own=>simpa using e
  |agg=>simp at e
  |BT=>simp at e
 |cons s q ih=>
  obtain⟨i,j,f⟩:=s;cases t with
  |lf a v=>simp[Ao]at e
  |own h b k1 JF=>rw[Ml]at e;exact e
  |agg cs=>
   simp only[Ju,Ao,AAR]at e ⊢;cases hj:cs[j]? with
   |none=>simp[hj]at e
   |some c=>simp only[hj,AAk]at e ⊢;exact ih e
  |BT cs=>
   simp only[Jv,Ao,AAR]at e ⊢;cases hj:cs[j]? with
   |none=>simp[hj]at e
   |some c=>simp only[hj,AAk]at e ⊢;exact ih e
theorem Sf (d r:Nat) (q:List Step) {v:Value} {bx:Bool} {k:Nat} {rows:List (List DV)} (a:Ao (Gy G d δ r) q=some (.own v bx k rows)):Ao (δ r) q=some (.own v bx k rows):=by
 unfold Gy at a;split at a
 . exact aA d q a
 . exact a
def Hd (δ δ':Nat->DV):Prop:=∀r q v bx k rows,Ao (δ' r) q=some (.own v bx k rows)->∃rows',Ao (δ r) q=some (.own v bx k rows')
theorem Hd.refl (δ:Nat->DV):Hd δ δ:=λ_ _ _ _ _ rows h=>⟨rows,h⟩
theorem Hd.trans {δ c a:Nat->DV} (h:Hd δ c) (k:Hd c a):Hd δ a:=by intro r q v bx d rows f;obtain⟨b,e⟩:=k r q v bx d rows f;exact h r q v bx d b e
def JH (w:World) (S:Nat->Prop):List DV->(Nat->Prop)->Prop
 |[],F=>∀x,¬F x
 |d::ds,F=>∃F1 F2,Ok w S d F1/\JH w S ds F2/\(∀x,F1 x->¬F2 x)/\∀x,F x↔F1 x∨F2 x
def wS (w:World) (S:Nat->Prop) (cs:List DV) (F:Nat->Prop):Prop:=
 ∃Fs:Nat->Nat->Prop,(∀(i:Nat) d,cs[i]? =some d->Ok w S d (Fs i))/\(∀i i' x,Fs i x->Fs i' x->i=i')/\(∀i x,Fs i x->∃d,cs[i]? =some d)/\(∀x,F x↔∃i,Fs i x)
theorem JM {o:List DV} {F:Nat->Prop}:JH w S o F↔wS w S o F:=by
 induction o generalizing F with
 |nil=>
  constructor
  . intro h;exact⟨λ_ _=>False,by simp,λ_ _ _ h=>h.elim,λ_ _ h=>h.elim,λx=>⟨λc=>absurd c (h x),λ⟨_,h⟩=>h.elim⟩⟩
  . rintro⟨g,r,s,n,q⟩ x c;obtain⟨i,hi⟩:=(q x).1 c;obtain⟨d,hd⟩:=n i x hi;simp at hd
 |cons d ds ih=>
  constructor
  . rintro⟨u,v,r,s,n,q⟩;obtain⟨g,l,m,p,j⟩:=ih.1 s;refine⟨λi=>match i with|0=>u|i+1=>g i,?_,?_,?_,?_⟩
    . intro i e f;cases i with
      |zero=>simp only[AAt,AAG]at f;exact f▸r
      |succ i=>simp only[AA2]at f;exact l i e f
    . intro i t x c k;cases i<;>cases t
      . rfl
      . exact absurd ((j x).2 ⟨_,k⟩) (n x c)
      . exact absurd ((j x).2 ⟨_,c⟩) (n x k)
      . rename_i a b;rw[m a b x c k]
    . intro i x c;cases i with
      |zero=>exact⟨d,rfl⟩
      |succ i=>obtain⟨e,f⟩:=p i x c;exact⟨e,by simpa using f⟩
    . intro x;rw[q x];constructor
      . rintro(h|h)
        . exact⟨0,h⟩
        . obtain⟨i,hi⟩:=(j x).1 h;exact⟨i+1,hi⟩
      . rintro⟨i,hi⟩;cases i with
        |zero=>exact .inl hi
        |succ i=>exact .inr ((j x).2 ⟨i,hi⟩)
  . rintro⟨g,l,m,p,j⟩;refine⟨g 0,λx=>∃i,g (i+1) x,l 0 d rfl,ih.2 ⟨λi=>g (i+1),?_,?_,?_,λx=>ABb⟩,?_,?_⟩
    . intro i e f;exact l (i+1) e (by simpa using f)
    . intro i t x c k;have:=m _ _ x c k;omega
    . intro i x c;obtain⟨e,f⟩:=p _ x c;exact⟨e,by simpa using f⟩
    . rintro x c ⟨i,hi⟩;have:=m _ _ x c hi;omega
    . intro x;rw[j x];constructor
      . rintro⟨i,hi⟩;cases i with
        |zero=>exact .inl hi
        |succ i=>exact .inr ⟨i,hi⟩
      . rintro(h|⟨i,h⟩)
        . exact⟨0,h⟩
        . exact⟨i+1,h⟩
theorem B0 {b:List DV} {F:Nat->Prop}:Ok w S (.agg b) F↔JH w S b F:=by
 rw[JM];constructor
 . intro h;cases h with
   |agg _ a _ c d e f=>exact⟨a,c,d,e,f⟩
 . rintro⟨a,c,d,e,f⟩;exact .agg b a F c d e f
theorem BK {b:List DV} {F:Nat->Prop}:Ok w S (.BT b) F↔JH w S b F:=by
 rw[JM];constructor
 . intro h;cases h with
   |BT _ a _ c d e f=>exact⟨a,c,d,e,f⟩
 . rintro⟨a,c,d,e,f⟩;exact .BT b a F c d e f
theorem JH.mono {a:List DV} {F:Nat->Prop} (h:JH w S a F) (e:∀b,S b->w'.heap[b]? =w.heap[b]?) (d:∀b,F b->w'.heap[b]? =w.heap[b]?) (c:∀b,S b->S' b) (hn:∀x,F x->¬S' x):JH w' S' a F:=
 B0.1 ((B0.2 h).mono e d c hn)
theorem St.gN {y:Nat->DV} (ds:List DV):∀{δ:Nat->DV} {Fr:Nat->Nat->Prop} {F:Nat->Prop} {l:List AV} {τ:Sg},St G w S δ Fr->JH w S ds F->(∀d∈ds,DQ y d)->Hd y δ->(∀s x,Fr s x->¬F x)->
 Abs.gN G (ds.map DV.er) (λs=>(δ s).er)=some (l,τ)->
 ∃o F' C Ff,St G w S o F'/\(λs=>(o s).er)=τ/\(∀s,(o s).A0=(δ s).A0)/\JH w S C Ff/\C.map DV.er=l/\C.map DV.A0=ds.map DV.A0/\(∀s x,F' s x->¬Ff x)/\
  (∀x,BD F' x∨Ff x->BD Fr x∨F x)/\Hd y o/\(∀a∈l,FB a=true):=by
 induction ds with
 |nil=>intro δ Fr F l τ h R V M I c;simp only[AAy,Abs.gN,AAG,AAU]at c;obtain⟨rfl,rfl⟩:=c;exact⟨δ,Fr,[],F,h,rfl,λ_=>rfl,R,rfl,rfl,I,λx b=>b,M,by simp⟩
 |cons d ds ih=>
  intro δ Fr F l τ h R V M I c;obtain⟨T,U,hd,JT,h12,j⟩:=R;have N:=V d (by simp);have z:∀e∈ds,DQ y e:=λe he=>V e (by simp[he]);simp only[AAb,Abs.gN]at c;cases QV:d.er with
  |al r p=>
   simp only[QV]at c;split at c
   . rename_i n τ1 ht1;split at c
     . rename_i l' τ' oC;simp only[AAG,AAU]at c;obtain⟨rfl,rfl⟩:=c;obtain⟨δ1,F1',D,Ff,CF,Iu,DU,hD,E4,⟨v,bx,k,rows,rfl⟩,Bv,Yy,L,O,Up⟩:=h.aT ht1;have hH:Hd δ δ1:=by
        intro r' q v bx k rows E;by_cases hr:r'=r
        . subst hr;exact O q v bx k rows E
        . rw[Up r' hr]at E;exact⟨rows,(Wo _ r r' q).1 E⟩
       subst Iu;have g:∀s x,F1' s x->¬U x:=(by intro s x b K;obtain⟨t,c⟩:=L x (.inl ⟨s,b⟩);exact I t x c ((j x).2 (.inr K)));obtain⟨H,F2',C,Fd,W,Qw,Z,X9,Oh,dM,Ln,B,i,Q⟩:=ih CF JT z (M.trans hH) g oC;have hv:v=d.A0:=by
        cases d with
        |lf a u=>
         simp only[El]at QV;subst QV;cases N with
         |lf _ _ hl=>obtain⟨bC,k',rows',hl⟩:=hl;obtain⟨P,E⟩:=M r p v bx k rows Bv;rw[hl]at E;simp only[AAG,DV.own.injEq]at E;simp[E.1]
        |own=>simp at QV
        |agg=>simp at QV
        |BT=>simp at QV
       have hFf:∀x,Ff x->¬U x:=(by intro x b K;obtain⟨t,c⟩:=L x (.inr b);exact I t x c ((j x).2 (.inr K)));have J:∀x,BD F2' x∨Fd x->¬Ff x:=by
        intro x b f;rcases B x b with⟨s,hs⟩|h2
        . exact Yy s x hs f
        . exact hFf x f h2
       refine⟨H,F2',.own v bx k rows::C,λx=>Ff x∨Fd x,W,Qw,λs=>(Z s).trans (DU s),⟨Ff,Fd,hD,X9,λx b X=>J x (.inr X) b,λx=>ABb⟩,?_,?_,?_,?_,i,?_⟩
       . simp only[AAb,E4,Oh]
       . simp only[AAb,dM,KE,hv]
       . rintro s x b (f|f)
         . exact J x (.inl ⟨s,b⟩) f
         . exact Ln s x b f
       . rintro x (b|b|b)
         . rcases B x (.inl b)with h1|h1
           . exact .inl (L x (.inl h1))
           . exact .inr ((j x).2 (.inr h1))
         . exact .inl (L x (.inr b))
         . rcases B x (.inr b)with h1|h1
           . exact .inl (L x (.inl h1))
           . exact .inr ((j x).2 (.inr h1))
       . intro a m;simp only[AAg]at m;rcases m with rfl|m
         . rw[← E4];simp[FB]
         . exact Q a m
     . cases c
   . cases c
  |_=>
   simp only[QV]at c;split at c
   . rename_i hc;split at c
     . rename_i l' τ' oC;simp only[AAG,AAU]at c;obtain⟨rfl,rfl⟩:=c;have g:∀s x,Fr s x->¬U x:=λs x b K=>I s x b ((j x).2 (.inr K));obtain⟨H,F2',C,Fd,W,Qw,Z,X9,Oh,dM,Ln,B,i,Q⟩:=ih h JT z M g oC;have J:∀x,BD F2' x∨Fd x->¬T x:=by
        intro x b f;rcases B x b with⟨s,hs⟩|h2
        . exact I s x hs ((j x).2 (.inl f))
        . exact h12 x f h2
       refine⟨H,F2',d::C,λx=>T x∨Fd x,W,Qw,Z,⟨T,Fd,hd,X9,λx b X=>J x (.inr X) b,λx=>ABb⟩,?_,?_,?_,?_,i,?_⟩
       . simp only[AAb,QV,Oh]
       . simp only[AAb,dM]
       . rintro s x b (f|f)
         . exact J x (.inl ⟨s,b⟩) f
         . exact Ln s x b f
       . rintro x (b|b|b)
         . rcases B x (.inl b)with h1|h1
           . exact .inl h1
           . exact .inr ((j x).2 (.inr h1))
         . exact .inr ((j x).2 (.inl b))
         . rcases B x (.inr b)with h1|h1
           . exact .inl h1
           . exact .inr ((j x).2 (.inr h1))
       . intro a m;simp only[AAg]at m;rcases m with rfl|m
         . exact hc
         . exact Q a m
     . cases c
   . cases c
end Go.Abs
namespace Go.Abs
variable {w w':World} {S S':Nat->Prop} {G:Gi} {δ:Nat->DV} {Fr:Nat->Nat->Prop}
mutual
def IZ:AV->ABh DV
 | .sc v=>if Fl v=true then some (.lf (.sc v) v)else none
 | .own false k []=>some (.own (.slice none 0 0) false k [])
 | .sl x k []=>some (.lf (.sl x k []) (.slice none 0 0))
 | .agg cs=>match WG cs with
  |some ds=>some (.agg ds)
  |none=>none
 |_=>none
def WG:List AV->ABh (List DV)
 |[]=>some []
 |a::r=>match IZ a with
  |some d=>match WG r with
   |some ds=>some (d::ds)
   |none=>none
  |none=>none
end
theorem ID (a:AV):∀D,IZ a=some D->D.er=a/\Ok w S D (λ_=>False)/\DQ δ D/\(∀L,FM L a=true):=by
 refine AV.rec (motive_1:=λa=>∀D,IZ a=some D->D.er=a/\Ok w S D (λ_=>False)/\DQ δ D/\(∀L,FM L a=true)) (motive_2:=λ_=>True)
  (motive_3:=λl=>∀ds,WG l=some ds->ds.map DV.er=l/\JH w S ds (λ_=>False)/\(∀d∈ds,DQ δ d)/\(∀L,PK L l=true)) ?_ ?_ ?_ ?_ ?_ ?_ ?_ ?_ ?_ ?_ ?_ ?_ ?_ ?_ ?_ ?_ ?_ a
 . intro v D h;simp only[IZ]at h;split at h
   . rename_i H;obtain rfl:=Option.some.inj h;exact⟨by simp,.lf _ _ _ ⟨rfl,H⟩ (λ_ h=>h),.lf _ _ trivial,by simp⟩
   . cases h
 . intro x k rows _ D h;cases rows with
   |nil=>simp only[IZ]at h;obtain rfl:=Option.some.inj h;exact⟨by simp,.lf _ _ _ (Fz.nil x k none 0 (λ_=>rfl)) (λ_ h=>h),.lf _ _ trivial,by simp⟩
   |cons r rs=>simp[IZ]at h
 . intro b k rows _ D h;cases b with
   |true=>simp[IZ]at h
   |false=>
    cases rows with
    |nil=>simp only[IZ]at h;obtain rfl:=Option.some.inj h;exact⟨by simp,.nil k _ (λ_ h=>h),.own _ _ _ _,by simp⟩
    |cons r rs=>simp[IZ]at h
 . intro y I D h;simp only[IZ]at h;split at h
   . rename_i ds g;obtain rfl:=Option.some.inj h;obtain⟨m,n,q,t⟩:=I ds g;refine⟨by simp[m],B0.2 n,.agg _ λi d hd=>q d (List.mem_of_getElem? hd),λL=>by simp only[FM];exact t L⟩
   . cases h
 . intro y _ D h;simp[IZ]at h
 . intro r p D h;simp[IZ]at h
 . intro r p i j k D h;simp[IZ]at h
 . intro y _ D h;simp[IZ]at h
 . intro D h;simp[IZ]at h
 . intro D h;simp[IZ]at h
 . intro f rs D h;simp[IZ]at h
 . intro s o K D h;simp[IZ]at h
 . intro f J _ D h;simp[IZ]at h
 . trivial
 . intros;trivial
 . intro ds h;simp only[WG,Option.some.injEq]at h;subst h;exact⟨rfl,λ_ h=>h,by simp,λL=>by simp[PK]⟩
 . intro a l B u ds h;simp only[WG]at h;split at h
   . rename_i d hd;split at h
     . rename_i z g;obtain rfl:=Option.some.inj h;obtain⟨m,n,q,t⟩:=B d hd;obtain⟨C,E,F,G⟩:=u z g;refine⟨by simp[m,C],⟨_,_,n,E,λ_ h=>h.elim,λx=>by simp⟩,?_,λL=>by simp[PK,t L,G L]⟩;intro e c;simp only[List.mem_cons]at c;rcases c with rfl|c
       . exact q
       . exact F e c
     . cases h
   . cases h
def Vm:Ar->Prop
 | .t _=>True
 | .c a=>∃D,IZ a=some D
def C0 (δ:Nat->DV):Ar->Value
 | .t s=>(δ s).A0
 | .c a=>match IZ a with
  |some D=>D.A0
  |none=>undef
theorem Qj {ds:List DV} (c:∀a∈ds.map DV.er,FB a=true):∀d∈ds,DQ δ d:=by
 intro d hd;have b:=c d.er (List.mem_map_of_mem hd);cases d with
 |lf a v=>refine .lf a v ?_;simp only[El]at b;cases a<;>simp_all [FB,MF]
 |own=>exact .own _ _ _ _
 |agg cs=>simp[FB]at b
 |BT cs=>simp[FB]at b
structure Fly (G:Gi) (w:World) (S:Nat->Prop) (δ:Nat->DV) (Fr:Nat->Nat->Prop) (δ':Nat->DV) (F':Nat->Nat->Prop) (D:DV) (Ff:Nat->Prop):Prop where
 st:St G w S δ' F'
 A0:∀s,(δ' s).A0=(δ s).A0
 ok:Ok w S D Ff
 al:DQ δ' D
 LX:∀s x,F' s x->¬Ff x
 own:∀x,BD F' x∨Ff x->BD Fr x
theorem St.tk (h:St G w S δ Fr) {x:Ar} {a:AV} {τ:Sg} (m:Vm x) (g:Abs.tk G x (λs=>(δ s).er)=some (a,τ)):
 ∃z F' D Ff,Fly G w S δ Fr z F' D Ff/\(λs=>(z s).er)=τ/\D.er=a/\D.A0=C0 δ x:=by
 cases x with
 |c c=>obtain⟨D,N⟩:=m;simp only[Abs.tk,Option.some.injEq,Prod.mk.injEq]at g;obtain⟨rfl,rfl⟩:=g;obtain⟨U,V,h3,_⟩:=ID (w:=w) (S:=S) (δ:=δ) c D N;exact⟨δ,Fr,D,_,⟨h,λ_=>rfl,V,h3,λ_ _ _ h=>h,λx m=>m.elim id False.elim⟩,rfl,U,by simp[C0,N]⟩
 |t s=>
  simp only[Abs.tk]at g;have dK:∀b,(δ s).er=b->C3 b=true->∃v,δ s= .lf b v:=by
   intro b n y
   have:=(h.ok s).KU;cases hd:δ s with
   |lf c v=>rw[hd]at n;simp at n;exact⟨v,by rw[n]⟩
   |own=>rw[hd]at n;simp at n;subst n;simp[C3]at y
   |agg=>rw[hd]at n;simp at n;subst n;simp[C3]at y
   |BT=>rw[hd]at n;simp at n;subst n;simp[C3]at y
  have P:∀b,(δ s).er=b->C3 b=true->∃z F' D Ff,Fly G w S δ Fr z F' D Ff/\(λs=>(z s).er)=(λs=>(δ s).er)/\D.er=b/\D.A0=C0 δ (.t s):=by
   intro b n y;obtain⟨v,Z⟩:=dK b n y;have B:=h.ok s;rw[Z]at B;cases B with
   |lf _ _ _ ha hF=>exact⟨δ,Fr,.lf b v,λ_=>False,⟨h,λ_=>rfl,.lf _ _ _ ha (λ_ h=>h),Z▸h.al s,λ_ _ _ h=>h,λx m=>m.elim id False.elim⟩,rfl,by simp,by simp[C0,Z]⟩
  cases hs:(δ s).er with
  |al r p=>
   simp only[hs]at g;obtain⟨δ1,F1,D,Ff,K,Iu,DU,N,E4,⟨v,bx,k,rows,rfl⟩,Q,R,Dy,Wb,Up⟩:=h.aT g;refine⟨δ1,F1,_,Ff,⟨K,DU,N,.own _ _ _ _,R,Dy⟩,Iu,E4,?_⟩;obtain⟨u,hu⟩:=dK _ hs rfl;have GG:=h.al s;rw[hu]at GG;cases GG with
   |lf _ _ y=>obtain⟨bC,k',rows',y⟩:=y;rw[y]at Q;simp only[Option.some.injEq,DV.own.injEq]at Q;simp[C0,hu,Q.1]
  |own b k rows=>
   simp only[hs,Option.some.injEq,Prod.mk.injEq]at g;obtain⟨rfl,rfl⟩:=g;have K:=h.empty s;refine⟨_,_,δ s,Fr s,⟨K,?_,h.ok s,?_,?_,?_⟩,by rw[Hm h];simp,hs,rfl⟩
   . intro t;rw[HN h];split
     . rename_i e;rw[e];simp
     . rfl
   . have:=(h.ok s).KU;cases hd:δ s with
     |own=>exact .own _ _ _ _
     |lf c v=>rw[hd]at hs this;cases this with|lf _ _ y=>simp at hs;subst hs;simp[C3]at y
     |agg=>rw[hd]at hs;simp at hs
     |BT=>rw[hd]at hs;simp at hs
   . intro t x m W;by_cases e:t=s
     . subst e;rw[BG]at m;exact m
     . rw[Ba _ _ e]at m;exact e (h.LX t s x m W)
   . rintro x (⟨t,m⟩|m)
     . by_cases e:t=s
       . subst e;rw[BG]at m;exact m.elim
       . rw[Ba _ _ e]at m;exact⟨t,m⟩
     . exact⟨s,m⟩
  |agg cs=>
   simp only[hs]at g;obtain⟨ds,H,M⟩:∃ds,δ s= .agg ds/\ds.map DV.er=cs:=by
    have:=(h.ok s).KU;cases hd:δ s with
    |agg ds=>rw[hd]at hs;simp at hs;exact⟨ds,rfl,hs⟩
    |lf c v=>rw[hd]at hs this;cases this with|lf _ _ y=>simp at hs;subst hs;simp[C3]at y
    |own=>rw[hd]at hs;simp at hs
    |BT=>rw[hd]at hs;simp at hs
   split at g
   . rename_i I;simp only[Option.some.injEq,Prod.mk.injEq]at g;obtain⟨rfl,rfl⟩:=g;have B:=h.ok s;rw[H]at B
     -- nothing is owned
     have C:JH w S ds (λ_=>False):=by
      have E:=B0.1 B;clear B H;rw[← M]at I;clear M hs;generalize Fr s=F at E;induction ds generalizing F with
      |nil=>exactλ_ h=>h
      |cons d ds ih=>
       obtain⟨F1,T,U,V,_,_⟩:=E;simp only[List.map_cons,List.all_cons,Bool.and_eq_true]at I;refine⟨λ_=>False,λ_=>False,?_,ih I.2 T V,λ_ h=>h.elim,λx=>by simp⟩;cases U with
       |lf a v _ ha hF=>exact .lf a v _ ha (λ_ h=>h)
       |nil=>simp[G9]at I
       |own=>simp[G9]at I
       |agg=>simp[G9]at I
       |BT=>simp[G9]at I
     exact⟨δ,Fr,.agg ds,λ_=>False,⟨h,λ_=>rfl,B0.2 C,H▸h.al s,λ_ _ _ h=>h,λx m=>m.elim id False.elim⟩,rfl,by simp[M],by simp[C0,H]⟩
   . split at g
     . rename_i l τ' X;simp only[Option.some.injEq,Prod.mk.injEq]at g;obtain⟨rfl,rfl⟩:=g;have K:=h.empty s;have B:=h.ok s;rw[H]at B;have zY:∀d∈ds,DQ δ d:=by
        have:=h.al s;rw[H]at this;cases this with
        |agg _ hr=>intro d hd;obtain⟨i,hi⟩:=List.getElem?_of_mem hd;exact hr i d hi
       have hH:Hd δ (DP (Gy G s δ) s (.lf .dead (δ s).A0)):=by
        intro r q v bx k rows O;by_cases e:r=s
        . subst e;rw[BG]at O;cases q<;>simp[Ao]at O
        . rw[Ba _ _ e]at O;exact⟨rows,Sf s r q O⟩
       have R:∀t x,(DP Fr s λ_=>False) t x->¬Fr s x:=by
        intro t x m W;by_cases e:t=s
        . subst e;rw[BG]at m;exact m
        . rw[Ba _ _ e]at m;exact e (h.LX t s x m W)
       have L:(λt=>(DP (Gy G s δ) s (.lf .dead (δ s).A0) t).er)=DP (JB G s λs=>(δ s).er) s .dead:=(by rw[Hm h];simp);obtain⟨δ2,T,QR,Ff,Jg,Qw,Lm,X9,Oh,dM,Ln,Jm,_,Bo⟩:=K.gN ds (B0.1 B) zY hH R (l:=l) (τ:=τ') (by rw[L,M];exact X);refine⟨δ2,T,.agg QR,Ff,⟨Jg,?_,B0.2 X9,.agg _ λi d hd=> ?_,Ln,?_⟩,Qw,by simp[Oh],by simp[C0,H,dM]⟩
       . intro t;rw[Lm,HN h];split
         . rename_i e;rw[e];simp
         . rfl
       . exact Qj (by rw[Oh];exact Bo) d (List.mem_of_getElem? hd)
       . intro x m;rcases Jm x m with⟨t,J⟩|J
         . by_cases e:t=s
           . subst e;rw[BG]at J;exact J.elim
           . rw[Ba _ _ e]at J;exact⟨t,J⟩
         . exact⟨s,J⟩
     . cases g
  |sc v=>simp only[hs,Option.some.injEq,Prod.mk.injEq]at g;obtain⟨rfl,rfl⟩:=g;exact P _ hs rfl
  |sl e k rows=>simp only[hs,Option.some.injEq,Prod.mk.injEq]at g;obtain⟨rfl,rfl⟩:=g;exact P _ hs rfl
  |KJ r p i j k=>simp only[hs,Option.some.injEq,Prod.mk.injEq]at g;obtain⟨rfl,rfl⟩:=g;exact P _ hs rfl
  |fp cs=>simp only[hs,Option.some.injEq,Prod.mk.injEq]at g;obtain⟨rfl,rfl⟩:=g;exact P _ hs rfl
  |BT cs=>simp[hs]at g
  |dead=>simp[hs]at g
  |un=>simp[hs]at g
  |cl f rs=>simp[hs]at g
  |vb s o us=>simp[hs]at g
  |kN f VW=>simp[hs]at g
theorem St.Pz (h:St G w S δ Fr) {r:Nat} {p:List Step} {a:AV} {τ:Sg} (i:Abs.Pz G r p (λs=>(δ s).er)=some (a,τ)):
 ∃(g:Nat->DV) (F':Nat->Nat->Prop) (f:Nat->Prop) (v:Value) (bx:Bool) (k:Nat) (rows:List (List DV)),St G w (λx=>S x∨f x) g F'/\(λs=>(g s).er)=τ/\(∀s,(g s).A0=(δ s).A0)/\Ao (δ r) p=some (.own v bx k rows)/\Fz w (λx=>S x∨f x) a v/\
  a=I1 (DV.own v bx k rows).er/\(∀s x,F' s x->¬f x)/\(∀x,BD F' x∨f x->BD Fr x)/\Hd δ g:=by
 unfold Abs.Pz at i;split at i
 . rename_i b k rows V;split at i
   . rename_i t U;simp only[Option.some.injEq,Prod.mk.injEq]at i;obtain⟨rfl,rfl⟩:=i;obtain⟨D,C,l⟩:=Dj (h.ok r).KU V;obtain⟨f,F,y,O⟩:=h.replace r p C;have K:∃v bx k rows,D= .own v bx k rows:=by
      have:=F.KU;cases D with
      |own v bx k rows=>exact⟨v,bx,k,rows,rfl⟩
      |lf a v=>cases this with|lf _ _ hl=>simp at l;subst l;simp[C3]at hl
      |agg cs=>simp at l
      |BT cs=>simp at l
     obtain⟨v,bx,W,M,rfl⟩:=K;have u:Fz w (λx=>S x∨f x) (I1 (.own b k rows)) v:=(by have:=F.freeze;rw[l]at this;simpa using this);have Z:Ok w (λx=>S x∨f x) (.lf (I1 (.own b k rows)) v) (λ_=>False):=by
      refine .lf _ _ _ ?_ (λ_ h=>h);cases b with
      |true=>simp only[nN];trivial
      |false=>simp only[NM]at u ⊢;exact u
     obtain⟨td,F',n,I,z,J⟩:=O (λx=>S x∨f x) (.lf (I1 (.own b k rows)) v) (by simp) Z (λ_ h=>.inl h)
      (λt P T N R=>R.elim ((h.ok t).Ek P T) N) (by intro L;cases b<;>simp) (.lf _ _ (by cases b<;>simp[MF]))
     have X:td.er=t:=(by obtain⟨t',B,Q⟩:=Gr (d:=δ r) (p:=p) (a:=t) (.lf (I1 (.own b k rows)) v) (h.ok r).KU (by simpa using U);rw[n]at B;obtain rfl:=Option.some.inj B;exact Q);refine⟨_,_,f,v,bx,W,M,I,by rw[Hm h,X],?_,C,u,by rw[l],?_,?_,?_⟩
     . intro s;rw[HN h];split
       . rename_i e;rw[e,J]
       . rfl
     . intro s x c E;by_cases m:s=r
       . subst m;rw[BG]at c;exact((z x).1 c).2 E
       . rw[Ba _ _ m]at c;exact m (h.LX s r x c (y x E))
     . rintro x (⟨s,c⟩|c)
       . by_cases m:s=r
         . subst m;rw[BG]at c;exact⟨s,((z x).1 c).1⟩
         . rw[Ba _ _ m]at c;exact⟨s,c⟩
       . exact⟨r,y x c⟩
     . intro H q v' bC k' j o;by_cases e:H=r
       . subst e;rw[BG]at o;exact US p n q o
       . rw[Ba _ _ e]at o;exact⟨j,Sf r H q o⟩
   . cases i
 . cases i
theorem St.wr (h:St G w S δ Fr) {dst:Dw} (g:dst.kl=G.Nk dst.d) (r:dst.rs=G.Gc dst.d) {D:DV} {Ff:Nat->Prop} {σ':Sg} (q:∀b,S b->w'.heap[b]? =w.heap[b]?) (o:∀s x,Fr s x->w'.heap[x]? =w.heap[x]?)
 (l:∀b,S b->S' b) (m:∀s x,Fr s x->¬S' x) (n:Ok w' S' D Ff) (i:∀s x,Fr s x->¬Ff x) (j:DQ δ D) (f:Abs.wr dst D.er (λs=>(δ s).er)=some σ'):
 ∃a F',St G w' S' a F'/\(λs=>(a s).er)=σ'/\(∀s,(a s).A0=if s=dst.d then D.A0 else(δ s).A0)/\(∀x,BD F' x->BD Fr x∨Ff x):=by
 unfold Abs.wr at f;split at f
 . rename_i p;simp only[Option.some.injEq]at f;subst f;refine⟨_,_,h.set dst.d D Ff q (λs _=>o s) l (λs _=>m s) n (λs _ x c k=>i s x k c) (r▸p) j,?_,λs=>HN h dst.d D s,?_⟩
   . rw[Hm h,g,kills_eq]
   . rintro x ⟨s,c⟩;by_cases e:s=dst.d
     . subst e;rw[BG]at c;exact .inr c
     . rw[Ba _ _ e]at c;exact .inl ⟨s,c⟩
 . cases f
end Go.Abs
namespace Go.Abs
variable {w w':World} {S S':Nat->Prop} {G:Gi} {δ:Nat->DV} {Fr:Nat->Nat->Prop} {P:Program}
def oT:Value->Value->Bool
 | .bool a,.bool b=>a==b
 | .int k a,.int k' b=>decide (k=k')&&decide (a=b)
 | .string a,.string b=>decide (a.data=b.data)
 | .pointer none,.pointer none=>true
 | .slice none 0 0,.slice none 0 0=>true
 | .nilFunc,.nilFunc=>true
 | .nilIface,.nilIface=>true
 |_,_=>false
def TJ:List Value->List Value->Bool
 |[],[]=>true
 |a::l,b::r=>oT a b&&TJ l r
 |_,_=>false
def oU:Value->Value->Bool
 | .agg a,.agg b=>TJ a.toList b.toList
 |a,b=>oT a b
theorem fD {a b:Value} (h:oT a b=true):a=b:=by unfold oT at h;split at h<;>simp_all;rename_i x y;cases x;cases y;simp_all
theorem PN:∀{a b:List Value},TJ a b=true->a=b
 |[],[],_=>rfl
 |[],_::_,h=>by simp[TJ]at h
 |_::_,[],h=>by simp[TJ]at h
 |a::l,b::r,h=>by simp only[TJ,AAH]at h;rw[fD h.1,PN h.2]
theorem fE {a b:Value} (h:oU a b=true):a=b:=by
 unfold oU at h;split at h
 . rename_i x y;have:=PN h;rw[Value.agg.injEq];exact ABS this
 . exact fD h
def CH (x:Operand) (y:Ar):Bool:=
 match x,y with
 | .tmp s,.t s'=>s==s'
 | .const v,.c a=>match IZ a with
  |some D=>oU v D.A0
  |none=>false
 |_,_=>false
def Rd (δ:Nat->DV) (a:Act):Prop:=∀s,a.tmps.getD s undef=(δ s).A0
theorem Ah {x:Operand} {y:Ar} {a:Act} (h:CH x y=true) (d:Rd δ a):Vm y/\a.eval x=C0 δ y:=by
 unfold CH at h;split at h
 . simp only[AAV]at h;subst h;exact⟨trivial,d _⟩
 . rename_i v c;split at h
   . rename_i D b;exact⟨⟨D,b⟩,by simp[Act.eval,C0,b,fE h]⟩
   . cases h
 . cases h
def GN:List Operand->List Ar->Bool
 |[],[]=>true
 |x::l,y::r=>CH x y&&GN l r
 |_,_=>false
def Qn:ABh Operand->ABh Ar->Bool
 |none,none=>true
 |some x,some y=>CH x y
 |_,_=>false
def GD (P:Program) (t:TypeId):ABh Nat:=(P.info? t).map (·.size)
def I2 (P:Program) (t:TypeId):ABh Bool:=(P.underlying t).map λ| .struct _=>true| .array _ _=>true|_=>false
theorem run_sizeOf {t:TypeId} {n:Nat} (h:GD P t=some n) (w:World):(sizeOf t).run P w= .ok n w:=by
 unfold GD at h;cases hi:P.info? t with
 |none=>simp[hi]at h
 |some i=>simp only[hi,AAk,AAG]at h;simp[sizeOf,typeInfo,hi,h]
theorem Pp {t:TypeId} {b:Bool} (h:I2 P t=some b) (w:World):(isAgg t).run P w= .ok b w:=by
 unfold I2 at h;cases hi:P.underlying t with
 |none=>simp[hi]at h
 |some d=>simp only[hi,AAk,AAG]at h;cases d<;>simp_all [isAgg,underlying]
theorem Hx (t:DV) (p q:List Step):Ao t (p++q)=(Ao t p).bind (Ao · q):=by
 induction p generalizing t with
 |nil=>simp[Ao]
 |cons s p ih=>
  obtain⟨i,j,k⟩:=s;cases t with
  |lf a v=>simp[Ao]
  |own h b k1 rows=>
   simp only[AAz,Ao];cases rows[i]? with
   |none=>rfl
   |some row=>simp only[];cases row[j]? with
    |none=>rfl
    |some c=>exact ih c
  |agg cs=>simp only[AAz,Ao];cases cs[j]? with
   |none=>rfl
   |some c=>exact ih c
  |BT cs=>simp only[AAz,Ao];cases cs[j]? with
   |none=>rfl
   |some c=>exact ih c
theorem ZR (r:Nat) (p:List Step) (l:List AV) (i n:Nat):(PR r p i l)[n]? =(l[n]?).map (view r (p++[(0,i+n,0)])):=by
 induction l generalizing i n with
 |nil=>simp[PR]
 |cons c cs ih=>
  cases n with
  |zero=>simp[PR]
  |succ n=>simp only[PR,AA2,ih,Nat.add_assoc,Nat.add_comm 1 n]
theorem Ca {ds:List DV} (h:∀d∈ds,Ok w S d (λ_=>False)):JH w S ds (λ_=>False):=by
 induction ds with
 |nil=>exactλ_ h=>h
 |cons d ds ih=>exact⟨_,_,h d (by simp),ih (λe a=>h e (by simp[a])),λ_ h=>h.elim,λx=>by simp⟩
theorem Kg {f g:Type} (b:List f) (e:Nat->f->g->Prop) (h:∀i c,b[i]? =some c->∃D,e i c D):∃d:List g,d.length=b.length/\∀i c,b[i]? =some c->∃D,d[i]? =some D/\e i c D:=by
 induction b generalizing e with
 |nil=>exact⟨[],rfl,by simp⟩
 |cons c b ih=>
  obtain⟨D,l⟩:=h 0 c rfl;obtain⟨d,j,k⟩:=ih (λi=>e (i+1)) (λi c' a=>h (i+1) c' (by simpa using a));refine⟨D::d,by simp[j],?_⟩;intro i c' a;cases i with
  |zero=>simp only[AAt,AAG]at a;subst a;exact⟨D,rfl,l⟩
  |succ i=>simp only[AA2]at a ⊢;exact k i c' a
theorem mem_mk {j d:Type} {a:List j} {b:List d} {g:Nat->j->d->Prop} (l:b.length=a.length) (h:∀i c,a[i]? =some c->∃D,b[i]? =some D/\g i c D) (i:Nat) (D:d) (f:b[i]? =some D):∃c,a[i]? =some c/\g i c D:=by
 have hi:i<a.length:=by rw[← l];exact(AAI.1 f).1
 obtain⟨m,e,k⟩:=h i a[i] (AAL hi);rw[f]at e;obtain rfl:=AAJ e;exact⟨_,AAL hi,k⟩
theorem map_mk {g d j:Type} {a:List g} {b:List d} {e:Nat->g->d->Prop} (p:b.length=a.length) (h:∀i c,a[i]? =some c->∃D,b[i]? =some D/\e i c D) (f:d->j) (l:List j) (o:l.length=a.length)
 (n:∀i c D,e i c D->a[i]? =some c->l[i]? =some (f D)):b.map f=l:=by
 apply ABU;intro i;by_cases hi:i<a.length
 . obtain⟨D,k,m⟩:=h i a[i] (AAL hi);rw[AAR,k,n i _ D m (AAL hi)];rfl
 . rw[ABE (by simp;omega),ABE (by omega)]
theorem TV (r:Nat) (p:List Step) (l:List AV) (i:Nat):(PR r p i l).length=l.length:=by
 induction l generalizing i with
 |nil=>simp[PR]
 |cons c cs ih=>simp[PR,ih]
theorem viewD {t:DV} {F:Nat->Prop} (r:Nat) (h:Ok w S t F):∀(p:List Step),Ao (δ r) p=some t->DQ δ t->
 ∃D,D.er=view r p t.er/\D.A0=t.A0/\Ok w S D (λ_=>False)/\DQ δ D:=by
 induction h with
 |lf a v F ha hF=>intro p l f;have g:=ha.C3;refine⟨.lf a v,?_,rfl,.lf a v _ ha (λ_ h=>h),f⟩;cases a<;>simp_all [view,C3]
 |nil k F hF=>intro p l f;exact⟨.lf (.al r p) (.slice none 0 0),by simp[view],by simp,.lf _ _ _ trivial (λ_ h=>h),.lf _ _ ⟨_,_,_,l⟩⟩
 |own bx k rows b c arr E Fs F hb hk Dv Ku hv hr hd Bb Jf hF ih=>intro p l f;exact⟨.lf (.al r p) (I9 bx b rows.length c),by simp[view],by simp,.lf _ _ _ trivial (λ_ h=>h),.lf _ _ ⟨_,_,_,l⟩⟩
 |agg cs Fs F hr hd Bb hF ih=>
  intro p l f;cases f with
  |agg _ f=>
   obtain⟨o,g,j⟩:=Kg cs (λi d D=>D.er=view r (p++[(0,i,0)]) d.er/\D.A0=d.A0/\Ok w S D (λ_=>False)/\DQ δ D)
    (λi d hd=>ih i d hd _ (by rw[Hx,l];simp[Ao,hd]) (f i d hd))
   refine⟨.agg o,?_,?_,B0.2 (Ca λD m=> ?_),.agg _ λi D m=> ?_⟩
   . simp only[G7,view,AV.agg.injEq];refine map_mk g j _ _ (by simp[TV]) λi c D e n=> ?_;rw[ZR,AAR,n];simp[e.1]
   . simp only[JP];congr 2;exact map_mk g j _ _ (by simp) λi c D e n=>by simp[n,e.2.1]
   . obtain⟨i,hi⟩:=AAj m;obtain⟨c,_,e⟩:=mem_mk g j i D hi;exact e.2.2.1
   . obtain⟨c,_,e⟩:=mem_mk g j i D m;exact e.2.2.2
 |BT cs Fs F hr hd Bb hF ih=>
  intro p l f;cases f with
  |BT _ f=>
   obtain⟨o,g,j⟩:=Kg cs (λi d D=>D.er=view r (p++[(0,i,0)]) d.er/\D.A0=d.A0/\Ok w S D (λ_=>False)/\DQ δ D)
    (λi d hd=>ih i d hd _ (by rw[Hx,l];simp[Ao,hd]) (f i d hd))
   refine⟨.BT o,?_,?_,BK.2 (Ca λD m=> ?_),.BT _ λi D m=> ?_⟩
   . simp only[I0,view,AV.BT.injEq];refine map_mk g j _ _ (by simp[TV]) λi c D e n=> ?_;rw[ZR,AAR,n];simp[e.1]
   . simp only[Kr];congr 2;exact map_mk g j _ _ (by simp) λi c D e n=>by simp[n,e.2.1]
   . obtain⟨i,hi⟩:=AAj m;obtain⟨c,_,e⟩:=mem_mk g j i D hi;exact e.2.2.1
   . obtain⟨c,_,e⟩:=mem_mk g j i D m;exact e.2.2.2
theorem aV (r:Nat) (p:List Step) (i k j:Nat) (l:List AV):(PQ r p i k j l).length=l.length:=by
 induction l generalizing j with
 |nil=>simp[PQ]
 |cons c cs ih=>simp[PQ,ih]
theorem uI (r:Nat) (p:List Step) (i k j n:Nat) (l:List AV):(PQ r p i k j l)[n]? =(l[n]?).map (vC r p i (j+n) k):=by
 induction l generalizing j n with
 |nil=>simp[PQ]
 |cons c cs ih=>
  cases n with
  |zero=>simp[PQ]
  |succ n=>simp only[PQ,AA2,ih,Nat.add_assoc,Nat.add_comm 1 n]
theorem aW (s j:Nat) (l:List AV):(ME s j l).length=l.length:=by
 induction l generalizing j with
 |nil=>simp[ME]
 |cons c cs ih=>simp[ME,ih]
theorem uJ (s j n:Nat) (l:List AV):(ME s j l)[n]? =(l[n]?).map (vF s (j+n)):=by
 induction l generalizing j n with
 |nil=>simp[ME]
 |cons c cs ih=>
  cases n with
  |zero=>simp[ME]
  |succ n=>simp only[ME,AA2,ih,Nat.add_assoc,Nat.add_comm 1 n]
end Go.Abs
namespace Go.Abs
variable {w w':World} {S S':Nat->Prop} {G:Gi} {δ:Nat->DV} {Fr:Nat->Nat->Prop} {P:Program}
def Lf (w:World) (S:Nat->Prop) (δ:Nat->DV) (a:AV) (v:Value):Prop:=∃D:DV,D.er=a/\D.A0=v/\Ok w S D (λ_=>False)/\DQ δ D
theorem Lf.sc (v:Value) (h:Fl v=true):Lf w S δ (.sc v) v:=⟨.lf (.sc v) v,by simp,by simp,.lf _ _ _ ⟨rfl,h⟩ (λ_ h=>h),.lf _ _ trivial⟩
theorem Lf.al {r:Nat} {p:List Step} {v:Value} {bx:Bool} {k:Nat} {rows:List (List DV)} (h:Ao (δ r) p=some (.own v bx k rows)):Lf w S δ (.al r p) v:=
 ⟨.lf (.al r p) v,by simp,by simp,.lf _ _ _ trivial (λ_ h=>h),.lf _ _ ⟨_,_,_,h⟩⟩
theorem Lf.KJ {r:Nat} {p:List Step} {i j k b:Nat} {v:Value} {bx:Bool} {rows:List (List DV)} (h:Ao (δ r) p=some (.own v bx k rows)) (a:Ry v=some b):Lf w S δ (.KJ r p i j k) (.pointer (some ⟨b,i*k+j,none⟩)):=
 ⟨.lf (.KJ r p i j k) _,by simp,by simp,.lf _ _ _ trivial (λ_ h=>h),.lf _ _ ⟨_,_,_,_,h,a,rfl⟩⟩
theorem Lf.fp {c:List AV} {b off:Nat} (d:S b) (h:∀(j:Nat) a,c[j]? =some a->∃u,w.cell? ⟨b,off+j,none⟩=some u/\Fz w S a u):Lf w S δ (.fp c) (.pointer (some ⟨b,off,none⟩)):=
 ⟨.lf (.fp c) _,by simp,by simp,.lf _ _ _ ⟨b,off,rfl,d,h⟩ (λ_ h=>h),.lf _ _ trivial⟩
theorem St.leaf (h:St G w S δ Fr) {s:Nat} {a:AV} (c:(δ s).er=a) (d:C3 a=true):δ s= .lf a (δ s).A0/\HM w S a (δ s).A0/\MF δ a (δ s).A0:=by
 have e:=h.ok s;have f:=h.al s;cases hd:δ s with
 |lf b v=>
  rw[hd]at c e f;simp only[El]at c;subst c;cases e with
  |lf _ _ _ ha _=>cases f with|lf _ _ d=>exact⟨by simp,ha,d⟩
 |own=>rw[hd]at c;simp at c;subst c;simp[C3]at d
 |agg=>rw[hd]at c;simp at c;subst c;simp[C3]at d
 |BT=>rw[hd]at c;simp at c;subst c;simp[C3]at d
theorem St.Ep (h:St G w S δ Fr) {x:Ar} (g:Vm x) {v:Value} (d:ar (λs=>(δ s).er) x= .sc v):C0 δ x=v/\Fl v=true:=by
 cases x with
 |t s=>obtain⟨_,e,_⟩:=h.leaf (s:=s) d rfl;exact⟨e.1,e.2⟩
 |c a=>
  obtain⟨D,b⟩:=g;simp only[ar]at d;subst d;simp only[IZ]at b;split at b
  . rename_i f;obtain rfl:=AAJ b;exact⟨by simp[C0,IZ,f],f⟩
  . cases b
theorem NF {a:AV} {n:Int} (h:iY a=some n):∃k,a= .sc (.int k n):=by
 unfold iY at h;split at h
 . simp only[AAG]at h;subst h;exact⟨_,rfl⟩
 . cases h
theorem St.node (h:St G w S δ Fr) {s r:Nat} {p:List Step} (j:(δ s).er= .al r p) {bx:Bool} {k:Nat} {rows:List (List AV)} (hn:sub (δ r).er p=some (.own bx k rows)):
 ∃b F,Ao (δ r) p=some (.own (δ s).A0 bx k b)/\b.map (·.map DV.er)=rows/\Ok w S (.own (δ s).A0 bx k b) F:=by
 obtain⟨_,_,f⟩:=h.leaf j rfl;obtain⟨l,m,a,c⟩:=f;obtain⟨D,e,d⟩:=Dj (h.ok r).KU hn;rw[c]at e;obtain rfl:=AAJ e;simp only[EN,AV.own.injEq]at d;obtain⟨rfl,rfl,g⟩:=d;obtain⟨F,i,_⟩:=(h.ok r).Ao c;exact⟨a,F,c,g,i⟩
theorem St.W0 (h:St G w S δ Fr) {s:Nat} {bx:Bool} {k:Nat} {rows:List (List AV)} (a:(δ s).er= .own bx k rows):
 ∃c,δ s= .own (δ s).A0 bx k c/\c.map (·.map DV.er)=rows:=by
 have:=(h.ok s).KU;cases hd:δ s with
 |own v b k' rows'=>rw[hd]at a;simp only[EN,AV.own.injEq]at a;obtain⟨rfl,rfl,d⟩:=a;exact⟨rows',by simp,d⟩
 |lf b v=>rw[hd]at a this;cases this with|lf _ _ hl=>simp at a;subst a;simp[C3]at hl
 |agg=>rw[hd]at a;simp at a
 |BT=>rw[hd]at a;simp at a
theorem St.D9 (h:St G w S δ Fr) {s r i j k:Nat} {p:List Step} (a:Abs.D9 (λs=>(δ s).er) (.t s)=some (r,p,i,j,k)):
 ∃v bx d b F,Ao (δ r) p=some (.own v bx k d)/\Ry v=some b/\(δ s).A0= .pointer (some ⟨b,i*k+j,none⟩)/\Ok w S (.own v bx k d) F/\(∀x,F x->Fr r x):=by
 simp only[Abs.D9]at a;cases hs:(δ s).er with
 |KJ r' p' i' j' o=>simp only[hs,AAG,AAU]at a;obtain⟨rfl,rfl,rfl,rfl,rfl⟩:=a;obtain⟨_,_,u⟩:=h.leaf hs rfl;obtain⟨v,bx,rows,b,e,f,z⟩:=u;obtain⟨F,l,g⟩:=(h.ok _).Ao e;exact⟨v,bx,rows,b,F,e,f,z,l,g⟩
 |own bx o rows=>
  cases bx with
  |false=>simp[hs]at a
  |true=>
   simp only[hs,AAG,AAU]at a;obtain⟨rfl,rfl,rfl,rfl,rfl⟩:=a;obtain⟨d,hd,_⟩:=h.W0 hs;have n:=h.ok s;rw[hd]at n;generalize B:(δ s).A0=v at*;cases n with
   |own _ _ _ b c arr E Fs _ f hk Dv Ku dS hr LZ Bb Jf l=>exact⟨I9 true b d.length c,true,d,b,Fr s,by simp[Ao,hd],by simp,by simp[I9],by rw[← hd];exact h.ok s,λx C=>C⟩
 |al r' p'=>
  simp only[hs]at a;split at a
  . rename_i o m hn;simp only[AAG,AAU]at a;obtain⟨rfl,rfl,rfl,rfl,rfl⟩:=a;obtain⟨d,F,e,_,l⟩:=h.node hs hn;obtain⟨q,y,g⟩:=(h.ok _).Ao e;generalize B:(δ s).A0=v at*;cases y with
    |own _ _ _ b c arr E Fs _ f hk Dv Ku dS hr LZ Bb Jf WT=>exact⟨I9 true b d.length c,true,d,b,q,e,by simp,by simp[I9],.own true _ _ b c arr E Fs _ f hk Dv Ku dS hr LZ Bb Jf WT,g⟩
  . cases a
 |_=>simp[hs]at a
theorem KY {t:TypeId} {g:Bool} {n b off:Nat} {vs:List Value} (hn:GD P t=some n) (d:I2 P t=some g) (f:g=true∨n=1) (e:vs.length=n) (c:∀(j:Nat) v,vs[j]? =some v->w.cell? ⟨b,off+j,none⟩=some v):
 (loadVar t ⟨b,off,none⟩).run P w= .ok (if g=true then .agg vs.toArray else vs.headD undef) w:=by
 cases g with
 |true=>have:=run_loadCells_list (P:=P) w ⟨b,off,none⟩ vs (λj v h=>by rw[Addr.add_lit];exact c j v h);rw[e]at this;simp[loadVar,Pp d,run_sizeOf hn,this]
 |false=>
  obtain rfl:=f.resolve_left (by simp)
  match vs,e with
  |[v],_=>have a:=c 0 v rfl;simp only[Nat.add_zero]at a;simp[loadVar,Pp d,a]
theorem zK {agg:Bool} {n:Nat} {f:List AV} {v:AV} (a:IB agg n f=some v) (b:List DV) (e:b.map DV.er=f) (g:∀D∈b,Ok w S D (λ_=>False)) (h:∀D∈b,DQ δ D):
 f.length=n/\Lf w S δ v (if agg=true then .agg (b.map DV.A0).toArray else(b.map DV.A0).headD undef):=by
 unfold IB at a;split at a
 . rename_i hn;refine⟨hn,?_⟩;cases agg with
   |true=>simp only[AAo,AAG]at a;subst a;exact⟨.agg b,by simp[e],by simp,B0.2 (Ca g),.agg _ λi d hd=>h d (AAS hd)⟩
   |false=>
    simp only[AAQ,AAY]at a;split at a
    . rename_i c;simp only[AAG]at a;subst a
      match b,e with
      |[D],e=>simp only[AAb,AAy,ABc,and_true]at e;exact⟨D,e,by simp,g D (by simp),h D (by simp)⟩
    . cases a
 . cases a
theorem WN {a:AV} {v:Value} (h:Fz w S a v):∃D:DV,D.er=I3 a/\D.A0=v/\Ok w S D (λ_=>False)/\DQ δ D:=by
 cases h with
 |sc v hp=>exact⟨.lf (.sc v) v,by simp[I3],by simp,.lf _ _ _ ⟨rfl,hp⟩ (λ_ h=>h),.lf _ _ trivial⟩
 |nil x k a c hx=>exact⟨.lf (.sl x k []) _,by simp[I3],by simp,.lf _ _ _ (Fz.nil x k a c hx) (λ_ h=>h),.lf _ _ trivial⟩
 |sl x k rows b off c vs hx QY hS hk hc hr=>exact⟨.lf (.sl x k rows) _,by simp[I3],by simp,.lf _ _ _ (Fz.sl x k rows b off c vs hx QY hS hk hc hr) (λ_ h=>h),.lf _ _ trivial⟩
 |dead=>exact⟨.lf .dead v,by simp[I3],by simp,.lf _ _ _ trivial (λ_ h=>h),.lf _ _ trivial⟩
 |agg cs vs=>exact⟨.lf .dead _,by simp[I3],rfl,.lf _ _ _ trivial (λ_ h=>h),.lf _ _ trivial⟩
 |BT cs vs=>exact⟨.lf .dead _,by simp[I3],rfl,.lf _ _ _ trivial (λ_ h=>h),.lf _ _ trivial⟩
end Go.Abs
namespace Go.Abs
variable {w w':World} {S S':Nat->Prop} {G:Gi} {δ:Nat->DV} {Fr:Nat->Nat->Prop} {P:Program}
def Gives (P:Program) (w:World) (S:Nat->Prop) (δ:Nat->DV) (a:Act) (o:Oper) (v:AV):Prop:=
 ∃u,(execOp a.eval o).run P w= .ok (.value u) w/\Lf w S δ v u
theorem Rw (h:St G w S δ Fr) {a:Act} (k:Rd δ a) {o:Oper} {x:Operand} {y:Ar} (b:o.op= .move x∨o.op= .assign x) (l:CH x y=true) {v:AV} (d:valOf (.cp y) (λs=>(δ s).er)=some v):Gives P w S δ a o v:=by
 obtain⟨n,m⟩:=Ah l k;refine⟨C0 δ y,by rcases b with b|b<;>simp[execOp,b,m],?_⟩;cases y with
 |t s=>simp only[valOf,AAG]at d;subst d;obtain⟨D,e,f,g,j⟩:=viewD (δ:=δ) s (h.ok s) [] (by simp[Ao]) (h.al s);exact⟨D,e,f,g,j⟩
 |c c=>simp only[valOf,AAG]at d;subst d;obtain⟨D,i⟩:=n;obtain⟨e,f,g,_⟩:=ID (w:=w) (S:=S) (δ:=δ) c D i;exact⟨D,e,by simp[C0,i],f,g⟩
theorem kU (h:St G w S δ Fr) {a:Act} (f:Rd δ a) {o:Oper} {c x y:Operand} {c' m n:Ar} (j:o.op= .pick c x y) (r:CH c c'=true) (t:CH x m=true) (z:CH y n=true) {v:AV}
 (d:valOf (.pick c' m n) (λs=>(δ s).er)=some v):Gives P w S δ a o v:=by
 obtain⟨C,i⟩:=Ah r f;obtain⟨k,p⟩:=Ah t f;obtain⟨l,q⟩:=Ah z f;simp only[valOf]at d;split at d
 . rename_i b B;obtain⟨g,_⟩:=h.Ep C B;split at d
   . rename_i u e;simp only[AAG]at d;subst d;refine⟨u,?_,?_⟩
     . cases b with
       |true=>have:=(h.Ep k (by simpa using e)).1;simp[execOp,j,i,g,asBool,p,this]
       |false=>have:=(h.Ep l (by simpa using e)).1;simp[execOp,j,i,g,asBool,q,this]
     . cases b with
       |true=>exact Lf.sc u (h.Ep k (by simpa using e)).2
       |false=>exact Lf.sc u (h.Ep l (by simpa using e)).2
   . cases d
 . cases d
theorem lN {v:Value} {bx:Bool} {k:Nat} {rows:List (List DV)} {F:Nat->Prop} (h:Ok w S (.own v bx k rows) F) {r:Nat} {p:List Step} (G:Ao (δ r) p=some (.own v bx k rows)) {b:Nat} (C:Ry v=some b) {i:Nat} {f:List DV}
 (hi:rows[i]? =some f) (j n:Nat):
 ∃o:List DV,o.map DV.er=PQ r p i k j (((f.map DV.er).drop j).take n)/\(∀D∈o,Ok w S D (λ_=>False))/\(∀D∈o,DQ δ D)/\(∀(m:Nat) u,(o.map DV.A0)[m]? =some u->w.cell? ⟨b,i*k+j+m,none⟩=some u):=by
 generalize B:v=v' at h;cases h with
 |nil=>simp at hi
 |own _ _ _ b' c arr E Fs _ nS hk Dv Ku hv hr hd Bb Jf hF=>
  subst B;simp only[WX,AAG]at C;subst C;obtain⟨o,g,t⟩:=Kg ((f.drop j).take n) (λm d D=>D.er=vC r p i (j+m) k d.er/\D.A0=d.A0/\Ok w S D (λ_=>False)/\DQ δ D/\w.cell? ⟨b',i*k+j+m,none⟩=some D.A0) (by
   intro m d q;have y:f[j+m]? =some d:=by
    rw[ABH]at q;split at q
    . simpa using q
    . cases q
   have I:=hr i (j+m) f d hi y;have l:w.cell? ⟨b',i*k+j+m,none⟩=some d.A0:=by
    simp only[World.cell?,nS]
    have:=hv i (j+m) f d hi y;rw[show i*k+j+m=i*k+(j+m)from by omega];simpa using this
   cases I with
   |lf a v _ ha gF=>
    have g:=ha.C3;cases a with
    |sc u=>exact⟨.lf (.sc u) v,by simp[vC],by simp,.lf _ _ _ ha (λ_ h=>h),.lf _ _ trivial,l⟩
    |sl x k' rows'=>exact⟨.lf (.sl x k' rows') v,by simp[vC],by simp,.lf _ _ _ ha (λ_ h=>h),.lf _ _ trivial,l⟩
    |own=>simp[C3]at g
    |agg=>simp[C3]at g
    |BT=>simp[C3]at g
    |_=>exact⟨.lf .dead v,by simp[vC],by simp,.lf _ _ _ trivial (λ_ h=>h),.lf _ _ trivial,by simpa using l⟩
   |nil k' _ gF=>exact⟨.lf (.al r (p++[(i,j+m,k)])) (.slice none 0 0),by simp[vC],by simp,.lf _ _ _ trivial (λ_ h=>h),.lf _ _ ⟨false,k',[],by rw[Hx,G];simp[Ao,hi,y]⟩,by simpa using l⟩
   |own bC k' rows' b'' c' arr' E' Fs' _ g1 g2 g3 g4 g5 g6 g7 g8 g9 g10=>exact⟨.lf (.al r (p++[(i,j+m,k)])) (I9 bC b'' rows'.length c'),by simp[vC],by simp,.lf _ _ _ trivial (λ_ h=>h),.lf _ _ ⟨bC,k',rows',by rw[Hx,G];simp[Ao,hi,y]⟩,by simpa using l⟩
   |agg cs=>exact⟨.lf .dead (.agg (cs.map DV.A0).toArray),by simp[vC],by simp,.lf _ _ _ trivial (λ_ h=>h),.lf _ _ trivial,by simpa using l⟩
   |BT cs=>exact⟨.lf .dead (.tuple (cs.map DV.A0).toArray),by simp[vC],by simp,.lf _ _ _ trivial (λ_ h=>h),.lf _ _ trivial,by simpa using l⟩)
  refine⟨o,?_,?_,?_,?_⟩
  . refine map_mk g t _ _ (by simp[aV]) λm d D e q=> ?_;rw[uI,← ABg,← ABX,AAR,q];simp[e.1]
  . intro D s;obtain⟨m,z⟩:=AAj s;obtain⟨c,_,e⟩:=mem_mk g t m D z;exact e.2.2.1
  . intro D s;obtain⟨m,z⟩:=AAj s;obtain⟨c,_,e⟩:=mem_mk g t m D z;exact e.2.2.2.1
  . intro m u H;rw[AAR,AAi]at H;obtain⟨D,s,rfl⟩:=H;obtain⟨c,_,e⟩:=mem_mk g t m D s;exact e.2.2.2.2
theorem Q6 (h:St G w S δ Fr) {s:Nat} {x:List AV} (e:(δ s).er= .agg x) {agg:Bool} {n off:Nat} {v:AV} (I:IB agg n (ME s off ((x.drop off).take n))=some v):
 ∃vals:List Value,(δ s).A0= .agg vals.toArray/\((vals.drop off).take n).length=n/\Lf w S δ v (if agg=true then .agg ((vals.drop off).take n).toArray else((vals.drop off).take n).headD undef):=by
 obtain⟨ds,z,H⟩:∃ds,δ s= .agg ds/\ds.map DV.er=x:=by
  have:=(h.ok s).KU;cases hd:δ s with
  |agg ds=>rw[hd]at e;simp at e;exact⟨ds,rfl,e⟩
  |lf c v=>rw[hd]at e this;cases this with|lf _ _ j=>simp at e;subst e;simp[C3]at j
  |own=>rw[hd]at e;simp at e
  |BT=>rw[hd]at e;simp at e
 have C:=h.ok s;have q:=h.al s;rw[z]at C q;cases C with
 |agg _ Fs _ hr LZ Bb hF=>
  cases q with
  |agg _ q=>
   obtain⟨y,j,r⟩:=Kg ((ds.drop off).take n) (λm d D=>D.er=vF s (off+m) d.er/\D.A0=d.A0/\Ok w S D (λ_=>False)/\DQ δ D) (by
    intro m d f;have hd:ds[off+m]? =some d:=by
     rw[ABH]at f;split at f
     . rw[List.getElem?_drop]at f;exact f
     . cases f
    have g:=hr _ d hd;have o:=q _ d hd;cases d with
    |lf a u=>
     have t:=g.KU;cases t with
     |lf _ _ dK=>
      cases g with
      |lf _ _ _ ha WT=>refine⟨.lf a u,?_,rfl,.lf _ _ _ ha (λ_ h=>h),o⟩;simp only[El];cases a<;>simp_all [vF,C3]
    |own u bx k rows=>refine⟨.lf (.al s [(0,off+m,0)]) u,by simp[vF],by simp,.lf _ _ _ trivial (λ_ h=>h),.lf _ _ ⟨bx,k,rows,by simp[Ao,z,hd]⟩⟩
    |agg l=>exact⟨.lf .dead (DV.agg l).A0,by simp[vF],by simp,.lf _ _ _ trivial (λ_ h=>h),.lf _ _ trivial⟩
    |BT l=>exact⟨.lf .dead (DV.BT l).A0,by simp[vF],by simp,.lf _ _ _ trivial (λ_ h=>h),.lf _ _ trivial⟩)
   have F:y.map DV.er=ME s off ((x.drop off).take n):=map_mk j r _ _ (by rw[aW,← H];simp) λi d D b hd=>(by rw[uJ,← H,← ABg,← ABX,AAR,hd,b.1];rfl);have E:y.map DV.A0=((ds.map DV.A0).drop off).take n:=map_mk j r _ _ (by simp) λi d D b hd=>(by rw[← ABg,← ABX,AAR,hd,b.2.1];rfl);obtain⟨p,t⟩:=zK (w:=w) (S:=S) (δ:=δ) I y F (λD B=>by obtain⟨m,f⟩:=AAj B;obtain⟨c,_,b⟩:=mem_mk j r m D f;exact b.2.2.1)
    (λD B=>by obtain⟨m,f⟩:=AAj B;obtain⟨c,_,b⟩:=mem_mk j r m D f;exact b.2.2.2)
   refine⟨ds.map DV.A0,by rw[z];simp,?_,?_⟩
   . rw[← E,AAn]
     have:=congrArg List.length F;rw[AAn]at this;rw[this,p]
   . rw[E]at t;exact t
theorem Rx (h:St G w S δ Fr) {a:Act} (ha:Rd δ a) {o:Oper} {t:TypeId} {x:Operand} {g:Bool} {n:Nat} {y:Ar} (ho:o.op= .load t x) (hn:GD P t=some n) (hg:I2 P t=some g) (J:g=true∨n=1) (U:CH x y=true) {v:AV}
 (d:valOf (.ld g n y) (λs=>(δ s).er)=some v):Gives P w S δ a o v:=by
 obtain⟨hy,he⟩:=Ah U ha;cases y with
 |c c=>simp[valOf]at d
 |t s=>
  have key:∀(b off:Nat) (f:List DV),(δ s).A0= .pointer (some ⟨b,off,none⟩)->IB g n (f.map DV.er)=some v->(∀D∈f,Ok w S D (λ_=>False))->(∀D∈f,DQ δ D)->
   (∀(m:Nat) u,(f.map DV.A0)[m]? =some u->w.cell? ⟨b,off+m,none⟩=some u)->Gives P w S δ a o v:=by
   intro b off f C Ta O GG H;obtain⟨l,Q⟩:=zK Ta f rfl O GG;refine⟨_,?_,Q⟩
   have:=KY (P:=P) (w:=w) (b:=b) (off:=off) (vs:=f.map DV.A0) hn hg J (by simpa using l) H;simp only[execOp,ho,he,C0,C,Instr.loadAt,Instr.sureAddr,Sem.run_bind,Sem.run_pure,Result.andThen_ok,this]
  simp only[valOf]at d;cases hs:(δ s).er with
  |fp cs=>
   simp only[hs]at d;obtain⟨_,I,_⟩:=h.leaf hs rfl;obtain⟨b,off,C,hS,H⟩:=I;obtain⟨f,M,L⟩:=Kg (cs.take n) (λm c D=>D.er=I3 c/\w.cell? ⟨b,off+m,none⟩=some D.A0/\Ok w S D (λ_=>False)/\DQ δ D) (by
    intro m c B;rw[ABH]at B;split at B
    . obtain⟨u,N,hf⟩:=H m c B;obtain⟨D,E,I,R,T⟩:=WN (δ:=δ) hf;exact⟨D,E,by rw[I];exact N,R,T⟩
    . cases B)
   refine key b off f C ?_ ?_ ?_ ?_
   . rw[← d];congr 1;exact map_mk M L _ _ (by simp) λi c D e U=>by simp only[AAR,U,AAk,e.1]
   . intro D z;obtain⟨m,B⟩:=AAj z;obtain⟨c,_,e⟩:=mem_mk M L m D B;exact e.2.2.1
   . intro D z;obtain⟨m,B⟩:=AAj z;obtain⟨c,_,e⟩:=mem_mk M L m D B;exact e.2.2.2
   . intro m u N;rw[AAR,AAi]at N;obtain⟨D,z,rfl⟩:=N;obtain⟨c,_,e⟩:=mem_mk M L m D z;exact e.2.1
  |vb q off us=>
   simp only[hs]at d;obtain⟨_,⟨b,C,hS,H⟩,DU⟩:=h.leaf hs rfl;split at d
   . rename_i cs hq;obtain⟨vals,X,l,Q⟩:=Q6 h hq d;have W:vals=us:=by
      have E:(δ q).A0= .agg us.toArray:=DU;rw[X,Value.agg.injEq]at E
      have:=congrArg Array.toList E;simpa using this
     subst W;refine⟨_,?_,Q⟩
     have:=KY (P:=P) (w:=w) (b:=b) (off:=off) (vs:=(vals.drop off).take n) hn hg J l (λj v K=>by
      rw[ABH]at K;split at K
      . rw[List.getElem?_drop]at K;exact H _ v K
      . cases K)
     simp only[execOp,ho,he,C0,C,Instr.loadAt,Instr.sureAddr,Sem.run_bind,Sem.run_pure,Result.andThen_ok,this]
   . cases d
  |_=>
   simp only[hs]at d;split at d
   . rename_i r p i j k Un;obtain⟨vh,bx,Ak,b,F,Z,hb,C,O,_⟩:=h.D9 Un;split at d
     . rename_i bC k' rows rU;obtain⟨D,z,E4⟩:=Dj (h.ok r).KU rU;rw[Z]at z;obtain rfl:=AAJ z;simp only[EN,AV.own.injEq]at E4;obtain⟨rfl,rfl,rfl⟩:=E4;split at d
       . rename_i row Du;rw[AAR,AAi]at Du;obtain⟨IL,V,rfl⟩:=Du;obtain⟨f,E,I,R,T⟩:=lN O Z hb V j n;exact key b (i*k+j) f C (by rw[E];exact d) I R T
       . cases d
     . cases d
   . cases d
end Go.Abs
namespace Go.Abs
variable {w w':World} {S S':Nat->Prop} {G:Gi} {δ:Nat->DV} {Fr:Nat->Nat->Prop} {P:Program}
theorem Lz {t:TypeId} {c:Array Field} {f:Nat} {a:Field} {n:Nat} (g:P.underlying t=some (.struct c)) (e:c[f]? =some a) (hn:GD P a.type=some n) (d:n≠0) (b off:Nat) (w:World):
 (Instr.fieldAt t (.pointer (some ⟨b,off,none⟩)) f).run P w= .ok (.pointer (some ⟨b,off+a.offset,none⟩)) w:=by
 simp[Instr.fieldAt,underlying,g,e,Instr.sureAddr,fieldPlace,run_sizeOf hn,d,Addr.add_lit]
theorem Yu (h:St G w S δ Fr) {a:Act} (N:Rd δ a) {o:Oper} {t:TypeId} {x:Operand} {f off:Nat} {y:Ar} (C:o.op= .fieldAddr t x f) {E:Array Field} {e:Field} {n:Nat} (D:P.underlying t=some (.struct E)) (B:E[f]? =some e) (K:e.offset=off)
 (hn:GD P e.type=some n) (m:n≠0) (Q:CH x y=true) {v:AV} (d:valOf (.UG off y) (λs=>(δ s).er)=some v):Gives P w S δ a o v:=by
 obtain⟨U,z⟩:=Ah Q N;subst K;cases y with
 |c c=>simp[valOf]at d
 |t s=>
  simp only[valOf]at d;cases hs:(δ s).er with
  |fp cs=>
   simp only[hs,AAG]at d;subst d;obtain⟨_,M,_⟩:=h.leaf hs rfl;obtain⟨b,off,g,u,l⟩:=M;refine⟨.pointer (some ⟨b,off+e.offset,none⟩),?_,Lf.fp u λj a H=> ?_⟩
   . simp only[execOp,C,z,C0,g,Sem.run_bind,Lz D B hn m,Result.andThen_ok,Sem.run_pure]
   . rw[List.getElem?_drop]at H;rw[show off+e.offset+j=off+(e.offset+j)from by omega];exact l _ a H
  |vb q o us=>simp only[hs,AAG]at d;subst d;obtain⟨_,⟨b,g,u,l⟩,J⟩:=h.leaf hs rfl;refine⟨.pointer (some ⟨b,o+e.offset,none⟩),?_,⟨.lf (.vb q (o+e.offset) us) _,by simp,by simp,.lf _ _ _ ⟨b,rfl,u,l⟩ (λ_ h=>h),.lf _ _ J⟩⟩;simp only[execOp,C,z,C0,g,Sem.run_bind,Lz D B hn m,Result.andThen_ok,Sem.run_pure]
  |_=>
   simp only[hs]at d;split at d
   . rename_i r p i j k L;simp only[AAG]at d;subst d;obtain⟨V,bx,R,b,F,I,O,g,T,_⟩:=h.D9 L;refine⟨.pointer (some ⟨b,i*k+(j+e.offset),none⟩),?_,Lf.KJ I O⟩;simp only[execOp,C,z,C0,g,Sem.run_bind,Lz D B hn m,Result.andThen_ok,Sem.run_pure,Nat.add_assoc]
   . cases d
theorem run_indexAt_slice {t e:TypeId} {k:Nat} (g:P.underlying t=some (.slice e)) (f:GD P e=some k) {b off len c:Nat} {h:IntKind} {n:Int} (a:0≤n) (d:n<len) (w:World):
 (Instr.indexAt t (.slice (some ⟨b,off,none⟩) len c) (.int h n)).run P w= .ok (.pointer (some ⟨b,off+n.toNat*k,none⟩)) w:=by
 simp[Instr.indexAt,asIntOf,underlying,g,a,d,run_sizeOf f,Addr.add_lit]
theorem St.nV (h:St G w S δ Fr) {x:Ar} (C:Vm x) {n:AV} {u:ABh (Nat×List Step)} (d:hd (λs=>(δ s).er) x=some (n,u)):
 (∀b k rows,n= .own b k rows->∃g F,g.map (·.map DV.er)=rows/\Ok w S (.own (C0 δ x) b k g) F/\∀r p,u=some (r,p)->Ao (δ r) p=some (.own (C0 δ x) b k g))/\
 (∀e k rows,n= .sl e k rows->(∃s,x= .t s/\(δ s).er= .sl e k rows)->Fz w S (.sl e k rows) (C0 δ x)):=by
 cases x with
 |c c=>
  obtain⟨D,q⟩:=C;obtain⟨f,j,o,_⟩:=ID (w:=w) (S:=S) (δ:=δ) c D q;constructor
  . rintro b k rows rfl;simp only[hd]at d;split at d
    . simp only[AAG,AAU,AV.own.injEq]at d;obtain⟨⟨rfl,rfl,rfl⟩,rfl⟩:=d;cases D with
      |own v b' k'' g=>simp only[EN,AV.own.injEq]at f;obtain⟨rfl,rfl,l⟩:=f;exact⟨g,_,l,by simpa[C0,q]using j,by simp⟩
      |lf a v=>simp only[El]at f;subst f;cases j with|lf _ _ _ ha _=>exact ha.elim
      |agg=>simp at f
      |BT=>simp at f
    . cases d
  . rintro e k rows rfl ⟨s,i,_⟩;cases i
 |t s=>
  simp only[hd]at d;constructor
  . rintro b k rows rfl;cases i:(δ s).er with
    |al r p=>
     simp only[i]at d;split at d
     . rename_i E hn;simp only[AAG,AAU]at d;obtain⟨rfl,rfl⟩:=d;obtain⟨g,F,f,j,o⟩:=h.node i hn;exact⟨g,F,j,o,by rintro H p' ⟨⟩;exact f⟩
     . cases d
    |own b' k' rows'=>
     simp only[i,AAG,AAU]at d;obtain⟨f,rfl⟩:=d;obtain⟨g,m,B⟩:=h.W0 (i.trans f);refine⟨g,Fr s,B,?_,?_⟩
     . have:=h.ok s;rw[m]at this;simpa[C0]using this
     . rintro r p ⟨⟩;simpa[Ao,C0]using m
    |sl e' k' rows'=>simp only[i,AAG,AAU]at d;exact absurd d.1 (by simp)
    |_=>simp[i]at d
  . rintro e k rows rfl ⟨I,y,z⟩;cases y;exact(h.leaf z rfl).2.1
theorem Yv (h:St G w S δ Fr) {a:Act} (O:Rd δ a) {o:Oper} {t e:TypeId} {x i:Operand} {k:Nat} {y j:Ar} (U:o.op= .indexAddr t x i) (V:P.underlying t=some (.slice e)) (T:GD P e=some k) (hc:CH x y=true) (LC:CH i j=true) {v:AV}
 (g:valOf (.Va k y j) (λs=>(δ s).er)=some v):Gives P w S δ a o v:=by
 obtain⟨L,Q⟩:=Ah hc O;obtain⟨R,q⟩:=Ah LC O;simp only[valOf]at g;split at g
 . rename_i l rows r p n d hn;split at g
   . rename_i B;obtain⟨rfl,H,I⟩:=B;simp only[AAG]at g;subst g;obtain⟨kk,hn⟩:=NF hn;obtain⟨C,_⟩:=h.Ep R hn;obtain⟨N,F,z,X,Tl⟩:=(h.nV L d).1 _ _ _ rfl;have W:=Tl r p rfl;generalize C0 δ y=vh at*;have f:N.length=rows.length:=(by rw[← z];simp);cases X with
     |nil=>simp at f;rw[← f]at I;simp at I;omega
     |own _ _ _ b c arr E Fs _ hb Wc Dv Ku dS hr LZ Bb Jf hF=>refine⟨.pointer (some ⟨b,n.toNat*l+0,none⟩),?_,Lf.KJ W (by simp)⟩;simp only[execOp,U,Q,q,C,I9,Sem.run_bind,AAQ,AAY,run_indexAt_slice V T H (show n<(N.length:Nat)by rw[f];exact I),Result.andThen_ok,Sem.run_pure];simp
   . cases g
 . rename_i ee l rows pl n d hn;split at g
   . rename_i B;obtain⟨rfl,H⟩:=B;obtain⟨kk,hn⟩:=NF hn;obtain⟨C,_⟩:=h.Ep R hn;rw[AAi]at g;obtain⟨row,u,rfl⟩:=g;have K:∃s,y= .t s/\(δ s).er= .sl ee l rows:=by
      cases y with
      |c c=>
       obtain⟨D,J⟩:=L;simp only[hd]at d;split at d
       . simp at d
       . cases d
      |t s=>
       refine⟨s,rfl,?_⟩;simp only[hd]at d;cases hs:(δ s).er with
       |sl e2 k2 IV=>simp only[hs,AAG,AAU]at d;exact d.1
       |al r p=>
        simp only[hs]at d;split at d
        . rename_i n' rU;simp only[AAG,AAU]at d;obtain⟨rfl,_⟩:=d
          -- an alias names a node
          obtain⟨_,_,GG⟩:=h.leaf hs rfl;obtain⟨bC,k2,M,hl⟩:=GG;obtain⟨D,J,Z⟩:=Dj (h.ok r).KU rU;rw[hl]at J;obtain rfl:=AAJ J;simp at Z
        . cases d
       |own=>simp[hs]at d
       |_=>simp[hs]at d
     have My:=(h.nV L d).2 _ _ _ rfl K;have Df:n.toNat<rows.length:=(AAI.1 u).1;generalize C0 δ y=vh at*;cases My with
     |nil=>simp at u
     |sl _ _ _ b off c vs hx QY hS Wc Bo hr=>
      refine⟨.pointer (some ⟨b,off+n.toNat*l,none⟩),?_,Lf.fp hS λm a z=> ?_⟩
      . simp only[execOp,U,Q,q,C,Sem.run_bind,run_indexAt_slice V T H (show n<(rows.length:Nat)by omega),Result.andThen_ok,Sem.run_pure]
      . refine⟨vs n.toNat m,?_,hr _ _ _ _ u z⟩
        have:=Bo _ _ _ _ u z;rw[show off+n.toNat*l+m=off+(n.toNat*l+m)from by omega];exact this
   . cases g
 . cases g
theorem rG (h:St G w S δ Fr) {a:Act} (z:Rd δ a) {o:Oper} {op:BinOp} {t u:TypeId} {x y:Operand} {D E:Ar} (p:o.op= .binOp op t x y u) (H:CH x D=true) (F:CH y E=true) {v:AV}
 (b:valOf (.bin op D E) (λs=>(δ s).er)=some v):Gives P w S δ a o v:=by
 obtain⟨B,g⟩:=Ah H z;obtain⟨C,i⟩:=Ah F z;simp only[valOf]at b;unfold binF at b;split at b
 . rename_i k n K m j l;obtain⟨d,_⟩:=h.Ep B j;obtain⟨e,_⟩:=h.Ep C l;split at b
   . rename_i I;subst I;rw[AAi]at b;obtain⟨q,c,rfl⟩:=b;have f:(eqGuard op t x y (.int k n) (.int k m)).run P w= .ok () w:=(by cases op<;>simp[eqGuard]);have J:(binOp op t (.int k n) (.int k m)).run P w= .ok q w:=by
      cases op<;>simp[binI]at c<;>first
       | (subst c;simp[binOp,Op.intArith,Op.intCmp];done)
       | (obtain⟨r,rfl⟩:=c;simp[binOp,Op.intDiv,r];done)
     refine⟨q,?_,Lf.sc q ?_⟩
     . simp only[execOp,p,g,i,d,e,Sem.run_bind,f,J,Result.andThen_ok,Sem.run_pure]
     . cases op<;>simp[binI]at c<;>first
        | (subst c;rfl)
        | (obtain⟨r,rfl⟩:=c;rfl)
   . cases b
 . rename_i n m j l;obtain⟨d,_⟩:=h.Ep B j;obtain⟨e,_⟩:=h.Ep C l;have f:∀op,(eqGuard op t x y (.string n) (.string m)).run P w= .ok () w:=(by intro op;cases op<;>simp[eqGuard]);split at b
   . simp only[AAG]at b;subst b;refine⟨_,?_,Lf.sc _ rfl⟩;simp only[execOp,p,g,i,d,e,Sem.run_bind,f,Result.andThen_ok];simp[binOp,Op.stringOp]
   . simp only[AAG]at b;subst b;refine⟨_,?_,Lf.sc _ rfl⟩;simp only[execOp,p,g,i,d,e,Sem.run_bind,f,Result.andThen_ok];simp[binOp,Op.stringOp]
   . cases b
 . cases b
theorem rF (h:St G w S δ Fr) {a:Act} (j:Rd δ a) {o:Oper} {op:BinOp} {t u:TypeId} {x y:Operand} {q r:Ar} {b:Bool} (l:o.op= .binOp op t x y u) (d:op=if b=true then .neq else .eql) (p:P.underlying t=some .bool) (D:CH x q=true) (z:CH y r=true) {v:AV}
 (c:valOf (.beq b q r) (λs=>(δ s).er)=some v):Gives P w S δ a o v:=by
 obtain⟨E,g⟩:=Ah D j;obtain⟨F,i⟩:=Ah z j;simp only[valOf]at c;split at c
 . rename_i n m B C;obtain⟨e,_⟩:=h.Ep E B;obtain⟨f,_⟩:=h.Ep F C;simp only[AAG]at c;subst c;refine⟨_,?_,Lf.sc _ rfl⟩;have k:∀op,(eqGuard op t x y (.bool n) (.bool m)).run P w= .ok () w:=(by intro op;cases op<;>simp[eqGuard]);cases b with
   |true=>simp only[AAo]at d;subst d;simp only[execOp,l,g,i,e,f,Sem.run_bind,k,Result.andThen_ok,run_neq_bool w t n m p,Sem.run_pure,AAo]
   |false=>simp only[AAQ,AAY]at d;subst d;simp only[execOp,l,g,i,e,f,Sem.run_bind,k,Result.andThen_ok,run_eql_bool w t n m p,Sem.run_pure,AAQ,AAY]
 . cases c
theorem zM (h:St G w S δ Fr) {a:Act} (j:Rd δ a) {o:Oper} {op:UnOp} {t:TypeId} {x:Operand} {i:Ar} (f:o.op= .unOp op t x) (l:CH x i=true) {v:AV} (b:valOf (.un op i) (λs=>(δ s).er)=some v):Gives P w S δ a o v:=by
 obtain⟨g,e⟩:=Ah l j;simp only[valOf]at b;unfold unF at b;split at b
 . rename_i n d;obtain⟨c,_⟩:=h.Ep g d;split at b
   . simp only[AAG]at b;subst b;exact⟨_,by simp[execOp,f,e,c,Op.unary],Lf.sc _ rfl⟩
   . cases b
 . rename_i k n d;obtain⟨c,_⟩:=h.Ep g d;split at b
   . simp only[AAG]at b;subst b;exact⟨.int k (k.wrap (0-n)),by simp[execOp,f,e,c,Op.unary,Op.intArith],Lf.sc _ rfl⟩
   . cases b
 . cases b
theorem rH (h:St G w S δ Fr) {a:Act} (i:Rd δ a) {o:Oper} {s d:TypeId} {k q:IntKind} {x:Operand} {c:Ar} (l:o.op= .convert s d x) (m:P.underlying s=some (.int q)) (hd:P.underlying d=some (.int k)) (j:CH x c=true) {v:AV} (b:valOf (.cvt k c) (λs=>(δ s).er)=some v):Gives P w S δ a o v:=by
 obtain⟨p,f⟩:=Ah j i;simp only[valOf]at b;split at b
 . rename_i r n g;obtain⟨e,_⟩:=h.Ep p g;simp only[AAG]at b;subst b;exact⟨.int k (k.wrap n),by simp[execOp,l,f,e,convert,underlying,m,hd,Conv.intToInt],Lf.sc _ rfl⟩
 . cases b
end Go.Abs
namespace Go.Abs
variable {w w':World} {S S':Nat->Prop} {G:Gi} {δ:Nat->DV} {Fr:Nat->Nat->Prop} {P:Program}
theorem ZH {v:Value} {k:Nat} {rows:List (List DV)} {F:Nat->Prop} (h:Ok w S (.own v false k rows) F):∃a c,v= .slice a rows.length c:=by
 cases h with
 |nil=>exact⟨none,0,rfl⟩
 |own _ _ _ b c=>exact⟨some ⟨b,0,none⟩,c,by simp[I9]⟩
theorem Oc {v:Value} {e:Bool} {k:Nat} {rows:List (List AV)} (h:Fz w S (.sl e k rows) v):∃a c,v= .slice a rows.length c:=by
 cases h with
 |nil _ _ a c=>exact⟨a,c,rfl⟩
 |sl _ _ _ b off c=>exact⟨_,c,rfl⟩
theorem St.hdSl (h:St G w S δ Fr) {x:Ar} (j:Vm x) {e:Bool} {k:Nat} {rows:List (List AV)} {m:ABh (Nat×List Step)} (a:hd (λs=>(δ s).er) x=some (.sl e k rows,m)):
 ∃s,x= .t s/\(δ s).er= .sl e k rows:=by
 cases x with
 |c c=>
  obtain⟨D,b⟩:=j;simp only[hd]at a;split at a
  . simp at a
  . cases a
 |t s=>
  refine⟨s,rfl,?_⟩;simp only[hd]at a;cases hs:(δ s).er with
  |sl e2 l IV=>simp only[hs,AAG,AAU]at a;exact a.1
  |al r p=>
   simp only[hs]at a;split at a
   . rename_i q n;simp only[AAG,AAU]at a;obtain⟨rfl,_⟩:=a;obtain⟨_,_,g⟩:=h.leaf hs rfl;obtain⟨o,l,d,i⟩:=g;obtain⟨D,b,f⟩:=Dj (h.ok r).KU n;rw[i]at b;obtain rfl:=AAJ b;simp at f
   . cases a
  |own=>simp[hs]at a
  |_=>simp[hs]at a
theorem run_len_slice {t:TypeId} (a:ABh Addr) (n c:Nat) (d:∃e,P.underlying t=some (.slice e)) (ty:TypeId) (w:World):
 (Builtin.len_ #[t] ty #[.slice a n c]).run P w= .ok (.int .i64 n) w:=by
 obtain⟨e,b⟩:=d;simp[Builtin.len_,underlying,b,goInt]
theorem rL (h:St G w S δ Fr) {a:Act} (D:Rd δ a) {o:Oper} {c:Call} {x:Operand} {t:TypeId} {m:Ar} (I:o.op= .call c) (u:c.callee= .builtin .len) (r:c.args.toList=[x]) (j:c.argTypes.toList=[t])
 (J:(∃e,P.underlying t=some (.slice e))) (E:CH x m=true) {v:AV} (d:valOf (.len m) (λs=>(δ s).er)=some v):Gives P w S δ a o v:=by
 obtain⟨l,C⟩:=Ah E D;have z:c.args= #[x]:=by apply ABS;simpa using r
 have B:c.argTypes= #[t]:=by apply ABS;simpa using j
 have key:∀(b:ABh Addr) (n cc:Nat),C0 δ m= .slice b n cc->v= .sc (.int .i64 n)->Gives P w S δ a o v:=by
  rintro b n cc g rfl;refine⟨.int .i64 n,?_,Lf.sc _ rfl⟩
  have:=run_len_slice (P:=P) b n cc J o.type w;simp only[execOp,I,resolve,u,z,B,invoke,builtin,Sem.run_bind,Sem.run_pure,Result.andThen_ok,List.map_toArray,AAb,AAy,C,g,this]
 simp only[valOf]at d;split at d
 . rename_i k rows K f;simp only[AAG]at d;obtain⟨p,F,H,q,_⟩:=(h.nV l f).1 _ _ _ rfl;obtain⟨b,cc,i⟩:=ZH q;refine key b p.length cc i ?_;rw[← d,← H];simp
 . rename_i e k rows K f;simp only[AAG]at d;have y:=(h.nV l f).2 _ _ _ rfl (h.hdSl l f);obtain⟨b,cc,i⟩:=Oc y;exact key b rows.length cc i d.symm
 . cases d
theorem kX (h:St G w S δ Fr) {a:Act} (m:Rd δ a) {o:Oper} {c:Call} {x:Operand} {t:TypeId} {e:Ar} (p:o.op= .call c) (g:c.callee= .builtin .len) (f:c.args.toList=[x]) (d:c.argTypes.toList=[t])
 (r:P.underlying t=some .string) (n:CH x e=true) {v:AV} (b:valOf (.YU e) (λs=>(δ s).er)=some v):Gives P w S δ a o v:=by
 obtain⟨u,l⟩:=Ah n m;have i:c.args= #[x]:=by apply ABS;simpa using f
 have j:c.argTypes= #[t]:=by apply ABS;simpa using d
 simp only[valOf]at b;split at b
 . rename_i s q;simp only[AAG]at b;subst b;obtain⟨k,_⟩:=h.Ep u q;refine⟨.int .i64 s.size,?_,Lf.sc _ rfl⟩;simp only[execOp,p,resolve,g,i,j,invoke,builtin,Sem.run_bind,Sem.run_pure,Result.andThen_ok,List.map_toArray,AAb,AAy,l,k];simp[Builtin.len_,underlying,r,goInt]
 . cases b
theorem rI (h:St G w S δ Fr) {a:Act} (y:Rd δ a) {o:Oper} {x:Operand} {i:Nat} {j:Ar} (C:o.op= .extract x i) (z:CH x j=true) {v:AV} (e:valOf (.ext j i) (λs=>(δ s).er)=some v):Gives P w S δ a o v:=by
 obtain⟨E,n⟩:=Ah z y;cases j with
 |c c=>simp[valOf]at e
 |t s=>
  simp only[valOf]at e;split at e
  . rename_i m b;split at e
    . rename_i c l;simp only[AAG]at e;subst e;obtain⟨ds,g,B⟩:∃ds,δ s= .BT ds/\ds.map DV.er=m:=by
       have:=(h.ok s).KU;cases hd:δ s with
       |BT ds=>rw[hd]at b;simp at b;exact⟨ds,rfl,b⟩
       |lf c v=>rw[hd]at b this;cases this with|lf _ _ hl=>simp at b;subst b;simp[C3]at hl
       |own=>rw[hd]at b;simp at b
       |agg=>rw[hd]at b;simp at b
      rw[← B,AAR,AAi]at l;obtain⟨d,hd,rfl⟩:=l;have k:=h.ok s;have f:=h.al s;rw[g]at k f;cases k with
      |BT _ Fs _ hr LZ Bb hF=>
       cases f with
       |BT _ f=>obtain⟨D,p,q,r,u⟩:=viewD (δ:=δ) s (hr i d hd) [(0,i,0)] (by simp[Ao,g,hd]) (f i d hd);refine⟨d.A0,?_,D,p,q,r,u⟩;have:(ds.map DV.A0).toArray[i]? =some d.A0:=(by simp[hd]);simp only[execOp,C,n,C0,g,Kr,Instr.extract,Sem.run_bind,this,Sem.run_pure,Result.andThen_ok]
    . cases e
  . cases e
theorem run_indexAt_array {t e:TypeId} {len k:Nat} (f:P.underlying t=some (.array len e)) (d:GD P e=some k) {b off:Nat} {g:IntKind} {n:Int} (a:0≤n) (c:n<len) (w:World):
 (Instr.indexAt t (.pointer (some ⟨b,off,none⟩)) (.int g n)).run P w= .ok (.pointer (some ⟨b,off+n.toNat*k,none⟩)) w:=by
 simp[Instr.indexAt,asIntOf,underlying,f,a,c,run_sizeOf d,Addr.add_lit,Instr.sureAddr]
theorem rE (h:St G w S δ Fr) {a:Act} (z:Rd δ a) {o:Oper} {t e:TypeId} {x i:Operand} {len k:Nat} {y j:Ar} (E:o.op= .indexAddr t x i) (H:P.underlying t=some (.array len e)) (C:GD P e=some k) (T:CH x y=true) (L:CH i j=true) {v:AV}
 (d:valOf (.aad len k y j) (λs=>(δ s).er)=some v):Gives P w S δ a o v:=by
 obtain⟨Z,B⟩:=Ah T z;obtain⟨U,f⟩:=Ah L z;cases y with
 |c c=>simp[valOf]at d
 |t s=>
  simp only[valOf]at d;split at d
  . rename_i s' n g hn;simp only[Ar.t.injEq]at g;subst g;split at d
    . rename_i K;obtain⟨q,u⟩:=K;obtain⟨kk,hn⟩:=NF hn;obtain⟨N,_⟩:=h.Ep U hn;rw[N]at f;cases hs:(δ s).er with
      |fp cs=>
       simp only[hs,AAG]at d;subst d;obtain⟨_,O,_⟩:=h.leaf hs rfl;obtain⟨b,off,l,Q,I⟩:=O;refine⟨.pointer (some ⟨b,off+n.toNat*k,none⟩),?_,Lf.fp Q λm a D=> ?_⟩
       . simp only[execOp,E,B,f,C0,l,Sem.run_bind,run_indexAt_array H C q u,Result.andThen_ok,Sem.run_pure]
       . rw[List.getElem?_drop]at D;rw[show off+n.toNat*k+m=off+(n.toNat*k+m)from by omega];exact I _ a D
      |_=>
       simp only[hs]at d;split at d
       . rename_i r p i j V M;simp only[AAG]at d;subst d;obtain⟨vh,bx,W,b,F,J,R,l,X,_⟩:=h.D9 M;refine⟨.pointer (some ⟨b,i*V+(j+n.toNat*k),none⟩),?_,Lf.KJ J R⟩;simp only[execOp,E,B,f,C0,l,Sem.run_bind,run_indexAt_array H C q u,Result.andThen_ok,Sem.run_pure,Nat.add_assoc]
       . cases d
    . cases d
  . cases d
theorem Xa {t:TypeId} {g:Bool} {n off:Nat} {vals:List Value} (hn:GD P t=some n) (b:I2 P t=some g) (c:g=true∨n=1) (a:((vals.drop off).take n).length=n):
 (part t vals.toArray off).run P w= .ok (if g=true then .agg ((vals.drop off).take n).toArray else((vals.drop off).take n).headD undef) w:=by
 cases g with
 |true=>
  have e:vals.toArray.extract off (off+n)=((vals.drop off).take n).toArray:=by apply ABS;simp[List.extract_eq_take_drop]
  simp[part,Pp b,run_sizeOf hn,e]
 |false=>
  obtain rfl:=c.resolve_left (by simp)
  match hd:(vals.drop off).take 1,a with
  |[v],_=>have d:vals[off]? =some v:=(by have:((vals.drop off).take 1)[0]? =some v:=(by rw[hd];rfl);simpa using this);simp[part,Pp b,d]
theorem rJ (h:St G w S δ Fr) {a:Act} (m:Rd δ a) {o:Oper} {t:TypeId} {x:Operand} {f:Nat} {agg:Bool} {off n:Nat} {y:Ar} {i:Array Field} {e:Field} (z:o.op= .field t x f) (C:P.underlying t=some (.struct i)) (r:i[f]? =some e) (j:e.offset=off)
 (hn:GD P e.type=some n) (u:I2 P e.type=some agg) (l:agg=true∨n=1) (p:CH x y=true) {v:AV} (d:valOf (.fld agg off n y) (λs=>(δ s).er)=some v):Gives P w S δ a o v:=by
 obtain⟨E,q⟩:=Ah p m;cases y with
 |c c=>simp[valOf]at d
 |t s=>
  simp only[valOf]at d;split at d
  . rename_i D B;obtain⟨vals,g,b,k⟩:=Q6 h B d;refine⟨_,?_,k⟩
    have:=Xa (w:=w) hn u l b;simp only[execOp,z,q,C0,g,Instr.field,run_underlying C,r,asAgg,j,Sem.run_bind,Sem.run_pure,Result.andThen_ok,this]
  . cases d
theorem rK (h:St G w S δ Fr) {a:Act} (m:Rd δ a) {o:Oper} {t e:TypeId} {x i:Operand} {agg:Bool} {len k:Nat} {y j:Ar} (H:o.op= .index t x i) (J:P.underlying t=some (.array len e)) (p:GD P e=some k) (E:I2 P e=some agg) (B:agg=true∨k=1)
 (C:CH x y=true) (r:CH i j=true) {v:AV} (b:valOf (.idx agg len k y j) (λs=>(δ s).er)=some v):Gives P w S δ a o v:=by
 obtain⟨L,D⟩:=Ah C m;obtain⟨F,d⟩:=Ah r m;cases y with
 |c c=>simp[valOf]at b
 |t s=>
  simp only[valOf]at b;split at b
  . rename_i N n f hn;simp only[Ar.t.injEq]at f;subst f;split at b
    . rename_i q;obtain⟨M,hn⟩:=NF hn;obtain⟨z,_⟩:=h.Ep F hn;rw[z]at d;split at b
      . rename_i K I;obtain⟨vals,l,g,u⟩:=Q6 h I b;refine⟨_,?_,u⟩
        have:=Xa (w:=w) p E B g;simp only[execOp,H,D,d,C0,l,Instr.index,asIntOf,run_underlying J,q,and_self,AAo,run_sizeOf p,Sem.run_bind,Sem.run_pure,Result.andThen_ok,this]
      . cases b
    . cases b
  . cases b
theorem kW (h:St G w S δ Fr) {a:Act} (e:Rd δ a) {o:Oper} {t:TypeId} {x i:Operand} {y j:Ar} (u:o.op= .index t x i) (B:P.underlying t=some .string) (p:CH x y=true) (f:CH i j=true) {v:AV}
 (c:valOf (.fL y j) (λs=>(δ s).er)=some v):Gives P w S δ a o v:=by
 obtain⟨C,q⟩:=Ah p e;obtain⟨r,d⟩:=Ah f e;simp only[valOf]at c;split at c
 . rename_i s n z hn;obtain⟨D,hn⟩:=NF hn;obtain⟨g,_⟩:=h.Ep r hn;obtain⟨k,_⟩:=h.Ep C z;split at c
   . rename_i l;rw[AAi]at c;obtain⟨b,m,rfl⟩:=c;refine⟨.int .u8 b.toNat,?_,Lf.sc _ rfl⟩;simp only[execOp,u,q,d,g,k,Instr.index,asIntOf,run_underlying B,l,AAo,m,Sem.run_bind,Sem.run_pure,Result.andThen_ok]
   . cases c
 . cases c
theorem St.xI (h:St G w S δ Fr) {x:Ar} (p:Vm x) {f:List AV} (g:ar (λs=>(δ s).er) x= .agg f):∃vals:List Value,C0 δ x= .agg vals.toArray/\∀(j:Nat) u,f[j]? =some (.sc u)->vals[j]? =some u:=by
 obtain⟨D,F,e,m,i⟩:∃(D:DV) (F:Nat->Prop),D.er= .agg f/\D.A0=C0 δ x/\Ok w S D F:=by
  cases x with
  |t s=>exact⟨δ s,Fr s,g,rfl,h.ok s⟩
  |c c=>obtain⟨k,l⟩:=p;obtain⟨n,o,q,_⟩:=ID (w:=w) (S:=S) (δ:=δ) c k l;simp only[ar]at g;exact⟨k,_,n.trans g,by simp[C0,l],o⟩
 obtain⟨ds,rfl⟩:∃ds,D= .agg ds:=by
  have:=i.KU;cases D with
  |agg ds=>exact⟨ds,rfl⟩
  |lf c v=>cases this with|lf _ _ hl=>simp at e;subst e;simp[C3]at hl
  |own=>simp at e
  |BT=>simp at e
 refine⟨ds.map DV.A0,by rw[← m];simp,λj u b=> ?_⟩;simp only[G7,AV.agg.injEq]at e;subst e;simp only[AAR]at b ⊢;cases hd:ds[j]? with
 |none=>simp[hd]at b
 |some d=>
  simp only[hd,AAk,AAG]at b ⊢;cases i with
  |agg _ Fs _ hr _ _ _=>
   have:=hr j d hd;cases this with
   |lf a v _ hl _=>simp only[El]at b;subst b;simpa using hl.1
   |nil=>simp at b
   |own=>simp at b
   |agg=>simp at b
   |BT=>simp at b
def kdOf:TypeDesc->ABh Nat
 | .bool=>some 0
 | .int _=>some 1
 | .string=>some 2
 |_=>none
def Pb (P:Program):Nat->List Field->List Nat->Bool
 |_,[],[]=>true
 |i,f::fs,k::ks=>f.name != "_" &&f.offset==i&&GD P f.type==some 1&&I2 P f.type==some false&&((P.underlying f.type).bind kdOf==some k)&&Pb P (i+1) fs ks
 |_,_,_=>false
def jZ (P:Program) (t:TypeId) (kd:List Nat):Bool:=match P.underlying t with
 |some (.struct fs)=> !P.stoodInHeld t&& !P.eqGuardType P.depth t&&Pb P 0 fs.toList kd
 |_=>false
theorem zB (d:Nat) {t:TypeId} {k:Nat} {u v:Value} {b:Bool} (a:(P.underlying t).bind kdOf=some k) (h:q9 k u v=some b):(Op.equalIn (d+1) t u v).run P w= .ok b w:=by
 cases hu:P.underlying t with
 |none=>simp[hu]at a
 |some T=>
  simp only[hu,AAF]at a;cases T<;>simp only[kdOf,AAG,reduceCtorEq]at a<;>subst a
  . cases u<;>cases v<;>simp only[q9,AAG,reduceCtorEq]at h;subst h;exact run_equalIn_bool' w d t _ _ hu
  . cases u<;>cases v<;>simp only[q9,reduceCtorEq]at h;split at h
    . rename_i e;subst e;simp only[AAG]at h;subst h;exact run_equalIn_int w d t _ _ _ _ hu
    . cases h
  . cases u<;>cases v<;>simp only[q9,AAG,reduceCtorEq]at h;subst h;exact run_equalIn_string w d t _ _ hu
theorem Zr (d:Nat) (q r:List Value) (p:List Field):∀(h:List Nat) (i:Nat) (c g:List AV) (b:Bool),Pb P i p h=true->Pc h c g=some b->
 (∀(j:Nat) u,c[j]? =some (.sc u)->q[i+j]? =some u)->(∀(j:Nat) u,g[j]? =some (.sc u)->r[i+j]? =some u)->(Op.eqFields (d+1) q.toArray r.toArray p).run P w= .ok b w:=by
 induction p with
 |nil=>
  intro h i c g b m e _ _;cases h with
  |cons=>simp[Pb]at m
  |nil=>cases c<;>cases g<;>simp only[Pc,AAG,reduceCtorEq]at e;subst e;simp[Op.eqFields]
 |cons f p ih=>
  intro h i c g b m e n o;cases h with
  |nil=>simp[Pb]at m
  |cons k ks=>
   simp only[Pb,AAH,AAV,bne_iff_ne]at m;obtain⟨⟨⟨⟨⟨E,F⟩,G⟩,H⟩,I⟩,J⟩:=m
   match c,g,e with
   | .sc u::c,.sc v::g,e=>
    simp only[Pc]at e;split at e
    . rename_i a B C D;simp only[AAG]at e;have t:q[i]? =some u:=(by have:=n 0 u rfl;simpa using this);have x:r[i]? =some v:=(by have:=o 0 v rfl;simpa using this);have one:∀(l:List Value) (u:Value),l[i]? =some u->(part f.type l.toArray i).run P w= .ok u w:=by
       intro l u K;have y:(l.drop i).take 1=[u]:=by obtain⟨z,rfl⟩:=AAI.1 K;rw[ABD z];rfl
       have:=Xa (w:=w) (off:=i) (vals:=l) G H (.inr rfl) (by rw[y];rfl);rw[this,y];rfl
      have L:=ih ks (i+1) c g B J D (λj u s=>by have:=n (j+1) u s;rw[show i+1+j=i+(j+1)from by omega];exact this) (λj u s=>by have:=o (j+1) u s;rw[show i+1+j=i+(j+1)from by omega];exact this);simp only[Op.eqFields,E,ne_eq,not_false_eq_true,AAo,F,Sem.run_bind,one q u t,one r v x,Result.andThen_ok,zB d I C];cases a with
      |true=>simp only[Bool.not_true,AAQ,AAY,L];rw[← e];simp
      |false=>simp only[Bool.not_false,AAo,Sem.run_pure];rw[← e];simp
    . cases e
theorem kV (h:St G w S δ Fr) {a:Act} (D:Rd δ a) {o:Oper} {op:BinOp} {t u:TypeId} {x y:Operand} {I J:Ar} {c:Bool} {l:List Nat} (F:o.op= .binOp op t x y u) (g:op=if c=true then .neq else .eql) (e:jZ P t l=true) (W:CH x I=true) (K:CH y J=true) {v:AV}
 (f:valOf (.fK c l I J) (λs=>(δ s).er)=some v):Gives P w S δ a o v:=by
 obtain⟨X,z⟩:=Ah W D;obtain⟨Z,B⟩:=Ah K D;simp only[valOf]at f;split at f
 . rename_i i L T U;obtain⟨m,q,M⟩:=h.xI X T;obtain⟨n,r,N⟩:=h.xI Z U;rw[AAi]at f;obtain⟨b,V,rfl⟩:=f;refine⟨_,?_,Lf.sc _ rfl⟩;unfold jZ at e;split at e
   . rename_i C H;simp only[AAH,ABT]at e;obtain⟨⟨O,Q⟩,R⟩:=e;have d:P.fieldsOf t=C:=(by simp[Program.fieldsOf,H]);have p:(Op.equalIn 10000 t (.agg m.toArray) (.agg n.toArray)).run P w= .ok b w:=(by rw[run_equalIn_struct w 9999 t _ _ (by rw[d];exact H) O,d];exact Zr 9998 m n C.toList l 0 i L b R V (λj u k=>by simpa using M j u k) (λj u k=>by simpa using N j u k));have E:∀op,(eqGuard op t x y (.agg m.toArray) (.agg n.toArray)).run P w= .ok () w:=λop=>run_eqGuard_agg w op t x y _ _ Q;cases c with
     |true=>simp only[AAo]at g;subst g;simp only[execOp,F,z,B,q,r,Sem.run_bind,E,Result.andThen_ok,run_neq_struct,p,Sem.run_pure,AAo]
     |false=>simp only[AAQ,AAY]at g;subst g;simp only[execOp,F,z,B,q,r,Sem.run_bind,E,Result.andThen_ok,run_eql_struct,p,Sem.run_pure,AAQ,AAY]
   . cases e
 . cases f
theorem zL (h:St G w S δ Fr) {a:Act} (l:Rd δ a) {o:Oper} {c:Call} {x y:Operand} {q r:Ar} {mx:Bool} (p:o.op= .call c) (d:c.callee= .builtin (if mx=true then .max else .min)) (t:c.args.toList=[x,y])
 (C:CH x q=true) (u:CH y r=true) {v:AV} (b:valOf (.mm mx q r) (λs=>(δ s).er)=some v):Gives P w S δ a o v:=by
 obtain⟨E,f⟩:=Ah C l;obtain⟨F,g⟩:=Ah u l;have e:c.args= #[x,y]:=by apply ABS;simpa using t
 simp only[valOf]at b;split at b
 . rename_i k n H m z B;obtain⟨i,_⟩:=h.Ep E z;obtain⟨j,_⟩:=h.Ep F B;split at b
   . rename_i D;subst D;simp only[AAG]at b;subst b;refine⟨_,?_,Lf.sc _ rfl⟩;cases mx with
     |true=>simp only[AAo]at d;simp only[execOp,p,resolve,d,e,invoke,builtin,Sem.run_bind,Sem.run_pure,Result.andThen_ok,List.map_toArray,AAb,AAy,f,g,i,j,run_max_int2,AAo]
     |false=>simp only[AAQ,AAY]at d;simp only[execOp,p,resolve,d,e,invoke,builtin,Sem.run_bind,Sem.run_pure,Result.andThen_ok,List.map_toArray,AAb,AAy,f,g,i,j,run_min_int2,AAQ,AAY]
   . cases b
 . cases b
theorem oO {v:Value} {k:Nat} {rows:List (List DV)} {F:Nat->Prop} (h:Ok w S (.own v true k rows) F):∃b,v= .pointer (some ⟨b,0,none⟩):=by
 cases h with
 |own _ _ _ b c arr E Fs _=>exact⟨b,by simp[I9]⟩
theorem kT (h:St G w S δ Fr) {a:Act} (H:Rd δ a) {o:Oper} {x:Operand} {z:Ar} (l:o.op= .nilCheck x) (I:CH x z=true) {v:AV} (d:valOf (.JW z) (λs=>(δ s).er)=some v):Gives P w S δ a o v:=by
 obtain⟨J,f⟩:=Ah I H;cases z with
 |c c=>
  obtain⟨L,K⟩:=J;simp only[valOf,ar]at d;cases c<;>first
   | (simp[IZ]at K;done)
   | (simp at d;done)
   | (rename_i b _ _;cases b<;>simp at d)
 |t s=>
  simp only[valOf,ar]at d;cases hs:(δ s).er with
  |KJ r p i j k=>rw[hs]at d;simp only[AAG]at d;subst d;obtain⟨C,_,g,bx,rows,b,m,n,q⟩:=h.leaf hs rfl;exact⟨_,by simp only[execOp,l,f,C0,q,Sem.run_pure],Lf.KJ m n⟩
  |fp cs=>rw[hs]at d;simp only[AAG]at d;subst d;obtain⟨C,⟨b,off,m,n,q⟩,_⟩:=h.leaf hs rfl;exact⟨_,by simp only[execOp,l,f,C0,m,Sem.run_pure],Lf.fp n q⟩
  |own b k rows=>
   rw[hs]at d;cases b with
   |false=>simp at d
   |true=>simp only[AAG]at d;subst d;obtain⟨F,hd,M⟩:=h.W0 hs;have e:=h.ok s;rw[hd]at e;obtain⟨b,g⟩:=oO e;refine⟨(δ s).A0,?_,Lf.al (r:=s) (p:=[]) (bx:=true) (k:=k) (rows:=F) (by simp[Ao];exact hd)⟩;simp only[execOp,l,f,C0];rw[g];simp only[Sem.run_pure]
  |al r p=>
   rw[hs]at d;simp only at d;split at d
   . rename_i k rows hn;simp only[AAG]at d;subst d;obtain⟨C,_,bx,N,y,u⟩:=h.leaf hs rfl;obtain⟨D,E,B⟩:=Dj (h.ok r).KU hn;rw[u]at E;obtain rfl:=AAJ E;simp only[EN,AV.own.injEq]at B;obtain⟨rfl,rfl,_⟩:=B;obtain⟨F',e,_⟩:=(h.ok r).Ao u;obtain⟨b,g⟩:=oO e;refine⟨(δ s).A0,?_,Lf.al u⟩;simp only[execOp,l,f,C0];rw[g];simp only[Sem.run_pure]
   . cases d
  |_=>rw[hs]at d;simp at d
theorem jM (h:St G w S δ Fr) {a:Act} (H:Rd δ a) (j:List Ar):∀{d:List Operand} {rs:List (Nat×List Step)},GN d j=true->Rg (λs=>(δ s).er) j=some rs->
 d.length=rs.length/\∀(i:Nat) r p u,rs[i]? =some (r,p)->(d.map a.eval)[i]? =some u->∃bx k rows,Ao (δ r) p=some (.own u bx k rows):=by
 induction j with
 |nil=>
  intro d rs f b;cases d with
  |cons=>simp[GN]at f
  |nil=>simp only[Rg,AAG]at b;subst b;exact⟨rfl,by simp⟩
 |cons y j ih=>
  intro d rs f b;cases d with
  |nil=>simp[GN]at f
  |cons x d=>
   simp only[GN,AAH]at f;obtain⟨J,z⟩:=Ah f.1 H;cases y with
   |c=>simp[Rg]at b
   |t s=>
    simp only[Rg]at b;have step:∀v o l,Rg (λs=>(δ s).er) j=some l->rs=(v,o)::l->(∃bx k rows,Ao (δ v) o=some (.own (a.eval x) bx k rows))->(x::d).length=rs.length/\∀(i:Nat) r p u,rs[i]? =some (r,p)->((x::d).map a.eval)[i]? =some u->∃bx k rows,Ao (δ r) p=some (.own u bx k rows):=by
     rintro v o l g rfl F;obtain⟨D,E⟩:=ih f.2 g;refine⟨by simp[D],λi r p u hi n=> ?_⟩;cases i with
     |zero=>simp only[AAt,AAG,AAU,AAb]at hi n;obtain⟨rfl,rfl⟩:=hi;subst n;exact F
     |succ i=>exact E i r p u (by simpa using hi) (by simpa using n)
    split at b
    . rename_i k rows l m g;simp only[AAG]at b;obtain⟨B,hd,_⟩:=h.W0 m;exact step s [] l g b.symm ⟨true,k,B,by rw[z];simp[Ao,C0];exact hd⟩
    . rename_i q p l m g;split at b
      . rename_i k rows hn;simp only[AAG]at b;obtain⟨_,_,bx,I,e,C⟩:=h.leaf m rfl;exact step q p l g b.symm ⟨bx,I,e,by rw[z];exact C⟩
      . cases b
    . cases b
theorem Lf.cl {f:Nat} {rs:List (Nat×List Step)} {vs:List Value} (a:vs.length=rs.length) (b:∀(i:Nat) r p u,rs[i]? =some (r,p)->vs[i]? =some u->∃bx k rows,Ao (δ r) p=some (.own u bx k rows)):Lf w S δ (.cl f rs) (.func (.func f) #[] vs.toArray):=
 ⟨.lf (.cl f rs) _,by simp,by simp,.lf _ _ _ trivial (λ_ h=>h),.lf _ _ ⟨vs,rfl,a,b⟩⟩
theorem Yw (h:St G w S δ Fr) {a:Act} (j:Rd δ a) {o:Oper} {f:Nat} {first b:Array Operand} {c:List Ar} (m:o.op= .makeFunc (.func f) first b) (l:first= #[]) (k:GN b.toList c=true) {v:AV} (d:valOf (.mkf f c) (λs=>(δ s).er)=some v):Gives P w S δ a o v:=by
 simp only[valOf,AAi]at d;obtain⟨rs,n,rfl⟩:=d;obtain⟨g,i⟩:=jM h j c k n;refine⟨.func (.func f) #[] (b.toList.map a.eval).toArray,?_,Lf.cl (by simpa using g) i⟩;subst l;have e:b.map a.eval=(b.toList.map a.eval).toArray:=by apply ABS;simp
 simp[execOp,m,Instr.makeFunc,e]
end Go.Abs
namespace Go.Abs
variable {w w':World} {S S':Nat->Prop} {G:Gi} {δ:Nat->DV} {Fr:Nat->Nat->Prop} {P:Program}
theorem KN {d:Type} {rows:List (List d)} {k i j:Nat} {a:List d} {x:d} (c:∀a∈rows,a.length=k) (b:rows[i]? =some a) (e:a[j]? =some x):rows.flatten[i*k+j]? =some x:=by
 induction rows generalizing i with
 |nil=>simp at b
 |cons r rs ih=>
  have f:=c r (by simp);have h:=RL c b e;cases i with
  |zero=>simp only[AAt,AAG]at b;subst b;simp only[ABd,Nat.zero_mul,ABN];rw[AAf (by omega)];exact e
  |succ i=>simp only[AA2]at b;simp only[ABd];rw[AAl (by rw[f,ABM];omega),f,show(i+1)*k+j-k=i*k+j from by rw[ABM];omega];exact ih (λa g=>c a (by simp[g])) b
theorem Db {d:Type} {rows:List (List d)} {k:Nat} (b:∀a∈rows,a.length=k):rows.flatten.length=rows.length*k:=by
 induction rows with
 |nil=>simp
 |cons r rs ih=>simp only[ABd,AAu,AAx,b r (by simp),ih (λa c=>b a (by simp[c])),ABM];omega
theorem K3 {g m:List DV} {b a:Nat->Prop} (k:JH w S g b) (n:JH w S m a) (hd:∀x,b x->¬a x):JH w S (g++m) (λx=>b x∨a x):=by
 induction g generalizing b with
 |nil=>have:(λx=>b x∨a x)=a:=funext λx=>propext ⟨λh=>h.elim (λh=>absurd h (k x)) id,.inr⟩;rw[this];exact n
 |cons d l ih=>
  obtain⟨i,j,o,p,f,e⟩:=k;refine⟨i,λx=>j x∨a x,o,ih p (λx c=>hd x ((e x).2 (.inr c))),?_,λx=> ?_⟩
  . rintro x c (h|h)
    . exact f x c h
    . exact hd x ((e x).2 (.inl c)) h
  . show b x∨a x↔i x∨j x∨a x;rw[e x];exact or_assoc
theorem JH.congr {l:List DV} {F F':Nat->Prop} (h:JH w S l F) (a:∀x,F' x↔F x):JH w S l F':=by have:F'=F:=funext λx=>propext (a x);exact this▸h
theorem lQ {bx:Bool} {k:Nat} {rows:List (List DV)} {b c:Nat} {arr:Array Value} {E:TypeId} {F:Nat->Prop} (D:w.heap[b]? =some (.cells arr E (0,0))) (f:∀a∈rows,a.length=k)
 (p:if bx then rows.length=1/\arr.size=k else c*k=arr.size/\rows.length≤c) (B:¬S b) (o:JH w S rows.flatten F) (r:¬F b) (C:∀(n:Nat) d,rows.flatten[n]? =some d->arr[n]? =some d.A0):
 Ok w S (.own (I9 bx b rows.length c) bx k rows) (λx=>x=b∨F x):=by
 obtain⟨q,v,y,z,g⟩:=JM.1 o;refine .own bx k rows b c arr E (λi j x=>(∃a d,rows[i]? =some a/\a[j]? =some d)/\q (i*k+j) x) _ D f p B ?_ ?_ ?_ ?_ ?_ ?_
 . intro i j a d hi e;exact C _ d (KN f hi e)
 . intro i j a d hi e;refine(v _ d (KN f hi e)).congr λx=>⟨λh=>h.2,λh=>⟨⟨a,d,hi,e⟩,h⟩⟩
 . rintro i j I J x ⟨⟨a,d,hi,e⟩,G⟩ ⟨⟨m,H,hi',u⟩,s⟩;exact oH (RL f hi e) (RL f hi' u) (y _ _ x G s)
 . rintro i j x ⟨h,_⟩;exact h
 . rintro i j ⟨_,h⟩;exact r ((g b).2 ⟨_,h⟩)
 . intro x;constructor
   . rintro(h|h)
     . exact .inl h
     . obtain⟨n,hn⟩:=(g x).1 h;obtain⟨d,hd⟩:=z n x hn;have l:n<rows.length*k:=(by rw[← Db f];exact(AAI.1 hd).1);have t:0<k:=(Nat.eq_zero_or_pos k).elim (λh=>by subst h;simp at l) id;have hi:n/k<rows.length:=Nat.div_lt_of_lt_mul (by rw[AA8];exact l);have e:n%k<(rows[n/k]).length:=(by rw[f _ (AAW hi)];exact Nat.mod_lt _ t);refine .inr ⟨n/k,n%k,⟨_,_,AAL hi,AAL e⟩,?_⟩;rw[AA8,ABL];exact hn
   . rintro(h|⟨i,j,_,h⟩)
     . exact .inl h
     . exact .inr ((g x).2 ⟨_,h⟩)
theorem ZF {v:Value} {bx:Bool} {k:Nat} {rows:List (List DV)} {F:Nat->Prop} (h:Ok w S (.own v bx k rows) F):
 (v= .slice none 0 0/\bx=false/\rows=[]/\∀x,¬F x)∨
 ∃b c arr E p,v=I9 bx b rows.length c/\w.heap[b]? =some (.cells arr E (0,0))/\(∀o∈rows,o.length=k)/\(if bx then rows.length=1/\arr.size=k else c*k=arr.size/\rows.length≤c)/\¬S b/\JH w S rows.flatten p/\¬p b/\
  (∀x,F x↔x=b∨p x)/\(∀(n:Nat) d,rows.flatten[n]? =some d->arr[n]? =some d.A0):=by
 cases h with
 |nil k _ hF=>exact .inl ⟨rfl,rfl,rfl,hF⟩
 |own _ _ _ b c arr E Fs _ hb hk Dv Ku hv hr hd Bb Jf hF=>
  refine .inr ⟨b,c,arr,E,λx=>∃i j,Fs i j x,rfl,hb,hk,Dv,Ku,?_,λ⟨i,j,h⟩=>Jf i j h,hF,?_⟩
  . refine JM.2 ⟨λn x=>n<rows.length*k/\Fs (n/k) (n%k) x,?_,?_,?_,?_⟩
    . intro n d f;have e:n<rows.length*k:=(by rw[← Db hk];exact(AAI.1 f).1);have g:0<k:=(Nat.eq_zero_or_pos k).elim (λh=>by subst h;simp at e) id;have hi:n/k<rows.length:=Nat.div_lt_of_lt_mul (by rw[AA8];exact e);have l:n%k<(rows[n/k]).length:=(by rw[hk _ (AAW hi)];exact Nat.mod_lt _ g);have a:=KN hk (AAL hi) (AAL l);rw[AA8,ABL,f]at a;obtain rfl:=AAJ a;exact(hr _ _ _ _ (AAL hi) (AAL l)).congr λx=>⟨λh=>h.2,λh=>⟨e,h⟩⟩
    . rintro n u x ⟨a,q⟩ ⟨y,t⟩
      have:=hd _ _ _ _ x q t;rw[← ABL n k,← ABL u k,this.1,this.2]
    . rintro n x ⟨a,_⟩;exact⟨_,AAL (by rw[Db hk];exact a)⟩
    . intro x;constructor
      . rintro⟨i,j,h⟩;obtain⟨o,d,a,q⟩:=Bb i j x h;have m:=RL hk a q;have hi:=(AAI.1 a).1;have g:0<k:=(by omega);refine⟨i*k+j,?_,?_⟩
        . calc i*k+j<i*k+k:=by omega
           _=(i+1)*k:=by rw[ABM]
           _≤rows.length*k:=AA1 _ hi
        . have r:(i*k+j)/k=i:=(by rw[AA8,Nat.mul_add_div g,Nat.div_eq_of_lt m];rfl);have s:(i*k+j)%k=j:=(by rw[AA8,Nat.mul_add_mod];exact Nat.mod_eq_of_lt m);rw[r,s];exact h
      . rintro⟨n,_,h⟩;exact⟨_,_,h⟩
  . intro n d f;have e:n<rows.length*k:=(by rw[← Db hk];exact(AAI.1 f).1);have g:0<k:=(Nat.eq_zero_or_pos k).elim (λh=>by subst h;simp at e) id;have hi:n/k<rows.length:=Nat.div_lt_of_lt_mul (by rw[AA8];exact e);have l:n%k<(rows[n/k]).length:=(by rw[hk _ (AAW hi)];exact Nat.mod_lt _ g);have a:=KN hk (AAL hi) (AAL l);rw[AA8,ABL,f]at a;obtain rfl:=AAJ a
    have:=hv _ _ _ _ (AAL hi) (AAL l);rw[AA8,ABL]at this;exact this
theorem KH {d:DV} {F:Nat->Prop} (h:Ok w S d F) (f:FB d.er=true):Fl d.A0=true:=by
 cases h with
 |lf a v _ ha _=>
  cases a with
  |sc u=>rw[Ke,ha.1];exact ha.2
  |sl e k rows=>obtain⟨i,c,g⟩:=Oc (w:=w) (S:=S) ha;rw[Ke,g];rfl
  |own=>exact ha.elim
  |_=>simp[FB]at f
 |nil=>rfl
 |own bx k rows b c=>cases bx<;>simp[I9,Fl]
 |agg=>simp[FB]at f
 |BT=>simp[FB]at f
def Er:DV->List DV
 | .agg cs=>cs
 |d=>[d]
theorem K0 (d:DV) (b:Ya d):(Er d).map DV.er=cellsOf d.er:=by
 cases d with
 |agg cs=>simp[Er,cellsOf]
 |lf a v=>cases b with|lf _ _ h=>cases a<;>simp_all [Er,cellsOf,C3]
 |own=>simp[Er,cellsOf]
 |BT=>simp[Er,cellsOf]
theorem UD {v:Value} (h:Fl v=true):v.cells= #[v]:=by cases v<;>simp_all [Fl,Value.cells]
theorem K7 {d:DV} {F:Nat->Prop} (h:Ok w S d F) (c:(cellsOf d.er).all FB=true):d.A0.cells=((Er d).map DV.A0).toArray:=by
 cases hd:d with
 |agg cs=>simp[Er,Value.cells]
 |lf a v=>
  subst hd;have e:=h.KU;rw[← K0 _ e]at c;simp only[Er,AAb,AAy,AA6,List.all_nil,Bool.and_true]at c
  have:=KH h c;simp only[Er,AAb,AAy];exact UD this
 |own hh b k rows=>
  subst hd
  have:=KH h (by simp[FB]);simp only[Er,AAb,AAy];exact UD this
 |BT cs=>subst hd;simp[cellsOf,FB]at c
theorem Mf {d:DV} {F:Nat->Prop} (h:Ok w S d F):JH w S (Er d) F:=by
 have b:JH w S [d] F:=⟨F,λ_=>False,h,λ_ h=>h,λ_ _ h=>h,λx=>by simp⟩;cases d with
 |agg cs=>exact B0.1 h
 |lf a v=>exact b
 |own=>exact b
 |BT=>exact b
theorem IJ (a:Act) (d:Nat) (v:Value) (h:d<a.tmps.size) (s:Nat):(a.put (some d) v).tmps.getD s undef=if s=d then v else a.tmps.getD s undef:=by
 simp only[Act.put,AAc,ABG];by_cases b:d=s
 . subst b;simp[h]
 . have:¬s=d:=λe=>b e.symm;simp[b,this]
def Pw (P:Program) (G:Gi) (w:World) (S:Nat->Prop) (Fr:Nat->Nat->Prop) (a:Act) (o:Oper) (σ':Sg):Prop:=
 ∃(n:Next) (v:Value) (w':World) (S':Nat->Prop) (δ':Nat->DV) (F':Nat->Nat->Prop),(execOp a.eval o).run P w= .ok n w'/\(n= .value v∨n= .skip/\v=undef)/\Rd δ' (a.put o.dst v)/\(λs=>(δ' s).er)=σ'/\
  St G w' S' δ' F'/\Nx w S (BD Fr) w' S' (BD F')
def Ip (G:Gi) (a:Act) (o:Oper) (d:ABh Dw):Prop:=
 match d with
 |none=>o.dst=none
 |some d=>o.dst=some d.d/\d.kl=G.Nk d.d/\d.rs=G.Gc d.d/\d.d<a.tmps.size
theorem Je {S1:Nat->Prop} {D:DV} {Ff:Nat->Prop} {c:Nat->DV} {e:Nat->Nat->Prop} {a:Act} {o:Oper} {d:Dw} {σ':Sg} (h:St G w S1 c e) (B:Rd c a) (hd:Ip G a o (some d)) (E:(execOp a.eval o).run P w= .ok (.value D.A0) w')
 (F:∀b,S1 b->w'.heap[b]? =w.heap[b]?) (C:∀s x,e s x->w'.heap[x]? =w.heap[x]?) (p:∀b,S1 b->S' b) (r:∀s x,e s x->¬S' x)
 (z:Ok w' S' D Ff) (g:∀s x,e s x->¬Ff x) (m:DQ c D) (q:wr d D.er (λs=>(c s).er)=some σ') (l:Nx w S (BD Fr) w' S' (λx=>BD e x∨Ff x)):Pw P G w S Fr a o σ':=by
 obtain⟨t,u,v,y⟩:=hd;obtain⟨f,F',i,n,j,k⟩:=h.wr u v F C p r z g m q;refine⟨_,D.A0,w',S',f,F',E,.inl rfl,?_,n,i,l.trans (Nx.less k)⟩;intro s;rw[t,IJ a d.d D.A0 y s,j s];split
 . rfl
 . exact B s
theorem YT {a:Act} {o:Oper} {d:Dw} {σ':Sg} {v:AV} (h:St G w S δ Fr) (g:Rd δ a) (hd:Ip G a o (some d)) (i:Gives P w S δ a o v) (f:wr d v (λs=>(δ s).er)=some σ'):Pw P G w S Fr a o σ':=by obtain⟨u,j,D,rfl,rfl,c,e⟩:=i;exact Je h g hd j (λ_ _=>rfl) (λ_ _ _=>rfl) (λ_ h=>h) (λs x b=>(h.ok s).Ek x b) c (λ_ _ _ h=>h) e f (Nx.less λx b=>b.elim id False.elim)
end Go.Abs
namespace Go.Abs
variable {w w':World} {S S':Nat->Prop} {G:Gi} {δ:Nat->DV} {Fr:Nat->Nat->Prop} {P:Program}
theorem alloc_old (w:World) (o:Obj) (b:Nat) (h:b<w.heap.size):(w.alloc o).heap[b]? =w.heap[b]? :=by show(w.heap.push o)[b]? =_;rw[Array.getElem?_push,AAO (by omega)]
theorem Ye (w:World) (o:Obj):(w.alloc o).heap[w.heap.size]? =some o:=by show(w.heap.push o)[w.heap.size]? =_;simp
theorem Nx.alloc (w:World) (S U c:Nat->Prop) (o:Obj) (h:∀x,c x->U x∨x=w.heap.size):Nx w S U (w.alloc o) S c:=
 ⟨rfl,rfl,rfl,by simp,λb a _=>alloc_old w o b a,λ_ h=>h,λ_ h=>.inl h,λd b a=>by have:=d b a;simp;omega,λx f=>(h x f).imp id (λe=>by omega)⟩
theorem Nx.I1 {w:World} {S U d a:Nat->Prop} (h:∀x,d x∨a x->U x) (e:∀x,a x->x<w.heap.size):Nx w S U w (λx=>S x∨a x) d:=
 ⟨rfl,rfl,rfl,AAr _,λ_ _ _=>rfl,λ_ h=>.inl h,λx c=>c.imp id λg=>.inl (h x (.inr g)),λi b f=>f.elim (i b) (e b),λx c=>.inl (h x (.inl c))⟩
theorem runs_mv (h:St G w S δ Fr) {a:Act} (e:Rd δ a) {o:Oper} {x:Operand} {y:Ar} {d:Dw} (hd:Ip G a o (some d)) (l:o.op= .assign x) (k:CH x y=true) {σ':Sg} (c:F6 G (.mv y) (some d) (λs=>(δ s).er)=some σ'):Pw P G w S Fr a o σ':=by
 obtain⟨p,i⟩:=Ah k e;simp only[F6]at c;split at c
 . rename_i v τ m;obtain⟨q,r,D,Ff,b,g,f,j⟩:=h.tk p m;subst g;subst f;exact Je b.st (λs=>(e s).trans (b.A0 s).symm) hd (by simp[execOp,l,i,j]) (λ_ _=>rfl) (λ_ _ _=>rfl) (λ_ h=>h) (λs x n=>(b.st.ok s).Ek x n) b.ok b.LX b.al c (Nx.less b.own)
 . cases c
theorem Xc {i:Nat->DV} {m:Nat->Nat->Prop} {a:Act} {o:Oper} {d:Dw} {σ':Sg} {bx:Bool} {k c:Nat} {rows:List (List DV)} {Fd:Nat->Prop} {arr:Array Value} {E:TypeId} (h:St G w S i m) (l:∀b,S b->b<w.heap.size) (C:Rd i a)
 (hd:Ip G a o (some d)) (H:(execOp a.eval o).run P w= .ok (.value (I9 bx w.heap.size rows.length c)) (w.alloc (.cells arr E))) (j:JH w S rows.flatten Fd) (v:∀s x,m s x->¬Fd x) (F:∀r∈rows,r.length=k)
 (y:if bx then rows.length=1/\arr.size=k else c*k=arr.size/\rows.length≤c) (I:∀(n:Nat) d,rows.flatten[n]? =some d->arr[n]? =some d.A0)
 (z:wr d (.own bx k (rows.map (·.map DV.er))) (λs=>(i s).er)=some σ') (u:∀x,BD m x∨Fd x->BD Fr x):Pw P G w S Fr a o σ':=by
 have t:=(B0.2 j).lt;have p:=(B0.2 j).Ek;have e:∀b,b<w.heap.size->(w.alloc (.cells arr E)).heap[b]? =w.heap[b]? :=λb g=>alloc_old _ _ _ g;have B:Ok (w.alloc (.cells arr E)) S (.own (I9 bx w.heap.size rows.length c) bx k rows) (λx=>x=w.heap.size∨Fd x):=by refine lQ (Ye w _) F y (λq=>by have:=l _ q;omega) ?_ (λq=>by have:=t _ q;omega) I;exact j.mono (λb g=>e b (l b g)) (λb g=>e b (t b g)) (λ_ h=>h) p
 refine Je (D:=.own (I9 bx w.heap.size rows.length c) bx k rows) h C hd (by simpa using H) (λb g=>e b (l b g)) (λs x f=>e x ((h.ok s).lt x f)) (λ_ h=>h) (λs x f=>(h.ok s).Ek x f) B ?_ (.own _ _ _ _) (by simpa using z) ?_
 . rintro s x f (rfl|hf)
   . have:=(h.ok s).lt _ f;omega
   . exact v s x f hf
 . refine Nx.alloc _ _ _ _ _ ?_;rintro x (f|rfl|f)
   . exact .inl (u x (.inl f))
   . exact .inr rfl
   . exact .inl (u x (.inr f))
theorem oR (h:St G w S δ Fr) (r:∀b,S b->b<w.heap.size) {a:Act} (C:Rd δ a) {o:Oper} {y:Ar} {n:Nat} {d:Dw} (hd:Ip G a o (some d)) (I:Vm y) {t:TypeId}
 (F:(execOp a.eval o).run P w= .ok (.value (.pointer (some ⟨w.heap.size,0,none⟩))) (w.alloc (.cells (C0 δ y).cells t))) {σ':Sg} (g:F6 G (.bx n y) (some d) (λs=>(δ s).er)=some σ'):Pw P G w S Fr a o σ':=by
 simp only[F6]at g;split at g
 . rename_i v τ H;split at g
   . rename_i x;obtain⟨hn,q⟩:=x;obtain⟨J,K,D,Ff,f,z,u,B⟩:=h.tk I H;subst z;subst u;have p:=K0 D f.ok.KU;have l:(Er D).length=n:=(by rw[← hn,← p];simp);have j:=K7 f.ok q;rw[B]at j;refine Xc (bx:=true) (k:=n) (c:=0) (rows:=[Er D]) (Fd:=Ff) (arr:=(C0 δ y).cells) (E:=t) f.st r (λs=>(C s).trans (f.A0 s).symm) hd (by rw[F];simp[I9]) (by simpa using Mf f.ok) f.LX (by simpa using l) ?_ ?_ ?_ f.own
     . simp[j,l]
     . intro m e i;simp only[ABd,List.flatten_nil,ABV]at i;simp[j,i]
     . simp only[AAb,AAy,p];exact g
   . cases g
 . cases g
theorem oQ {P:Program} (t:TypeId) (v:Value) (w:World):(Instr.box t v).run P w= .ok (.pointer (some ⟨w.heap.size,0,none⟩)) (w.alloc (.cells v.cells t)):=by simp[Instr.box,newVar,newRow]
theorem tS {P:Program} (t:TypeId) (i:TypeInfo) (z:Value) (hi:P.info? t=some i) (a:i.zero=some z) (w:World):(Instr.alloc t true (.tuple #[])).run P w= .ok (.pointer (some ⟨w.heap.size,0,none⟩)) (w.alloc (.cells z.cells t)):=by simp[Instr.alloc,zeroValue,typeInfo,hi,a,newVar,newRow]
theorem Vs {l r:List DV} {n o:Nat->Prop} (off:Nat) (B:JH w S l n) (C:JH w S r o) (hd:∀x,n x->¬o x) (H:off+r.length≤l.length):
 ∃F,JH w S (l.take off++r++l.drop (off+r.length)) F/\∀x,F x->n x∨o x:=by
 obtain⟨g,q,z,s,p⟩:=JM.1 B;obtain⟨Fr,D,E,G,u⟩:=JM.1 C;have d:∀i,(l.take off++r++l.drop (off+r.length))[i]? =if i<off then l[i]? else if i<off+r.length then r[i-off]? else l[i]? :=by
  intro i;have j:(l.take off).length=off:=by simp;omega
  by_cases b:i<off
  . rw[AA0,AAf (by omega),ABH,AAP b,AAP b]
  . by_cases c:i<off+r.length
    . rw[AAf (by simp;omega),AAl (by omega),j,AAO b,AAP c]
    . rw[AAl (by simp;omega),List.getElem?_drop,AAO b,AAO c];congr 1;simp;omega
 refine⟨λx=>∃i,(if i<off then g i x else if i<off+r.length then Fr (i-off) x else g i x),JM.2 ⟨λi x=>if i<off then g i x else if i<off+r.length then Fr (i-off) x else g i x,?_,?_,?_,λx=>ABb⟩,?_⟩
 . intro i e f;rw[d]at f;by_cases b:i<off
   . simp only[b,AAo]at f ⊢;exact q i e f
   . by_cases c:i<off+r.length
     . simp only[b,c,AAo,AAY]at f ⊢;exact D _ e f
     . simp only[b,c,AAY]at f ⊢;exact q i e f
 . intro i t x a k;have out:∀i,g i x->n x:=λi h=>(p x).2 ⟨i,h⟩;have m:∀i,Fr i x->o x:=λi h=>(u x).2 ⟨i,h⟩;by_cases b:i<off<;>by_cases c:t<off<;>by_cases v:i<off+r.length<;>by_cases y:t<off+r.length<;>simp only[b,c,v,y,AAo,AAY]at a k<;>
    first
     |exact z _ _ x a k
     |exact absurd (m _ k) (hd x (out _ a))
     |exact absurd (m _ a) (hd x (out _ k))
     | (have:=E _ _ x a k;omega)
     |omega
 . intro i x a;rw[d];by_cases b:i<off
   . simp only[b,AAo]at a ⊢;exact s i x a
   . by_cases c:i<off+r.length
     . simp only[b,c,AAo,AAY]at a ⊢;exact G _ x a
     . simp only[b,c,AAY]at a ⊢;exact s i x a
 . rintro x ⟨i,a⟩;by_cases b:i<off
   . simp only[b,AAo]at a;exact .inl ((p x).2 ⟨i,a⟩)
   . by_cases c:i<off+r.length
     . simp only[b,c,AAo,AAY]at a;exact .inr ((u x).2 ⟨_,a⟩)
     . simp only[b,c,AAY]at a;exact .inl ((p x).2 ⟨i,a⟩)
theorem mB (ds r:List DV) (off:Nat):(ds.take off++r++ds.drop (off+r.length)).map DV.er=aN (ds.map DV.er) off (r.map DV.er):=by simp[aN,ABX,ABg]
theorem zG (vs:List Value) (off:Nat) (a:Array Value) (h:off+vs.length≤a.size) (m:Nat):
 ((vs.zipIdx m).foldl (λe (x:Value×Nat)=>e.setIfInBounds (off+x.2) x.1) a).toList=a.toList.take (off+m)++vs++a.toList.drop (off+m+vs.length)∨off+m+vs.length>a.size:=by
 induction vs generalizing a m with
 |nil=>left;simp
 |cons v vs ih=>
  by_cases c:off+m+(v::vs).length>a.size
  . exact .inr c
  . left
    simp only[List.zipIdx_cons,List.foldl_cons];have b:=ih (a.setIfInBounds (off+m) v) (by simp at h ⊢;omega) (m+1);simp only[Array.size_setIfInBounds]at b;rcases b with b|b
    . rw[b];have d:off+m<a.toList.length:=(by simp at c ⊢;omega);simp only[Array.toList_setIfInBounds];rw[List.take_set,List.drop_set_of_lt (by omega)];rw[show off+(m+1)=off+m+1 from by omega,List.take_succ_eq_append_getElem d,List.set_append_right _ _ (by simp;omega)];simp only[List.length_take,Nat.min_eq_left (Nat.le_of_lt d),Nat.sub_self,List.set_cons_zero,AA0,AAz,AAx,ABB];rw[show off+m+1+vs.length=off+m+(vs.length+1)from by omega]
    . simp at b c;omega
end Go.Abs
