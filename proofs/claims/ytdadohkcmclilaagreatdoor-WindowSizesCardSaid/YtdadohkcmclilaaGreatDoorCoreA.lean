/- A calculus of abstract states of Go memory, and that it is sound. -/
import Derived.Orders
import Derived.Deep.LoopGhost
import Derived.Laws.Cells
import Derived.Laws.Small
import Derived.Laws.AppendOwn
import Derived.Laws.CopyRow
import Derived.Laws.StructEq
set_option linter.unusedSimpArgs false
set_option linter.unusedVariables false
set_option linter.defProp false
namespace Go.Abs
def AA0:=@Bool.true_and
def AA1:=@List.length_append
def AA2:=@List.map_nil
def AA3:=@List.take_of_length_le
def AA4:=@List.mem_singleton
def AA5:=@List.cons_append
def AA6:=@List.append_assoc
def AA7:=@List.length_cons
def AA8:=@Nat.lt_succ_self
def AA9:=@List.map_append
def AAN:=@Option.some.injEq
def AAO:=@Option.bind_some
def AAP:=@Bool.and_eq_true
def AAQ:=@List.getElem?_eq_some_iff
def AAR:=@Option.some.inj
def AAS:=@List.getElem?_set_self
def AAT:=@List.getElem?_eq_getElem
def AAU:=@List.all_eq_true
def AAV:=@List.getElem?_set_ne
def AAW:=@Bool.false_eq_true
def AAX:=@if_neg
def AAY:=@if_pos
def AAZ:=@List.getElem?_map
def AAa:=@of_decide_eq_true
def AAb:=@List.mem_of_getElem?
def AAc:=@Prod.mk.injEq
def AAd:=@beq_iff_eq
def AAe:=@if_false
def AAf:=@decide_eq_true_eq
def AAg:=@List.map_cons
def AAh:=@Array.getD_eq_getD_getElem?
def AAi:=@List.getElem_mem
def AAj:=@List.mem_append
def AAk:=@List.take_append_getElem
def AAl:=@Option.map_some
def AAm:=@Option.map_eq_some_iff
def AAn:=@List.getElem?_of_mem
def AAo:=@List.length_map
def AAp:=@List.mem_cons
def AAq:=@List.drop_zero
def AAr:=@List.getElem?_append_left
def AAs:=@if_true
def AAt:=@List.getElem?_append_right
def AAu:=@List.contains_iff_mem
def AAv:=@List.mem_or_eq_of_mem_set
def AAw:=@List.getElem?_cons_zero
def AAx:=@Bool.or_eq_true
def AAy:=@Nat.le_refl
def AAz:=@Array.getElem?_eq_some_iff
def ABA:=@List.getElem?_cons_succ
def ABB:=@beq_self_eq_true
def ABC:=@Option.isNone_iff_eq_none
def ABD:=@Nat.mul_comm
def ABE:=@Int.toNat_natCast
def ABF:=@List.all_cons
def ABG:=@List.all_map
def ABH:=@List.drop_eq_getElem_cons
def ABI:=@List.nil_append
def ABJ:=@Array.getElem?_setIfInBounds
def ABK:=@List.getElem?_take
def ABL:=@List.mem_cons_self
def ABM:=@Nat.lt_of_lt_of_le
def ABN:=@Nat.mul_le_mul_right
def ABO:=@Nat.le_trans
def ABP:=@List.mem_map_of_mem
def ABQ:=@List.getElem?_eq_none
def ABR:=@List.length_nil
def ABS:=@Nat.zero_add
def ABT:=@Array.ext'
def ABU:=@Bool.not_eq_true'
def ABV:=@List.ext_getElem?
def ABW:=@Nat.div_add_mod
def ABX:=@Array.getElem?_modify
def ABY:=@List.map_take
def ABZ:=@List.mem_map
def ABa:=@Nat.succ_mul
def ABb:=@List.mem_of_find?_eq_some
def ABc:=@List.mem_of_mem_take
def ABd:=@or_false
def ABe:=@Iff.rfl
def ABf:=@List.append_nil
def ABg:=@List.cons.injEq
def ABh:=@List.flatten_cons
def ABi:=@List.size_toArray
def ABj:=@List.eq_nil_iff_forall_not_mem
def ABk:=@List.map_congr_left
def ABl:=@List.map_drop
def ABm:=@List.eq_nil_of_length_eq_zero
def ABn:=@List.not_mem_nil
def ABo:=@List.range'_succ
abbrev ABp (a:Type _):=Option a
abbrev ABq:=ByteArray
abbrev Step:=Nat×Nat×Nat
inductive AV where
 |sc (v:Value)
 |sl (x:Bool) (k:Nat) (rows:List (List AV))
 |own (b:Bool) (k:Nat) (rows:List (List AV))
 |agg (cs:List AV)
 |BJ (cs:List AV)
 |al (r:Nat) (p:List Step)
 |KG (r:Nat) (p:List Step) (i j k:Nat)
 |fp (cs:List AV)
 |dead
 |un
 |cl (f:Nat) (rs:List (Nat×List Step))
 |vb (s off:Nat) (us:List Value)
 |fZ (f:Nat) (U4:List (List AV))
 deriving Inhabited
abbrev Sg:=Nat->AV
def C1 {α:Type} (σ:Nat->α) (d:Nat) (v:α):Nat->α:=λs=>if s=d then v else σ s
theorem A6 {α:Type} (σ:Nat->α) (d:Nat) (v:α):C1 σ d v d=v:=by simp[C1]
theorem BN {α:Type} (σ:Nat->α) {d s:Nat} (v:α) (h:s≠d):C1 σ d v s=σ s:=by simp[C1,h]
def sub:AV->List Step->ABp AV
 |a,[]=>some a
 | .own _ _ rows,(i,j,_)::p=>match rows[i]? with
  |some row=>match row[j]? with
   |some c=>sub c p
   |none=>none
  |none=>none
 | .agg cs,(_,j,_)::p=>match cs[j]? with
  |some c=>sub c p
  |none=>none
 | .BJ cs,(_,j,_)::p=>match cs[j]? with
  |some c=>sub c p
  |none=>none
 |_,_::_=>none
def put:AV->List Step->AV->ABp AV
 |_,[],x=>some x
 | .own b k rows,(i,j,_)::p,x=>match rows[i]? with
  |some row=>match row[j]? with
   |some c=>match put c p x with
    |some c'=>some (.own b k (rows.set i (row.set j c')))
    |none=>none
   |none=>none
  |none=>none
 | .agg cs,(_,j,_)::p,x=>match cs[j]? with
  |some c=>match put c p x with
   |some c'=>some (.agg (cs.set j c'))
   |none=>none
  |none=>none
 | .BJ cs,(_,j,_)::p,x=>match cs[j]? with
  |some c=>match put c p x with
   |some c'=>some (.BJ (cs.set j c'))
   |none=>none
  |none=>none
 |_,_::_,_=>none
inductive DV where
 |lf (a:AV) (v:Value)
 |own (h:Value) (b:Bool) (k:Nat) (rows:List (List DV))
 |agg (cs:List DV)
 |BJ (cs:List DV)
 deriving Inhabited
mutual
def DV.er:DV->AV
 | .lf a _=>a
 | .own _ b k rows=>.own b k (erR rows)
 | .agg cs=>.agg (erL cs)
 | .BJ cs=>.BJ (erL cs)
def erL:List DV->List AV
 |[]=>[]
 |d::r=>d.er::erL r
def erR:List (List DV)->List (List AV)
 |[]=>[]
 |d::r=>erL d::erR r
end
theorem fY (l:List DV):erL l=l.map DV.er:=by
 induction l with
 |nil=>rfl
 |cons d r ih=>simp[erL,ih]
theorem erR_eq (l:List (List DV)):erR l=l.map (·.map DV.er):=by
 induction l with
 |nil=>rfl
 |cons d r ih=>simp[erR,ih,fY]
mutual
def DV.Aq:DV->Value
 | .lf _ v=>v
 | .own h _ _ _=>h
 | .agg cs=>.agg (tF cs).toArray
 | .BJ cs=>.tuple (tF cs).toArray
def tF:List DV->List Value
 |[]=>[]
 |d::r=>d.Aq::tF r
end
theorem jW (l:List DV):tF l=l.map DV.Aq:=by
 induction l with
 |nil=>rfl
 |cons d r ih=>simp[tF,ih]
@[simp]theorem Ea (a:AV) (v:Value):(DV.lf a v).er=a:=by simp[DV.er]
@[simp]theorem EE (h:Value) (b:Bool) (k:Nat) (rows:List (List DV)):(DV.own h b k rows).er= .own b k (rows.map (·.map DV.er)):=by simp[DV.er,erR_eq]
@[simp]theorem Gz (cs:List DV):(DV.agg cs).er= .agg (cs.map DV.er):=by simp[DV.er,fY]
@[simp]theorem Iz (cs:List DV):(DV.BJ cs).er= .BJ (cs.map DV.er):=by simp[DV.er,fY]
@[simp]theorem KZ (a:AV) (v:Value):(DV.lf a v).Aq=v:=by simp[DV.Aq]
@[simp]theorem KA (h:Value) (b:Bool) (k:Nat) (rows:List (List DV)):(DV.own h b k rows).Aq=h:=by simp[DV.Aq]
@[simp]theorem JN (cs:List DV):(DV.agg cs).Aq= .agg (cs.map DV.Aq).toArray:=by simp[DV.Aq,jW]
@[simp]theorem Km (cs:List DV):(DV.BJ cs).Aq= .tuple (cs.map DV.Aq).toArray:=by simp[DV.Aq,jW]
def Am:DV->List Step->Option DV
 |a,[]=>some a
 | .own _ _ _ rows,(i,j,_)::p=>match rows[i]? with
  |some row=>match row[j]? with
   |some c=>Am c p
   |none=>none
  |none=>none
 | .agg cs,(_,j,_)::p=>match cs[j]? with
  |some c=>Am c p
  |none=>none
 | .BJ cs,(_,j,_)::p=>match cs[j]? with
  |some c=>Am c p
  |none=>none
 |_,_::_=>none
def DA:DV->List Step->DV->Option DV
 |_,[],x=>some x
 | .own h b k rows,(i,j,_)::p,x=>match rows[i]? with
  |some row=>match row[j]? with
   |some c=>match DA c p x with
    |some c'=>some (.own h b k (rows.set i (row.set j c')))
    |none=>none
   |none=>none
  |none=>none
 | .agg cs,(_,j,_)::p,x=>match cs[j]? with
  |some c=>match DA c p x with
   |some c'=>some (.agg (cs.set j c'))
   |none=>none
  |none=>none
 | .BJ cs,(_,j,_)::p,x=>match cs[j]? with
  |some c=>match DA c p x with
   |some c'=>some (.BJ (cs.set j c'))
   |none=>none
  |none=>none
 |_,_::_,_=>none
def CR:AV->Bool
 | .own .. | .agg _| .BJ _=>false
 |_=>true
inductive X9:DV->Prop
 |lf (a v) (h:CR a=true):X9 (.lf a v)
 |own (h b k rows) (hr:∀(i j:Nat) row d,rows[i]? =some row->row[j]? =some d->X9 d):X9 (.own h b k rows)
 |agg (cs) (hr:∀(i:Nat) d,cs[i]? =some d->X9 d):X9 (.agg cs)
 |BJ (cs) (hr:∀(i:Nat) d,cs[i]? =some d->X9 d):X9 (.BJ cs)
theorem X9.Am {d x:DV} {p:List Step} (h:X9 d) (hs:Am d p=some x):X9 x:=by
 induction p generalizing d with
 |nil=>simp only[Abs.Am,Option.some.injEq]at hs;exact hs▸h
 |cons s p ih=>
  obtain⟨i,j,k⟩:=s
  cases h with
  |lf a v h=>simp[Abs.Am]at hs
  |own hh b k' rows hr=>
   simp only[Abs.Am]at hs
   split at hs
   . split at hs
     . rename_i row DZ _ c hc;exact ih (hr i j row c DZ hc) hs
     . cases hs
   . cases hs
  |agg cs hr=>
   simp only[Abs.Am]at hs
   split at hs
   . rename_i c hc;exact ih (hr j c hc) hs
   . cases hs
  |BJ cs hr=>
   simp only[Abs.Am]at hs
   split at hs
   . rename_i c hc;exact ih (hr j c hc) hs
   . cases hs
theorem DT {d:DV} {p:List Step} {a:AV} (h:X9 d) (hs:sub d.er p=some a):∃x,Am d p=some x/\x.er=a:=by
 induction p generalizing d with
 |nil=>simp only[sub,Option.some.injEq]at hs;exact⟨d,rfl,hs⟩
 |cons s p ih=>
  obtain⟨i,j,k⟩:=s
  cases h with
  |lf b v h=>cases b<;>simp_all [sub,CR]
  |own hh b k' rows hr=>
   simp only[EE,sub,List.getElem?_map]at hs
   cases hi:rows[i]? with
   |none=>simp[hi]at hs
   |some row=>
    simp only[hi,Option.map_some,List.getElem?_map]at hs
    cases hj:row[j]? with
    |none=>simp[hj]at hs
    |some c=>
     simp only[hj,Option.map_some]at hs
     obtain⟨x,hx,he⟩:=ih (hr i j row c hi hj) hs
     exact⟨x,by simp[Am,hi,hj,hx],he⟩
  |agg cs hr=>
   simp only[Gz,sub,List.getElem?_map]at hs
   cases hj:cs[j]? with
   |none=>simp[hj]at hs
   |some c=>
    simp only[hj,Option.map_some]at hs
    obtain⟨x,hx,he⟩:=ih (hr j c hj) hs
    exact⟨x,by simp[Am,hj,hx],he⟩
  |BJ cs hr=>
   simp only[Iz,sub,List.getElem?_map]at hs
   cases hj:cs[j]? with
   |none=>simp[hj]at hs
   |some c=>
    simp only[hj,Option.map_some]at hs
    obtain⟨x,hx,he⟩:=ih (hr j c hj) hs
    exact⟨x,by simp[Am,hj,hx],he⟩
theorem Gd {d:DV} {p:List Step} {a:AV} (x:DV) (h:X9 d) (hs:put d.er p x.er=some a):∃t,DA d p x=some t/\t.er=a:=by
 induction p generalizing d a with
 |nil=>simp only[put,Option.some.injEq]at hs;exact⟨x,rfl,hs⟩
 |cons s p ih=>
  obtain⟨i,j,k⟩:=s
  cases h with
  |lf b v h=>cases b<;>simp_all [put,CR]
  |own hh b k' rows hr=>
   simp only[EE,put,List.getElem?_map]at hs
   cases hi:rows[i]? with
   |none=>simp[hi]at hs
   |some row=>
    simp only[hi,Option.map_some,List.getElem?_map]at hs
    cases hj:row[j]? with
    |none=>simp[hj]at hs
    |some c=>
     simp only[hj,Option.map_some]at hs
     cases hp:put c.er p x.er with
     |none=>simp[hp]at hs
     |some c'=>
      simp only[hp,Option.some.injEq]at hs
      obtain⟨t,ht,he⟩:=ih (hr i j row c hi hj) hp
      refine⟨.own hh b k' (rows.set i (row.set j t)),by simp[DA,hi,hj,ht],?_⟩
      rw[← hs,← he]
      simp[List.map_set]
  |agg cs hr=>
   simp only[Gz,put,List.getElem?_map]at hs
   cases hj:cs[j]? with
   |none=>simp[hj]at hs
   |some c=>
    simp only[hj,Option.map_some]at hs
    cases hp:put c.er p x.er with
    |none=>simp[hp]at hs
    |some c'=>
     simp only[hp,Option.some.injEq]at hs
     obtain⟨t,ht,he⟩:=ih (hr j c hj) hp
     refine⟨.agg (cs.set j t),by simp[DA,hj,ht],?_⟩
     rw[← hs,← he]
     simp[List.map_set]
  |BJ cs hr=>
   simp only[Iz,put,List.getElem?_map]at hs
   cases hj:cs[j]? with
   |none=>simp[hj]at hs
   |some c=>
    simp only[hj,Option.map_some]at hs
    cases hp:put c.er p x.er with
    |none=>simp[hp]at hs
    |some c'=>
     simp only[hp,Option.some.injEq]at hs
     obtain⟨t,ht,he⟩:=ih (hr j c hj) hp
     refine⟨.BJ (cs.set j t),by simp[DA,hj,ht],?_⟩
     rw[← hs,← he]
     simp[List.map_set]
end Go.Abs
namespace Go.Abs
def FW:Value->Bool
 | .agg _| .tuple _=>false
 |_=>true
def I7 (bx:Bool) (b n c:Nat):Value:=if bx then .pointer (some ⟨b,0,none⟩)else .slice (some ⟨b,0,none⟩) n c
inductive Fz (w:World) (S:Nat->Prop):AV->Value->Prop
 |sc (v:Value) (hp:FW v=true):Fz w S (.sc v) v
 |dead (v:Value):Fz w S .dead v
 |nil (x:Bool) (k:Nat) (a:ABp Addr) (c:Nat) (hx:x=true->c=0):Fz w S (.sl x k []) (.slice a 0 c)
 |sl (x:Bool) (k:Nat) (rows:List (List AV)) (b off c:Nat) (vs:Nat->Nat->Value) (hx:x=true->c=rows.length) (RE:rows.length≤c) (hS:S b)
  (hk:∀row∈rows,row.length=k)
  (hc:∀i j row a,rows[i]? =some row->row[j]? =some a->w.cell? ⟨b,off+(i*k+j),none⟩=some (vs i j))
  (hr:∀i j row a,rows[i]? =some row->row[j]? =some a->Fz w S a (vs i j)):Fz w S (.sl x k rows) (.slice (some ⟨b,off,none⟩) rows.length c)
 |agg (cs:List AV) (vs:List Value) (hs:vs.length=cs.length) (h:∀(i:Nat) a v,cs[i]? =some a->vs[i]? =some v->Fz w S a v):Fz w S (.agg cs) (.agg vs.toArray)
 |BJ (cs:List AV) (vs:List Value) (hs:vs.length=cs.length) (h:∀(i:Nat) a v,cs[i]? =some a->vs[i]? =some v->Fz w S a v):Fz w S (.BJ cs) (.tuple vs.toArray)
theorem Fz.mono {w w':World} {S S':Nat->Prop} {a:AV} {v:Value} (h:Fz w S a v) (hw:∀b,S b->w'.heap[b]? =w.heap[b]?) (hS:∀b,S b->S' b):Fz w' S' a v:=by
 induction h with
 |sc v hp=>exact .sc v hp
 |dead v=>exact .dead v
 |nil x k a c hx=>exact .nil x k a c hx
 |sl x k rows b off c vs hx RE hb hk hc hr ih=>
  refine .sl x k rows b off c vs hx RE (hS b hb) hk (λi j row a h1 h2=> ?_) (λi j row a h1 h2=>ih i j row a h1 h2)
  rw[← hc i j row a h1 h2]
  simp only[World.cell?,hw b hb]
 |agg cs vs hs h ih=>exact .agg cs vs hs ih
 |BJ cs vs hs h ih=>exact .BJ cs vs hs ih
def sS (w:World) (S:Nat->Prop) (cs:List AV) (v:Value):Prop:=∃b off,v= .pointer (some ⟨b,off,none⟩)/\S b/\∀(j:Nat) a,cs[j]? =some a->∃u,w.cell? ⟨b,off+j,none⟩=some u/\Fz w S a u
theorem sS.mono {w w':World} {S S':Nat->Prop} {cs:List AV} {v:Value} (h:sS w S cs v) (hw:∀b,S b->w'.heap[b]? =w.heap[b]?) (hS:∀b,S b->S' b):sS w' S' cs v:=by
 obtain⟨b,off,rfl,hb,hc⟩:=h
 refine⟨b,off,rfl,hS b hb,λj a hj=> ?_⟩
 obtain⟨u,hu,hf⟩:=hc j a hj
 refine⟨u,?_,hf.mono hw hS⟩
 rw[← hu]
 simp only[World.cell?,hw b hb]
def HK (w:World) (S:Nat->Prop):AV->Value->Prop
 | .sc u,v=>v=u/\FW u=true
 | .sl x k rows,v=>Fz w S (.sl x k rows) v
 | .fp cs,v=>∃b off,v= .pointer (some ⟨b,off,none⟩)/\S b/\∀(j:Nat) a,cs[j]? =some a->∃u,w.cell? ⟨b,off+j,none⟩=some u/\Fz w S a u
 | .un,v=>v=undef
 | .al ..,_=>True
 | .KG ..,_=>True
 | .dead,_=>True
 | .cl ..,_=>True
 | .fZ f U4,v=>∃vs:List Value,v= .func (.func f) #[] vs.toArray/\vs.length=U4.length/\∀(i:Nat) cs u,U4[i]? =some cs->vs[i]? =some u->sS w S cs u
 | .vb _ off us,v=>∃b,v= .pointer (some ⟨b,off,none⟩)/\S b/\∀(j:Nat) u,us[j]? =some u->w.cell? ⟨b,j,none⟩=some u
 |_,_=>False
theorem HK.CR {w:World} {S:Nat->Prop} {a:AV} {v:Value} (h:HK w S a v):CR a=true:=by
 cases a<;>simp_all [HK,Abs.CR]
theorem HK.mono {w w':World} {S S':Nat->Prop} {a:AV} {v:Value} (h:HK w S a v) (hw:∀b,S b->w'.heap[b]? =w.heap[b]?) (hS:∀b,S b->S' b):HK w' S' a v:=by
 cases a with
 |sl x k rows=>exact Fz.mono h hw hS
 |fp cs=>
  obtain⟨b,off,rfl,hb,hc⟩:=h
  refine⟨b,off,rfl,hS b hb,λj a hj=> ?_⟩
  obtain⟨u,hu,hf⟩:=hc j a hj
  refine⟨u,?_,hf.mono hw hS⟩
  rw[← hu]
  simp only[World.cell?,hw b hb]
 |sc u=>exact h
 |own=>exact h
 |agg=>exact h
 |BJ=>exact h
 |al=>exact h
 |KG=>exact h
 |dead=>exact h
 |un=>exact h
 |cl=>exact h
 |fZ f U4=>
  obtain⟨vs,h1,h2,h3⟩:=h
  exact⟨vs,h1,h2,λi cs u hi hu=>(h3 i cs u hi hu).mono hw hS⟩
 |vb s off us=>
  obtain⟨b,rfl,hb,hc⟩:=h
  refine⟨b,rfl,hS b hb,λj u hj=> ?_⟩
  rw[← hc j u hj]
  simp only[World.cell?,hw b hb]
inductive Ok (w:World) (S:Nat->Prop):DV->(Nat->Prop)->Prop
 |lf (a:AV) (v:Value) (F:Nat->Prop) (ha:HK w S a v) (hF:∀x,¬F x):Ok w S (.lf a v) F
 |nil (k:Nat) (F:Nat->Prop) (hF:∀x,¬F x):Ok w S (.own (.slice none 0 0) false k []) F
 |own (bx:Bool) (k:Nat) (rows:List (List DV)) (b c:Nat) (arr:Array Value) (E:TypeId) (Fs:Nat->Nat->Nat->Prop) (F:Nat->Prop)
  (hb:w.heap[b]? =some (.cells arr E (0,0))) (hk:∀row∈rows,row.length=k)
  (De:if bx then rows.length=1/\arr.size=k else c*k=arr.size/\rows.length≤c) (hS:¬S b)
  (hv:∀(i j:Nat) row d,rows[i]? =some row->row[j]? =some d->arr[i*k+j]? =some d.Aq)
  (hr:∀(i j:Nat) row d,rows[i]? =some row->row[j]? =some d->Ok w S d (Fs i j))
  (hd:∀i j i' j' x,Fs i j x->Fs i' j' x->i=i'/\j=j')
  (BP:∀i j x,Fs i j x->∃row d,rows[i]? =some row/\row[j]? =some d) (Jb:∀i j,¬Fs i j b)
  (hF:∀x,F x↔x=b∨∃i j,Fs i j x):Ok w S (.own (I7 bx b rows.length c) bx k rows) F
 |agg (cs:List DV) (Fs:Nat->Nat->Prop) (F:Nat->Prop) (hr:∀(i:Nat) d,cs[i]? =some d->Ok w S d (Fs i))
  (hd:∀i i' x,Fs i x->Fs i' x->i=i') (BP:∀i x,Fs i x->∃d,cs[i]? =some d) (hF:∀x,F x↔∃i,Fs i x):Ok w S (.agg cs) F
 |BJ (cs:List DV) (Fs:Nat->Nat->Prop) (F:Nat->Prop) (hr:∀(i:Nat) d,cs[i]? =some d->Ok w S d (Fs i))
  (hd:∀i i' x,Fs i x->Fs i' x->i=i') (BP:∀i x,Fs i x->∃d,cs[i]? =some d) (hF:∀x,F x↔∃i,Fs i x):Ok w S (.BJ cs) F
variable {w w':World} {S S':Nat->Prop} {d:DV} {F F':Nat->Prop}
theorem Ok.KQ (h:Ok w S d F):X9 d:=by
 induction h with
 |lf a v F ha hF=>exact .lf a v ha.CR
 |nil k F hF=>exact .own _ _ _ _ (by simp)
 |own bx k rows b c arr E Fs F hb hk De hS hv hr hd BP Jb hF ih=>exact .own _ _ _ _ ih
 |agg cs Fs F hr hd BP hF ih=>exact .agg cs ih
 |BJ cs Fs F hr hd BP hF ih=>exact .BJ cs ih
theorem Ok.EZ (h:Ok w S d F):∀x,F x->¬S x:=by
 induction h with
 |lf a v F ha hF=>exactλx hx=>absurd hx (hF x)
 |nil k F hF=>exactλx hx=>absurd hx (hF x)
 |own bx k rows b c arr E Fs F hb hk De hS hv hr hd BP Jb hF ih=>
  intro x hx
  rcases(hF x).1 hx with rfl|⟨i,j,h⟩
  . exact hS
  . obtain⟨row,d,h1,h2⟩:=BP i j x h
    exact ih i j row d h1 h2 x h
 |agg cs Fs F hr hd BP hF ih=>
  intro x hx
  obtain⟨i,h⟩:=(hF x).1 hx
  obtain⟨d,h1⟩:=BP i x h
  exact ih i d h1 x h
 |BJ cs Fs F hr hd BP hF ih=>
  intro x hx
  obtain⟨i,h⟩:=(hF x).1 hx
  obtain⟨d,h1⟩:=BP i x h
  exact ih i d h1 x h
theorem Ok.lt (h:Ok w S d F):∀x,F x->x<w.heap.size:=by
 induction h with
 |lf a v F ha hF=>exactλx hx=>absurd hx (hF x)
 |nil k F hF=>exactλx hx=>absurd hx (hF x)
 |own bx k rows b c arr E Fs F hb hk De hS hv hr hd BP Jb hF ih=>
  intro x hx
  rcases(hF x).1 hx with rfl|⟨i,j,h⟩
  . exact(AAz.1 hb).1
  . obtain⟨row,d,h1,h2⟩:=BP i j x h
    exact ih i j row d h1 h2 x h
 |agg cs Fs F hr hd BP hF ih=>
  intro x hx
  obtain⟨i,h⟩:=(hF x).1 hx
  obtain⟨d,h1⟩:=BP i x h
  exact ih i d h1 x h
 |BJ cs Fs F hr hd BP hF ih=>
  intro x hx
  obtain⟨i,h⟩:=(hF x).1 hx
  obtain⟨d,h1⟩:=BP i x h
  exact ih i d h1 x h
theorem Ok.congr (h:Ok w S d F) (Vt:∀x,F' x↔F x):Ok w S d F':=by
 have:F'=F:=funext λx=>propext (Vt x)
 exact this▸h
theorem Ok.mono (h:Ok w S d F) (hw:∀b,S b->w'.heap[b]? =w.heap[b]?) (hf:∀b,F b->w'.heap[b]? =w.heap[b]?) (hS:∀b,S b->S' b) (hn:∀x,F x->¬S' x):Ok w' S' d F:=by
 induction h with
 |lf a v F ha hF=>exact .lf a v F (ha.mono hw hS) hF
 |nil k F hF=>exact .nil k F hF
 |own bx k rows b c arr E Fs F hb hk De Ko hv hr hd BP Jb hF ih=>
  refine .own bx k rows b c arr E Fs F ?_ hk De (hn b ((hF b).2 (.inl rfl))) hv (λi j row d h1 h2=>ih i j row d h1 h2 ?_ ?_) hd BP Jb hF
  . rw[hf b ((hF b).2 (.inl rfl))];exact hb
  . exactλx hx=>hf x ((hF x).2 (.inr ⟨i,j,hx⟩))
  . exactλx hx=>hn x ((hF x).2 (.inr ⟨i,j,hx⟩))
 |agg cs Fs F hr hd BP hF ih=>
  exact .agg cs Fs F (λi d h1=>ih i d h1 (λx hx=>hf x ((hF x).2 ⟨i,hx⟩)) (λx hx=>hn x ((hF x).2 ⟨i,hx⟩))) hd BP hF
 |BJ cs Fs F hr hd BP hF ih=>
  exact .BJ cs Fs F (λi d h1=>ih i d h1 (λx hx=>hf x ((hF x).2 ⟨i,hx⟩)) (λx hx=>hn x ((hF x).2 ⟨i,hx⟩))) hd BP hF
theorem Ok.Am {x:DV} {p:List Step} (h:Ok w S d F) (hs:Am d p=some x):∃F',Ok w S x F'/\∀y,F' y->F y:=by
 induction p generalizing d F with
 |nil=>simp only[Abs.Am,AAN]at hs;exact⟨F,hs▸h,λ_ h=>h⟩
 |cons s p ih=>
  obtain⟨i,j,k⟩:=s
  cases h with
  |lf a v _ ha hF=>simp[Abs.Am]at hs
  |nil k _ hF=>simp[Abs.Am]at hs
  |own bx k rows b c arr E Fs _ hb hk De Ko hv hr hd BP Jb hF=>
   simp only[Abs.Am]at hs
   split at hs
   . split at hs
     . rename_i row DZ _ e he
       obtain⟨F',h1,h2⟩:=ih (hr i j row e DZ he) hs
       exact⟨F',h1,λy hy=>(hF y).2 (.inr ⟨i,j,h2 y hy⟩)⟩
     . cases hs
   . cases hs
  |agg cs Fs _ hr hd BP hF=>
   simp only[Abs.Am]at hs
   split at hs
   . rename_i e he
     obtain⟨F',h1,h2⟩:=ih (hr j e he) hs
     exact⟨F',h1,λy hy=>(hF y).2 ⟨j,h2 y hy⟩⟩
   . cases hs
  |BJ cs Fs _ hr hd BP hF=>
   simp only[Abs.Am]at hs
   split at hs
   . rename_i e he
     obtain⟨F',h1,h2⟩:=ih (hr j e he) hs
     exact⟨F',h1,λy hy=>(hF y).2 ⟨j,h2 y hy⟩⟩
   . cases hs
mutual
def I0:AV->AV
 | .own false k rows=>.sl false k (MU rows)
 | .own true _ _=>.dead
 | .agg cs=>.agg (Xg cs)
 | .BJ cs=>.BJ (Xg cs)
 | .sc v=>.sc v
 | .sl x k rows=>.sl x k rows
 |_=>.dead
def Xg:List AV->List AV
 |[]=>[]
 |a::r=>I0 a::Xg r
def MU:List (List AV)->List (List AV)
 |[]=>[]
 |a::r=>Xg a::MU r
end
theorem U5 (l:List AV):Xg l=l.map I0:=by
 induction l with
 |nil=>rfl
 |cons d r ih=>simp[Xg,ih]
theorem U6 (l:List (List AV)):MU l=l.map (·.map I0):=by
 induction l with
 |nil=>rfl
 |cons d r ih=>simp[MU,ih,U5]
@[simp]theorem Mz (k:Nat) (rows:List (List AV)):I0 (.own false k rows)= .sl false k (rows.map (·.map I0)):=by simp[I0,U6]
@[simp]theorem kI (k:Nat) (rows:List (List AV)):I0 (.own true k rows)= .dead:=by simp[I0]
@[simp]theorem kH (cs:List AV):I0 (.agg cs)= .agg (cs.map I0):=by simp[I0,U5]
@[simp]theorem kJ (cs:List AV):I0 (.BJ cs)= .BJ (cs.map I0):=by simp[I0,U5]
@[simp]theorem frz_sc (v:Value):I0 (.sc v)= .sc v:=by simp[I0]
@[simp]theorem vR (x:Bool) (k:Nat) (rows:List (List AV)):I0 (.sl x k rows)= .sl x k rows:=by simp[I0]
theorem vQ {a:AV} {v:Value} (h:HK w S a v):Fz w S (I0 a) v:=by
 cases a with
 |sc u=>obtain⟨rfl,hp⟩:=h;simpa using Fz.sc v hp
 |sl x k rows=>rw[vR];exact h
 |_=>first|exact h.elim| (simp only[I0];exact .dead v)
theorem Ok.freeze (h:Ok w S d F):Fz w (λx=>S x∨F x) (I0 d.er) d.Aq:=by
 induction h with
 |lf a v F ha hF=>
  simp only[Ea,KZ]
  exact(vQ ha).mono (λ_ _=>rfl) (λ_ h=>.inl h)
 |nil k F hF=>simpa using Fz.nil false k none 0 (by simp)
 |own bx k rows b c arr E Fs F hb hk De Ko hv hr hd BP Jb hF ih=>
  cases bx with
  |true=>simp only[EE,kI];exact .dead _
  |false=>
   simp only[EE,Mz,KA,I7,List.map_map]
   have hlen:((rows.map ((λx=>x.map I0) ∘ λx=>x.map DV.er))).length=rows.length:=by simp
   rw[show(Value.slice (some ⟨b,0,none⟩) rows.length c)=Value.slice (some ⟨b,0,none⟩) (rows.map ((λx=>x.map I0) ∘ λx=>x.map DV.er)).length c from by rw[hlen]]
   refine Fz.sl false k _ b 0 c (λi j=>(arr[i*k+j]?).getD undef) (by simp) (by rw[hlen];simp at De;exact De.2) (.inr ((hF b).2 (.inl rfl))) ?_ ?_ ?_
   . intro row DZ
     obtain⟨r0,h0,rfl⟩:=List.mem_map.1 DZ
     simpa using hk r0 h0
   . intro i j row a h1 h2
     simp only[List.getElem?_map,Option.map_eq_some_iff]at h1
     obtain⟨r0,h0,rfl⟩:=h1
     simp only[Function.comp,List.map_map,List.getElem?_map,Option.map_eq_some_iff]at h2
     obtain⟨d0,h3,rfl⟩:=h2
     simp[World.cell?,hb,hv i j r0 d0 h0 h3]
   . intro i j row a h1 h2
     simp only[List.getElem?_map,Option.map_eq_some_iff]at h1
     obtain⟨r0,h0,rfl⟩:=h1
     simp only[Function.comp,List.map_map,List.getElem?_map,Option.map_eq_some_iff]at h2
     obtain⟨d0,h3,rfl⟩:=h2
     simp only[hv i j r0 d0 h0 h3,Option.getD_some]
     refine(ih i j r0 d0 h0 h3).mono (λ_ _=>rfl) ?_
     rintro x (h|h)
     . exact .inl h
     . exact .inr ((hF x).2 (.inr ⟨i,j,h⟩))
 |agg cs Fs F hr hd BP hF ih=>
  simp only[Gz,kH,JN]
  refine Fz.agg _ _ (by simp) ?_
  intro i a v h1 h2
  simp only[List.map_map,List.getElem?_map,Option.map_eq_some_iff]at h1 h2
  obtain⟨d1,h1,rfl⟩:=h1
  obtain⟨d2,h2,rfl⟩:=h2
  obtain rfl:d1=d2:=by rw[h1]at h2;exact Option.some.inj h2
  refine(ih i d1 h1).mono (λ_ _=>rfl) ?_
  rintro x (h|h)
  . exact .inl h
  . exact .inr ((hF x).2 ⟨i,h⟩)
 |BJ cs Fs F hr hd BP hF ih=>
  simp only[Iz,kJ,Km]
  refine Fz.BJ _ _ (by simp) ?_
  intro i a v h1 h2
  simp only[List.map_map,List.getElem?_map,Option.map_eq_some_iff]at h1 h2
  obtain⟨d1,h1,rfl⟩:=h1
  obtain⟨d2,h2,rfl⟩:=h2
  obtain rfl:d1=d2:=by rw[h1]at h2;exact Option.some.inj h2
  refine(ih i d1 h1).mono (λ_ _=>rfl) ?_
  rintro x (h|h)
  . exact .inl h
  . exact .inr ((hF x).2 ⟨i,h⟩)
end Go.Abs
namespace Go.Abs
variable {w w':World} {S S':Nat->Prop} {d:DV} {F F':Nat->Prop}
def Rg:Value->ABp Nat
 | .slice (some a) _ _=>some a.block
 | .pointer (some a)=>some a.block
 |_=>none
@[simp]theorem Vw (bx:Bool) (b n c:Nat):Rg (I7 bx b n c)=some b:=by cases bx<;>rfl
theorem lF {k i j i' j':Nat} (hj:j<k) (wW:j'<k) (h:i*k+j=i'*k+j'):i=i'/\j=j':=by
 have hk:0<k:=by omega
 have h1:(i*k+j)/k=i:=by rw[ABD,Nat.mul_add_div hk,Nat.div_eq_of_lt hj];rfl
 have h2:(i'*k+j')/k=i':=by rw[ABD,Nat.mul_add_div hk,Nat.div_eq_of_lt wW];rfl
 have h3:i=i':=by rw[← h1,← h2,h]
 subst h3
 exact⟨rfl,by omega⟩
theorem QM (w:World) (b o:Nat) (v:Value) (arr:Array Value) (E:TypeId) (fz:Nat×Nat) (hb:w.heap[b]? =some (.cells arr E fz)):
 (w.setCell ⟨b,o,none⟩ v).heap[b]? =some (.cells (arr.setIfInBounds o v) E fz):=by
 simp[World.setCell,ABX,hb]
theorem Cc (w:World) (b o x:Nat) (v:Value) (h:x≠b):(w.setCell ⟨b,o,none⟩ v).heap[x]? =w.heap[x]? :=by
 simp only[World.setCell,ABX]
 rw[AAX (by omega)]
theorem Q1 {α:Type} {rows:List (List α)} {k i j:Nat} {row:List α} {x:α} (hk:∀row∈rows,row.length=k) (h1:rows[i]? =some row) (h2:row[j]? =some x):j<k:=by
 have:=hk row (AAb h1)
 have:=(AAQ.1 h2).1
 omega
theorem Ok.store {new:DV} {Fn:Nat->Prop} {k i j:Nat} {bx:Bool} {rows:List (List DV)} {row:List DV} {old:DV} {hv:Value} {b:Nat} (p:List Step)
 (h:Ok w S d F) (hs:Abs.Am d p=some (.own hv bx k rows)) (h1:rows[i]? =some row) (h2:row[j]? =some old) (hb:Rg hv=some b)
 (hn:Ok (w.setCell ⟨b,i*k+j,none⟩ new.Aq) S new Fn) (CS:∀x,Fn x->¬F x):
 ∃t F',DA d (p++[(i,j,k)]) new=some t/\Ok (w.setCell ⟨b,i*k+j,none⟩ new.Aq) S t F'/\(∀x,F' x->F x∨Fn x)/\t.Aq=d.Aq/\F b:=by
 induction p generalizing d F with
 |nil=>
  simp only[Abs.Am,AAN]at hs
  subst hs
  generalize hvv:hv=bJ at h
  cases h with
  |nil k _ hF=>simp at h1
  |own _ _ _ b' c arr E Fs _ kS hk De Ko hv hr hd BP Jb hF=>
   subst hvv
   simp only[Vw,AAN]at hb
   subst hb
   have hjk:=Q1 hk h1 h2
   have D5:=(AAQ.1 h1).1
   have Ml:=(AAQ.1 h2).1
   have UP:i*k+j<arr.size:=by
    have:=hv i j row old h1 h2
    exact(AAz.1 this).1
   refine⟨.own (I7 bx b' rows.length c) bx k (rows.set i (row.set j new)),λx=>x=b'∨∃i' j',(if i'=i/\j'=j then Fn else Fs i' j') x,?_,?_,?_,by simp,(hF b').2 (.inl rfl)⟩
   . simp[DA,h1,h2]
   . rw[show(I7 bx b' rows.length c)=I7 bx b' (rows.set i (row.set j new)).length c from by simp]
     refine Ok.own bx k _ b' c (arr.setIfInBounds (i*k+j) new.Aq) E (λi' j'=>if i'=i/\j'=j then Fn else Fs i' j') _ (QM _ _ _ _ _ _ _ kS) ?_ ?_ Ko ?_ ?_ ?_ ?_ ?_ (λx=>ABe)
     . intro r XK
       rcases AAv XK with h|rfl
       . exact hk r h
       . simp[hk row (AAb h1)]
     . simpa using De
     . intro i' j' r e h3 h4
       by_cases hi:i'=i
       . subst hi
         rw[AAS D5]at h3
         obtain rfl:=AAR h3
         by_cases hj:j'=j
         . subst hj
           rw[AAS Ml]at h4
           obtain rfl:=AAR h4
           simp[UP]
         . rw[AAV (by omega)]at h4
           rw[Array.getElem?_setIfInBounds_ne (by have:=Q1 hk h1 h4;omega)]
           exact hv i' j' row e h1 h4
       . rw[AAV (by omega)]at h3
         rw[Array.getElem?_setIfInBounds_ne]
         . exact hv i' j' r e h3 h4
         . intro he
           exact hi (lF (Q1 hk h3 h4) hjk he.symm).1
     . intro i' j' r e h3 h4
       by_cases IV:i'=i/\j'=j
       . obtain⟨rfl,rfl⟩:=IV
         rw[AAS D5]at h3
         obtain rfl:=AAR h3
         rw[AAS Ml]at h4
         obtain rfl:=AAR h4
         simpa using hn
       . simp only[IV,AAe]
         have hold:Ok w S e (Fs i' j'):=by
          by_cases hi:i'=i
          . subst hi
            have hj:j'≠j:=λe=>IV ⟨rfl,e⟩
            rw[AAS D5]at h3
            obtain rfl:=AAR h3
            rw[AAV (by omega)]at h4
            exact hr i' j' row e h1 h4
          . rw[AAV (by omega)]at h3
            exact hr i' j' r e h3 h4
         refine hold.mono (λx hx=>Cc _ _ _ _ _ ?_) (λx hx=>Cc _ _ _ _ _ ?_) (λ_ h=>h) hold.EZ
         . rintro rfl;exact Ko hx
         . rintro rfl;exact Jb _ _ hx
     . intro i1 j1 i2 j2 x hx hy
       split at hx<;>split at hy
       . rename_i a b;omega
       . exact absurd ((hF x).2 (.inr ⟨i2,j2,hy⟩)) (CS x hx)
       . exact absurd ((hF x).2 (.inr ⟨i1,j1,hx⟩)) (CS x hy)
       . exact hd _ _ _ _ x hx hy
     . intro i1 j1 x hx
       split at hx
       . rename_i IV
         obtain⟨rfl,rfl⟩:=IV
         exact⟨_,new,AAS D5,AAS Ml⟩
       . obtain⟨r,e,h3,h4⟩:=BP i1 j1 x hx
         by_cases hi:i1=i
         . subst hi
           rename_i Np
           have hj:j1≠j:=λe=>Np ⟨rfl,e⟩
           obtain rfl:row=r:=by rw[h1]at h3;exact AAR h3
           exact⟨_,e,AAS D5,by rw[AAV (by omega)];exact h4⟩
         . exact⟨r,e,by rw[AAV (by omega)];exact h3,h4⟩
     . intro i1 j1 hx
       split at hx
       . exact CS b' hx ((hF b').2 (.inl rfl))
       . exact Jb _ _ hx
   . rintro x (rfl|⟨i1,j1,hx⟩)
     . exact .inl ((hF x).2 (.inl rfl))
     . split at hx
       . exact .inr hx
       . exact .inl ((hF x).2 (.inr ⟨i1,j1,hx⟩))
 |cons s p ih=>
  obtain⟨i0,j0,k0⟩:=s
  cases h with
  |lf a v _ ha hF=>simp[Abs.Am]at hs
  |nil k _ hF=>simp[Abs.Am]at hs
  |own uT k1 KT b0 c arr E Fs _ kS hk De Ko hv hr hd BP Jb hF=>
   simp only[Abs.Am]at hs
   split at hs
   . split at hs
     . rename_i N9 Jl _ e0 QF
       obtain⟨t,F0,ht,CH,Bb,C9,QA⟩:=ih (hr i0 j0 N9 e0 Jl QF) hs (λx hx hf=>CS x hx ((hF x).2 (.inr ⟨i0,j0,hf⟩)))
       have Np:b0≠b:=by rintro rfl;exact Jb _ _ QA
       have D5:=(AAQ.1 Jl).1
       have Ml:=(AAQ.1 QF).1
       refine⟨.own (I7 uT b0 KT.length c) uT k1 (KT.set i0 (N9.set j0 t)),λx=>x=b0∨∃i' j',(if i'=i0/\j'=j0 then F0 else Fs i' j') x,?_,?_,?_,by simp,(hF b).2 (.inr ⟨i0,j0,QA⟩)⟩
       . simp[DA,Jl,QF,ht]
       . rw[show(I7 uT b0 KT.length c)=I7 uT b0 (KT.set i0 (N9.set j0 t)).length c from by simp]
         refine Ok.own uT k1 _ b0 c arr E (λi' j'=>if i'=i0/\j'=j0 then F0 else Fs i' j') _ (by rw[Cc _ _ _ _ _ Np];exact kS) ?_ (by simpa using De) Ko ?_ ?_ ?_ ?_ ?_ (λx=>ABe)
         . intro r XK
           rcases AAv XK with h|rfl
           . exact hk r h
           . simp[hk N9 (AAb Jl)]
         . intro i' j' r e h3 h4
           by_cases hi:i'=i0
           . subst hi
             rw[AAS D5]at h3
             obtain rfl:=AAR h3
             by_cases hj:j'=j0
             . subst hj
               rw[AAS Ml]at h4
               obtain rfl:=AAR h4
               rw[C9]
               exact hv i' j' N9 e0 Jl QF
             . rw[AAV (by omega)]at h4
               exact hv i' j' N9 e Jl h4
           . rw[AAV (by omega)]at h3
             exact hv i' j' r e h3 h4
         . intro i' j' r e h3 h4
           by_cases IV:i'=i0/\j'=j0
           . obtain⟨rfl,rfl⟩:=IV
             rw[AAS D5]at h3
             obtain rfl:=AAR h3
             rw[AAS Ml]at h4
             obtain rfl:=AAR h4
             simpa using CH
           . simp only[IV,AAe]
             have hold:Ok w S e (Fs i' j'):=by
              by_cases hi:i'=i0
              . subst hi
                have hj:j'≠j0:=λe=>IV ⟨rfl,e⟩
                rw[AAS D5]at h3
                obtain rfl:=AAR h3
                rw[AAV (by omega)]at h4
                exact hr i' j' N9 e Jl h4
              . rw[AAV (by omega)]at h3
                exact hr i' j' r e h3 h4
             refine hold.mono (λx hx=>Cc _ _ _ _ _ ?_) (λx hx=>Cc _ _ _ _ _ ?_) (λ_ h=>h) hold.EZ
             . rintro rfl;exact(hr i0 j0 N9 e0 Jl QF).EZ x QA hx
             . rintro rfl;exact IV (hd _ _ _ _ x hx QA)
         . intro i1 j1 i2 j2 x hx hy
           split at hx<;>split at hy
           . rename_i a b;omega
           . rename_i a b
             rcases Bb x hx with h|h
             . exact absurd (hd _ _ _ _ x hy h) b
             . exact absurd ((hF x).2 (.inr ⟨i2,j2,hy⟩)) (CS x h)
           . rename_i a b
             rcases Bb x hy with h|h
             . exact absurd (hd _ _ _ _ x hx h) a
             . exact absurd ((hF x).2 (.inr ⟨i1,j1,hx⟩)) (CS x h)
           . exact hd _ _ _ _ x hx hy
         . intro i1 j1 x hx
           split at hx
           . rename_i IV
             obtain⟨rfl,rfl⟩:=IV
             exact⟨_,t,AAS D5,AAS Ml⟩
           . obtain⟨r,e,h3,h4⟩:=BP i1 j1 x hx
             by_cases hi:i1=i0
             . subst hi
               rename_i Np
               have hj:j1≠j0:=λe=>Np ⟨rfl,e⟩
               obtain rfl:N9=r:=by rw[Jl]at h3;exact AAR h3
               exact⟨_,e,AAS D5,by rw[AAV (by omega)];exact h4⟩
             . exact⟨r,e,by rw[AAV (by omega)];exact h3,h4⟩
         . intro i1 j1 hx
           split at hx
           . rcases Bb b0 hx with h|h
             . exact Jb _ _ h
             . exact CS b0 h ((hF b0).2 (.inl rfl))
           . exact Jb _ _ hx
       . rintro x (rfl|⟨i1,j1,hx⟩)
         . exact .inl ((hF x).2 (.inl rfl))
         . split at hx
           . rcases Bb x hx with h|h
             . exact .inl ((hF x).2 (.inr ⟨i0,j0,h⟩))
             . exact .inr h
           . exact .inl ((hF x).2 (.inr ⟨i1,j1,hx⟩))
     . cases hs
   . cases hs
  |agg cs Fs _ hr hd BP hF=>
   simp only[Abs.Am]at hs
   split at hs
   . rename_i e0 QF
     obtain⟨t,F0,ht,CH,Bb,C9,QA⟩:=ih (hr j0 e0 QF) hs (λx hx hf=>CS x hx ((hF x).2 ⟨j0,hf⟩))
     have Ml:=(AAQ.1 QF).1
     refine⟨.agg (cs.set j0 t),λx=>∃i',(if i'=j0 then F0 else Fs i') x,by simp[DA,QF,ht],?_,?_,?_,(hF b).2 ⟨j0,QA⟩⟩
     . refine Ok.agg _ (λi'=>if i'=j0 then F0 else Fs i') _ ?_ ?_ ?_ (λx=>ABe)
       . intro i' e h4
         by_cases hi:i'=j0
         . subst hi
           rw[AAS Ml]at h4
           obtain rfl:=AAR h4
           simpa using CH
         . simp only[hi,AAe]
           rw[AAV (by omega)]at h4
           refine(hr i' e h4).mono (λx hx=>Cc _ _ _ _ _ ?_) (λx hx=>Cc _ _ _ _ _ ?_) (λ_ h=>h) (hr i' e h4).EZ
           . rintro rfl;exact(hr j0 e0 QF).EZ x QA hx
           . rintro rfl;exact hi (hd _ _ x hx QA)
       . intro i1 i2 x hx hy
         split at hx<;>split at hy
         . omega
         . rename_i a b
           rcases Bb x hx with h|h
           . exact absurd (hd _ _ x hy h) b
           . exact absurd ((hF x).2 ⟨i2,hy⟩) (CS x h)
         . rename_i a b
           rcases Bb x hy with h|h
           . exact absurd (hd _ _ x hx h) a
           . exact absurd ((hF x).2 ⟨i1,hx⟩) (CS x h)
         . exact hd _ _ x hx hy
       . intro i1 x hx
         split at hx
         . rename_i IV;subst IV;exact⟨t,AAS Ml⟩
         . rename_i IV
           obtain⟨e,h3⟩:=BP i1 x hx
           exact⟨e,by rw[AAV (by omega)];exact h3⟩
     . rintro x ⟨i1,hx⟩
       split at hx
       . rcases Bb x hx with h|h
         . exact .inl ((hF x).2 ⟨j0,h⟩)
         . exact .inr h
       . exact .inl ((hF x).2 ⟨i1,hx⟩)
     . simp only[JN,List.map_set,C9]
       congr 2
       apply ABV
       intro n
       by_cases hn:n=j0
       . subst hn;rw[AAS (by simpa using Ml)];simp[QF]
       . rw[AAV (by omega)]
   . cases hs
  |BJ cs Fs _ hr hd BP hF=>
   simp only[Abs.Am]at hs
   split at hs
   . rename_i e0 QF
     obtain⟨t,F0,ht,CH,Bb,C9,QA⟩:=ih (hr j0 e0 QF) hs (λx hx hf=>CS x hx ((hF x).2 ⟨j0,hf⟩))
     have Ml:=(AAQ.1 QF).1
     refine⟨.BJ (cs.set j0 t),λx=>∃i',(if i'=j0 then F0 else Fs i') x,by simp[DA,QF,ht],?_,?_,?_,(hF b).2 ⟨j0,QA⟩⟩
     . refine Ok.BJ _ (λi'=>if i'=j0 then F0 else Fs i') _ ?_ ?_ ?_ (λx=>ABe)
       . intro i' e h4
         by_cases hi:i'=j0
         . subst hi
           rw[AAS Ml]at h4
           obtain rfl:=AAR h4
           simpa using CH
         . simp only[hi,AAe]
           rw[AAV (by omega)]at h4
           refine(hr i' e h4).mono (λx hx=>Cc _ _ _ _ _ ?_) (λx hx=>Cc _ _ _ _ _ ?_) (λ_ h=>h) (hr i' e h4).EZ
           . rintro rfl;exact(hr j0 e0 QF).EZ x QA hx
           . rintro rfl;exact hi (hd _ _ x hx QA)
       . intro i1 i2 x hx hy
         split at hx<;>split at hy
         . omega
         . rename_i a b
           rcases Bb x hx with h|h
           . exact absurd (hd _ _ x hy h) b
           . exact absurd ((hF x).2 ⟨i2,hy⟩) (CS x h)
         . rename_i a b
           rcases Bb x hy with h|h
           . exact absurd (hd _ _ x hx h) a
           . exact absurd ((hF x).2 ⟨i1,hx⟩) (CS x h)
         . exact hd _ _ x hx hy
       . intro i1 x hx
         split at hx
         . rename_i IV;subst IV;exact⟨t,AAS Ml⟩
         . rename_i IV
           obtain⟨e,h3⟩:=BP i1 x hx
           exact⟨e,by rw[AAV (by omega)];exact h3⟩
     . rintro x ⟨i1,hx⟩
       split at hx
       . rcases Bb x hx with h|h
         . exact .inl ((hF x).2 ⟨j0,h⟩)
         . exact .inr h
       . exact .inl ((hF x).2 ⟨i1,hx⟩)
     . simp only[Km,List.map_set,C9]
       congr 2
       apply ABV
       intro n
       by_cases hn:n=j0
       . subst hn;rw[AAS (by simpa using Ml)];simp[QF]
       . rw[AAV (by omega)]
   . cases hs
end Go.Abs
namespace Go.Abs
structure Gi where
 rt:List (Nat×List Nat)
def Gi.GJ (G:Gi) (s:Nat):List Nat:=match G.rt.find? (·.1==s)with
 |some x=>x.2
 |none=>[]
def Gi.NW (G:Gi) (d:Nat):List Nat:=(G.rt.filter (λx=>x.2.contains d)).map (·.1)
theorem Gi.lK {G:Gi} {s d:Nat} (h:d∈G.GJ s):s∈G.NW d:=by
 unfold Gi.GJ at h
 split at h
 . rename_i x hx
   have h1:=List.find?_some hx
   have h2:=ABb hx
   simp only[AAd]at h1
   subst h1
   simp only[Gi.NW,ABZ,List.mem_filter]
   exact⟨x,⟨h2,by simpa using h⟩,rfl⟩
 . cases h
mutual
def E9 (L:List Nat):AV->Bool
 | .al r _=>L.contains r
 | .KG r _ _ _ _=>L.contains r
 | .cl _ rs=>rs.all λx=>L.contains x.1
 | .vb s _ _=>L.contains s
 | .agg cs=>O6 L cs
 | .BJ cs=>O6 L cs
 |_=>true
def O6 (L:List Nat):List AV->Bool
 |[]=>true
 |a::r=>E9 L a&&O6 L r
end
theorem VD (L:List Nat) (l:List AV):O6 L l=l.all (E9 L):=by
 induction l with
 |nil=>rfl
 |cons d r ih=>simp[O6,ih]
mutual
def E8 (d:Nat):AV->Bool
 | .al r _=>r != d
 | .KG r _ _ _ _=>r != d
 | .cl _ rs=>rs.all λx=>x.1 != d
 | .vb s _ _=>s != d
 | .agg cs=>NB d cs
 | .BJ cs=>NB d cs
 |_=>true
def NB (d:Nat):List AV->Bool
 |[]=>true
 |a::r=>E8 d a&&NB d r
end
theorem Yh (d:Nat) (l:List AV):NB d l=l.all (E8 d):=by
 induction l with
 |nil=>rfl
 |cons a r ih=>simp[NB,ih]
mutual
def C8 (d:Nat):AV->AV
 | .al r p=>if r=d then .dead else .al r p
 | .KG r p i j k=>if r=d then .dead else .KG r p i j k
 | .cl f rs=>if(rs.all λx=>x.1 != d)=true then .cl f rs else .dead
 | .vb s o us=>if s=d then .dead else .vb s o us
 | .agg cs=>.agg (Oa d cs)
 | .BJ cs=>.BJ (Oa d cs)
 |a=>a
def Oa (d:Nat):List AV->List AV
 |[]=>[]
 |a::r=>C8 d a::Oa d r
end
theorem Yc (d:Nat) (l:List AV):Oa d l=l.map (C8 d):=by
 induction l with
 |nil=>rfl
 |cons a r ih=>simp[Oa,ih]
@[simp]theorem rin_sc (L:List Nat) (v:Value):E9 L (.sc v)=true:=by simp[E9]
@[simp]theorem rin_sl (L:List Nat) (x:Bool) (k:Nat) (rows:List (List AV)):E9 L (.sl x k rows)=true:=by simp[E9]
@[simp]theorem rin_own (L:List Nat) (x:Bool) (k:Nat) (rows:List (List AV)):E9 L (.own x k rows)=true:=by simp[E9]
@[simp]theorem rin_fp (L:List Nat) (cs:List AV):E9 L (.fp cs)=true:=by simp[E9]
@[simp]theorem rin_dead (L:List Nat):E9 L .dead=true:=by simp[E9]
@[simp]theorem rin_un (L:List Nat):E9 L .un=true:=by simp[E9]
@[simp]theorem JY (L:List Nat) (r:Nat) (p:List Step):E9 L (.al r p)=L.contains r:=by simp[E9]
@[simp]theorem VE (L:List Nat) (r:Nat) (p:List Step) (i j k:Nat):E9 L (.KG r p i j k)=L.contains r:=by simp[E9]
@[simp]theorem JX (L:List Nat) (cs:List AV):E9 L (.agg cs)=cs.all (E9 L):=by simp[E9,VD]
@[simp]theorem NI (L:List Nat) (cs:List AV):E9 L (.BJ cs)=cs.all (E9 L):=by simp[E9,VD]
@[simp]theorem killr_sc (d:Nat) (v:Value):C8 d (.sc v)= .sc v:=by simp[C8]
@[simp]theorem killr_sl (d:Nat) (x:Bool) (k:Nat) (rows:List (List AV)):C8 d (.sl x k rows)= .sl x k rows:=by simp[C8]
@[simp]theorem killr_own (d:Nat) (x:Bool) (k:Nat) (rows:List (List AV)):C8 d (.own x k rows)= .own x k rows:=by simp[C8]
@[simp]theorem killr_fp (d:Nat) (cs:List AV):C8 d (.fp cs)= .fp cs:=by simp[C8]
@[simp]theorem killr_dead (d:Nat):C8 d .dead= .dead:=by simp[C8]
@[simp]theorem killr_un (d:Nat):C8 d .un= .un:=by simp[C8]
@[simp]theorem WE (d r:Nat) (p:List Step):C8 d (.al r p)=if r=d then .dead else .al r p:=by simp[C8]
@[simp]theorem TO (d r:Nat) (p:List Step) (i j k:Nat):C8 d (.KG r p i j k)=if r=d then .dead else .KG r p i j k:=by simp[C8]
@[simp]theorem Yd (d:Nat) (cs:List AV):C8 d (.agg cs)= .agg (cs.map (C8 d)):=by simp[C8,Yc]
@[simp]theorem Ye (d:Nat) (cs:List AV):C8 d (.BJ cs)= .BJ (cs.map (C8 d)):=by simp[C8,Yc]
@[simp]theorem rin_fcl (L:List Nat) (f:Nat) (U4:List (List AV)):E9 L (.fZ f U4)=true:=by simp[E9]
@[simp]theorem killr_fcl (d f:Nat) (U4:List (List AV)):C8 d (.fZ f U4)= .fZ f U4:=by simp[C8]
@[simp]theorem rin_vb (L:List Nat) (s o:Nat) (us:List Value):E9 L (.vb s o us)=L.contains s:=by simp[E9]
@[simp]theorem WG (d s o:Nat) (us:List Value):C8 d (.vb s o us)=if s=d then .dead else .vb s o us:=by simp[C8]
@[simp]theorem nroot_vb (d s o:Nat) (us:List Value):E8 d (.vb s o us)=(s != d):=by simp[E8]
@[simp]theorem iV (L:List Nat) (f:Nat) (rs:List (Nat×List Step)):E9 L (.cl f rs)=rs.all λx=>L.contains x.1:=by simp[E9]
@[simp]theorem Rp (d f:Nat) (rs:List (Nat×List Step)):C8 d (.cl f rs)=if(rs.all λx=>x.1 != d)=true then .cl f rs else .dead:=by simp[C8]
@[simp]theorem nroot_cl (d f:Nat) (rs:List (Nat×List Step)):E8 d (.cl f rs)=rs.all λx=>x.1 != d:=by simp[E8]
@[simp]theorem pY (d:Nat) (cs:List AV):E8 d (.agg cs)=cs.all (E8 d):=by simp[E8,Yh]
@[simp]theorem p5 (d:Nat) (cs:List AV):E8 d (.BJ cs)=cs.all (E8 d):=by simp[E8,Yh]
@[simp]theorem nroot_al (d r:Nat) (p:List Step):E8 d (.al r p)=(r != d):=by simp[E8]
@[simp]theorem nroot_adr (d r:Nat) (p:List Step) (i j k:Nat):E8 d (.KG r p i j k)=(r != d):=by simp[E8]
mutual
def Gn (d:Nat):DV->DV
 | .lf a v=>.lf (C8 d a) v
 | .own h b k rows=>.own h b k rows
 | .agg cs=>.agg (V7 d cs)
 | .BJ cs=>.BJ (V7 d cs)
def V7 (d:Nat):List DV->List DV
 |[]=>[]
 |a::r=>Gn d a::V7 d r
end
theorem YX (d:Nat) (l:List DV):V7 d l=l.map (Gn d):=by
 induction l with
 |nil=>rfl
 |cons a r ih=>simp[V7,ih]
@[simp]theorem V8 (d:Nat) (a:AV) (v:Value):Gn d (.lf a v)= .lf (C8 d a) v:=by simp[Gn]
@[simp]theorem MZ (d:Nat) (h:Value) (b:Bool) (k:Nat) (rows:List (List DV)):Gn d (.own h b k rows)= .own h b k rows:=by simp[Gn]
@[simp]theorem Js (d:Nat) (cs:List DV):Gn d (.agg cs)= .agg (cs.map (Gn d)):=by simp[Gn,YX]
@[simp]theorem Jt (d:Nat) (cs:List DV):Gn d (.BJ cs)= .BJ (cs.map (Gn d)):=by simp[Gn,YX]
variable {w w':World} {S S':Nat->Prop} {x:DV} {F F':Nat->Prop}
theorem KP (d:Nat) (h:Ok w S x F):(Gn d x).er=C8 d x.er/\(Gn d x).Aq=x.Aq/\Ok w S (Gn d x) F/\E8 d (Gn d x).er=true:=by
 induction h with
 |lf a v F ha hF=>
  refine⟨by simp,by simp,?_,?_⟩
  . rw[V8]
    refine .lf _ v F ?_ hF
    cases a with
    |al r p=>rw[WE];by_cases h:r=d<;>simp[h,HK]
    |KG r p i j k=>rw[TO];by_cases h:r=d<;>simp[h,HK]
    |cl f rs=>rw[Rp];split<;>trivial
    |vb s o us=>rw[WG];split<;>first|trivial|exact ha
    |agg cs=>exact ha.elim
    |BJ cs=>exact ha.elim
    |own=>exact ha.elim
    |_=>simpa using ha
  . have:=ha.CR
    cases a with
    |al r p=>by_cases h:r=d<;>simp[h,E8]
    |KG r p i j k=>by_cases h:r=d<;>simp[h,E8]
    |vb s o us=>by_cases h:s=d<;>simp[h,E8]
    |cl f rs=>
     simp only[V8,Ea,Rp]
     split
     . rename_i h;simpa using h
     . simp[E8]
    |agg cs=>exact ha.elim
    |BJ cs=>exact ha.elim
    |own=>exact ha.elim
    |_=>simp[E8]
 |nil k F hF=>exact⟨by simp,by simp,by rw[MZ];exact .nil k F hF,by simp[E8]⟩
 |own bx k rows b c arr E Fs F hb hk De Ko hv hr hd BP Jb hF ih=>
  exact⟨by simp,by simp,by rw[MZ];exact .own bx k rows b c arr E Fs F hb hk De Ko hv hr hd BP Jb hF,by simp[E8]⟩
 |agg cs Fs F hr hd BP hF ih=>
  have key:∀e∈cs,(Gn d e).er=C8 d e.er/\(Gn d e).Aq=e.Aq/\E8 d (Gn d e).er=true:=by
   intro e he
   obtain⟨i,hi⟩:=List.getElem?_of_mem he
   exact⟨(ih i e hi).1,(ih i e hi).2.1,(ih i e hi).2.2.2⟩
  refine⟨?_,?_,?_,?_⟩
  . simp only[Js,Gz,Yd,List.map_map,AV.agg.injEq]
    exact List.map_congr_left λe he=>(key e he).1
  . simp only[Js,JN,List.map_map]
    congr 2
    exact List.map_congr_left λe he=>(key e he).2.1
  . rw[Js]
    refine .agg _ Fs F ?_ hd ?_ hF
    . intro i e h1
      simp only[List.getElem?_map,Option.map_eq_some_iff]at h1
      obtain⟨e0,h0,rfl⟩:=h1
      exact(ih i e0 h0).2.2.1
    . intro i x hx
      obtain⟨e,h1⟩:=BP i x hx
      exact⟨Gn d e,by simp[h1]⟩
  . simp only[Js,Gz,pY,List.map_map,List.all_map,List.all_eq_true]
    exactλe he=>(key e he).2.2
 |BJ cs Fs F hr hd BP hF ih=>
  have key:∀e∈cs,(Gn d e).er=C8 d e.er/\(Gn d e).Aq=e.Aq/\E8 d (Gn d e).er=true:=by
   intro e he
   obtain⟨i,hi⟩:=List.getElem?_of_mem he
   exact⟨(ih i e hi).1,(ih i e hi).2.1,(ih i e hi).2.2.2⟩
  refine⟨?_,?_,?_,?_⟩
  . simp only[Jt,Iz,Ye,List.map_map,AV.BJ.injEq]
    exact List.map_congr_left λe he=>(key e he).1
  . simp only[Jt,Km,List.map_map]
    congr 2
    exact List.map_congr_left λe he=>(key e he).2.1
  . rw[Jt]
    refine .BJ _ Fs F ?_ hd ?_ hF
    . intro i e h1
      simp only[List.getElem?_map,Option.map_eq_some_iff]at h1
      obtain⟨e0,h0,rfl⟩:=h1
      exact(ih i e0 h0).2.2.1
    . intro i x hx
      obtain⟨e,h1⟩:=BP i x hx
      exact⟨Gn d e,by simp[h1]⟩
  . simp only[Jt,Iz,p5,List.map_map,List.all_map,List.all_eq_true]
    exactλe he=>(key e he).2.2
def Lp (δ:Nat->DV):AV->Value->Prop
 | .al r p,v=>∃bx k rows,Am (δ r) p=some (.own v bx k rows)
 | .KG r p i j k,v=>∃h bx rows b,Am (δ r) p=some (.own h bx k rows)/\Rg h=some b/\v= .pointer (some ⟨b,i*k+j,none⟩)
 | .vb s _ us,_=>(δ s).Aq= .agg us.toArray
 | .cl f rs,v=>∃vs:List Value,v= .func (.func f) #[] vs.toArray/\vs.length=rs.length/\∀(i:Nat) r p u,rs[i]? =some (r,p)->vs[i]? =some u->∃bx k rows,Am (δ r) p=some (.own u bx k rows)
 |_,_=>True
inductive C3 (δ:Nat->DV):DV->Prop
 |lf (a v) (h:Lp δ a v):C3 δ (.lf a v)
 |own (h b k rows):C3 δ (.own h b k rows)
 |agg (cs) (hr:∀(i:Nat) d,cs[i]? =some d->C3 δ d):C3 δ (.agg cs)
 |BJ (cs) (hr:∀(i:Nat) d,cs[i]? =some d->C3 δ d):C3 δ (.BJ cs)
theorem C3.mono {δ δ':Nat->DV} {L:List Nat} (h:C3 δ x) (hr:E9 L x.er=true)
 (hk:∀r∈L,∀p v bx k rows,Am (δ r) p=some (.own v bx k rows)->∃rows',Am (δ' r) p=some (.own v bx k rows')) (V1:∀r∈L,(δ' r).Aq=(δ r).Aq):C3 δ' x:=by
 induction h with
 |lf a v h=>
  refine .lf a v ?_
  cases a with
  |al r p=>
   obtain⟨bx,k,rows,h⟩:=h
   obtain⟨rows',h'⟩:=hk r (by simpa using hr) p v bx k rows h
   exact⟨bx,k,rows',h'⟩
  |KG r p i j k=>
   obtain⟨hh,bx,rows,b,h,hb,rfl⟩:=h
   obtain⟨rows',h'⟩:=hk r (by simpa using hr) p hh bx k rows h
   exact⟨hh,bx,rows',b,h',hb,rfl⟩
  |vb s o us=>exact(V1 s (by simpa using hr)).trans h
  |cl f rs=>
   obtain⟨vs,h1,h2,h3⟩:=h
   refine⟨vs,h1,h2,λi r p u hi hu=> ?_⟩
   obtain⟨bx,k,rows,hs⟩:=h3 i r p u hi hu
   simp only[Ea,iV,List.all_eq_true]at hr
   obtain⟨rows',h'⟩:=hk r (by simpa using hr _ (List.mem_of_getElem? hi)) p u bx k rows hs
   exact⟨bx,k,rows',h'⟩
  |_=>trivial
 |own=>exact .own _ _ _ _
 |agg cs _ ih=>
  refine .agg cs λi d hd=>ih i d hd ?_
  simp only[Gz,JX,List.all_map,List.all_eq_true]at hr
  exact hr d (List.mem_of_getElem? hd)
 |BJ cs _ ih=>
  refine .BJ cs λi d hd=>ih i d hd ?_
  simp only[Iz,NI,List.all_map,List.all_eq_true]at hr
  exact hr d (List.mem_of_getElem? hd)
theorem qF {L:List Nat} {d:Nat} {a:AV}:E9 L a=true->d∉L->E8 d a=true:=by
 refine AV.rec (motive_1:=λa=>E9 L a=true->d∉L->E8 d a=true) (motive_2:=λ_=>True) (motive_3:=λl=>O6 L l=true->d∉L->NB d l=true)
  ?_ ?_ ?_ ?_ ?_ ?_ ?_ ?_ ?_ ?_ ?_ ?_ ?_ ?_ ?_ ?_ ?_ a
 all_goals intros
 all_goals first|trivial|simp[E8];done|skip
 all_goals simp_all [E9,O6,NB,E8]
 all_goals first
  | (rintro rfl;simp_all;done)
  | (rename_i h1 h2;intro a b hb e;subst e;exact h2 (h1 _ b hb))
theorem pG {L:List Nat} {d:Nat} {a:AV}:E9 L a=true->E9 L (C8 d a)=true:=by
 refine AV.rec (motive_1:=λa=>E9 L a=true->E9 L (C8 d a)=true) (motive_2:=λ_=>True) (motive_3:=λl=>O6 L l=true->O6 L (Oa d l)=true)
  ?_ ?_ ?_ ?_ ?_ ?_ ?_ ?_ ?_ ?_ ?_ ?_ ?_ ?_ ?_ ?_ ?_ a
 all_goals intros
 all_goals first|trivial| (simp_all [E9,O6,C8,Oa];done)|skip
 all_goals first
  | (simp only[C8];split<;>simp_all [E9];done)
  | (simp only[C8];split<;>first|assumption|simp[E9])
  | (rename_i ih h;simp only[C8,E9]at h ⊢;exact ih h)
end Go.Abs
namespace Go.Abs
variable {w w':World} {S S':Nat->Prop} {d:DV} {F F':Nat->Prop}
theorem Ok.replace {n:DV} (p:List Step) (h:Ok w S d F) (hs:Abs.Am d p=some n):
 ∃Fo,Ok w S n Fo/\(∀x,Fo x->F x)/\∀(w':World) (S':Nat->Prop) (new:DV) (Fn:Nat->Prop),new.Aq=n.Aq->Ok w' S' new Fn->
  (∀x,Fn x->F x->Fo x)->(∀b,S b->w'.heap[b]? =w.heap[b]?)->(∀b,F b->¬Fo b->w'.heap[b]? =w.heap[b]?)->(∀b,S b->S' b)->(∀b,F b->¬Fo b->¬S' b)->
  ∃t F',DA d p new=some t/\Ok w' S' t F'/\(∀x,F' x↔(F x/\¬Fo x)∨Fn x)/\t.Aq=d.Aq:=by
 induction p generalizing d F with
 |nil=>
  simp only[Abs.Am,AAN]at hs
  subst hs
  refine⟨F,h,λ_ h=>h,λw' S' new Fn ha hn _ _ _ _ _=>⟨new,Fn,rfl,hn,λx=>⟨.inr,?_⟩,ha⟩⟩
  rintro(⟨h1,h2⟩|h)
  . exact absurd h1 h2
  . exact h
 |cons s p ih=>
  obtain⟨i0,j0,k0⟩:=s
  cases h with
  |lf a v _ ha hF=>simp[Abs.Am]at hs
  |nil k _ hF=>simp[Abs.Am]at hs
  |own uT k1 KT b0 c arr E Fs _ kS hk De Ko hv hr hd BP Jb hF=>
   simp only[Abs.Am]at hs
   split at hs
   . split at hs
     . rename_i N9 Jl _ e0 QF
       obtain⟨Fo,ho,Bb,Ls⟩:=ih (hr i0 j0 N9 e0 Jl QF) hs
       have hFo:∀x,Fo x->F x:=λx hx=>(hF x).2 (.inr ⟨i0,j0,Bb x hx⟩)
       refine⟨Fo,ho,hFo,?_⟩
       intro w' S' new Fn ha hn hnF hS hf LH Nz
       have D5:=(AAQ.1 Jl).1
       have Ml:=(AAQ.1 QF).1
       obtain⟨t,F0,ht,CH,HZ,C9⟩:=Ls w' S' new Fn ha hn (λx hx hy=>hnF x hx ((hF x).2 (.inr ⟨i0,j0,hy⟩))) hS
        (λb hb=>hf b ((hF b).2 (.inr ⟨i0,j0,hb⟩))) LH (λb hb=>Nz b ((hF b).2 (.inr ⟨i0,j0,hb⟩)))
       have rZ:¬Fo b0:=λh=>Jb _ _ (Bb _ h)
       have hFb0:F b0:=(hF b0).2 (.inl rfl)
       have K3:∀i j,¬(i=i0/\j=j0)->∀x,Fs i j x->¬Fo x:=λi j IV x hx oS=>IV (hd _ _ _ _ x hx (Bb x oS))
       refine⟨.own (I7 uT b0 KT.length c) uT k1 (KT.set i0 (N9.set j0 t)),λx=>x=b0∨∃i' j',(if i'=i0/\j'=j0 then F0 else Fs i' j') x,?_,?_,?_,by simp⟩
       . simp[DA,Jl,QF,ht]
       . rw[show(I7 uT b0 KT.length c)=I7 uT b0 (KT.set i0 (N9.set j0 t)).length c from by simp]
         refine Ok.own uT k1 _ b0 c arr E (λi' j'=>if i'=i0/\j'=j0 then F0 else Fs i' j') _ (by rw[hf b0 hFb0 rZ];exact kS) ?_ (by simpa using De) (Nz b0 hFb0 rZ) ?_ ?_ ?_ ?_ ?_ (λx=>ABe)
         . intro r XK
           rcases AAv XK with h|rfl
           . exact hk r h
           . simp[hk N9 (AAb Jl)]
         . intro i' j' r e h3 h4
           by_cases hi:i'=i0
           . subst hi
             rw[AAS D5]at h3
             obtain rfl:=AAR h3
             by_cases hj:j'=j0
             . subst hj
               rw[AAS Ml]at h4
               obtain rfl:=AAR h4
               rw[C9]
               exact hv i' j' N9 e0 Jl QF
             . rw[AAV (by omega)]at h4
               exact hv i' j' N9 e Jl h4
           . rw[AAV (by omega)]at h3
             exact hv i' j' r e h3 h4
         . intro i' j' r e h3 h4
           by_cases IV:i'=i0/\j'=j0
           . obtain⟨rfl,rfl⟩:=IV
             rw[AAS D5]at h3
             obtain rfl:=AAR h3
             rw[AAS Ml]at h4
             obtain rfl:=AAR h4
             simpa using CH
           . simp only[IV,AAe]
             have hold:Ok w S e (Fs i' j'):=by
              by_cases hi:i'=i0
              . subst hi
                have hj:j'≠j0:=λe=>IV ⟨rfl,e⟩
                rw[AAS D5]at h3
                obtain rfl:=AAR h3
                rw[AAV (by omega)]at h4
                exact hr i' j' N9 e Jl h4
              . rw[AAV (by omega)]at h3
                exact hr i' j' r e h3 h4
             have UP:∀x,Fs i' j' x->F x/\¬Fo x:=λx hx=>⟨(hF x).2 (.inr ⟨i',j',hx⟩),K3 i' j' IV x hx⟩
             exact hold.mono hS (λx hx=>hf x (UP x hx).1 (UP x hx).2) LH (λx hx=>Nz x (UP x hx).1 (UP x hx).2)
         . intro i1 j1 i2 j2 x hx hy
           have aux:∀i j,¬(i=i0/\j=j0)->Fs i j x->¬F0 x:=by
            intro i j IV h1 h2
            rcases(HZ x).1 h2 with⟨h3,h4⟩|h3
            . exact IV (hd _ _ _ _ x h1 h3)
            . exact K3 i j IV x h1 (hnF x h3 ((hF x).2 (.inr ⟨i,j,h1⟩)))
           split at hx<;>split at hy
           . rename_i a b;omega
           . rename_i a b;exact absurd hx (aux _ _ b hy)
           . rename_i a b;exact absurd hy (aux _ _ a hx)
           . exact hd _ _ _ _ x hx hy
         . intro i1 j1 x hx
           split at hx
           . rename_i IV
             obtain⟨rfl,rfl⟩:=IV
             exact⟨_,t,AAS D5,AAS Ml⟩
           . obtain⟨r,e,h3,h4⟩:=BP i1 j1 x hx
             by_cases hi:i1=i0
             . subst hi
               rename_i Np
               have hj:j1≠j0:=λe=>Np ⟨rfl,e⟩
               obtain rfl:N9=r:=by rw[Jl]at h3;exact AAR h3
               exact⟨_,e,AAS D5,by rw[AAV (by omega)];exact h4⟩
             . exact⟨r,e,by rw[AAV (by omega)];exact h3,h4⟩
         . intro i1 j1 hx
           split at hx
           . rcases(HZ b0).1 hx with h|h
             . exact Jb _ _ h.1
             . exact rZ (hnF b0 h hFb0)
           . exact Jb _ _ hx
       . intro x
         constructor
         . rintro(rfl|⟨i1,j1,hx⟩)
           . exact .inl ⟨hFb0,rZ⟩
           . split at hx
             . rcases(HZ x).1 hx with h|h
               . exact .inl ⟨(hF x).2 (.inr ⟨i0,j0,h.1⟩),h.2⟩
               . exact .inr h
             . rename_i IV
               exact .inl ⟨(hF x).2 (.inr ⟨i1,j1,hx⟩),K3 _ _ IV x hx⟩
         . rintro(⟨h1,h2⟩|h)
           . rcases(hF x).1 h1 with rfl|⟨i1,j1,h3⟩
             . exact .inl rfl
             . by_cases IV:i1=i0/\j1=j0
               . obtain⟨rfl,rfl⟩:=IV
                 exact .inr ⟨i1,j1,by simp;exact(HZ x).2 (.inl ⟨h3,h2⟩)⟩
               . exact .inr ⟨i1,j1,by simp only[IV,AAe];exact h3⟩
           . exact .inr ⟨i0,j0,by simp;exact(HZ x).2 (.inr h)⟩
     . cases hs
   . cases hs
  |agg cs Fs _ hr hd BP hF=>
   simp only[Abs.Am]at hs
   split at hs
   . rename_i e0 QF
     obtain⟨Fo,ho,Bb,Ls⟩:=ih (hr j0 e0 QF) hs
     have hFo:∀x,Fo x->F x:=λx hx=>(hF x).2 ⟨j0,Bb x hx⟩
     refine⟨Fo,ho,hFo,?_⟩
     intro w' S' new Fn ha hn hnF hS hf LH Nz
     have Ml:=(AAQ.1 QF).1
     obtain⟨t,F0,ht,CH,HZ,C9⟩:=Ls w' S' new Fn ha hn (λx hx hy=>hnF x hx ((hF x).2 ⟨j0,hy⟩)) hS
      (λb hb=>hf b ((hF b).2 ⟨j0,hb⟩)) LH (λb hb=>Nz b ((hF b).2 ⟨j0,hb⟩))
     have K3:∀i,¬i=j0->∀x,Fs i x->¬Fo x:=λi IV x hx oS=>IV (hd _ _ x hx (Bb x oS))
     refine⟨.agg (cs.set j0 t),λx=>∃i',(if i'=j0 then F0 else Fs i') x,by simp[DA,QF,ht],?_,?_,?_⟩
     . refine Ok.agg _ (λi'=>if i'=j0 then F0 else Fs i') _ ?_ ?_ ?_ (λx=>ABe)
       . intro i' e h4
         by_cases hi:i'=j0
         . subst hi
           rw[AAS Ml]at h4
           obtain rfl:=AAR h4
           simpa using CH
         . simp only[hi,AAe]
           rw[AAV (by omega)]at h4
           have UP:∀x,Fs i' x->F x/\¬Fo x:=λx hx=>⟨(hF x).2 ⟨i',hx⟩,K3 i' hi x hx⟩
           exact(hr i' e h4).mono hS (λx hx=>hf x (UP x hx).1 (UP x hx).2) LH (λx hx=>Nz x (UP x hx).1 (UP x hx).2)
       . intro i1 i2 x hx hy
         have aux:∀i,¬i=j0->Fs i x->¬F0 x:=by
          intro i IV h1 h2
          rcases(HZ x).1 h2 with⟨h3,h4⟩|h3
          . exact IV (hd _ _ x h1 h3)
          . exact K3 i IV x h1 (hnF x h3 ((hF x).2 ⟨i,h1⟩))
         split at hx<;>split at hy
         . omega
         . rename_i a b;exact absurd hx (aux _ b hy)
         . rename_i a b;exact absurd hy (aux _ a hx)
         . exact hd _ _ x hx hy
       . intro i1 x hx
         split at hx
         . rename_i IV;subst IV;exact⟨t,AAS Ml⟩
         . rename_i IV
           obtain⟨e,h3⟩:=BP i1 x hx
           exact⟨e,by rw[AAV (by omega)];exact h3⟩
     . intro x
       constructor
       . rintro⟨i1,hx⟩
         split at hx
         . rcases(HZ x).1 hx with h|h
           . exact .inl ⟨(hF x).2 ⟨j0,h.1⟩,h.2⟩
           . exact .inr h
         . rename_i IV
           exact .inl ⟨(hF x).2 ⟨i1,hx⟩,K3 _ IV x hx⟩
       . rintro(⟨h1,h2⟩|h)
         . obtain⟨i1,h3⟩:=(hF x).1 h1
           by_cases IV:i1=j0
           . subst IV
             exact⟨i1,by simp;exact(HZ x).2 (.inl ⟨h3,h2⟩)⟩
           . exact⟨i1,by simp only[IV,AAe];exact h3⟩
         . exact⟨j0,by simp;exact(HZ x).2 (.inr h)⟩
     . simp only[JN,List.map_set,C9]
       congr 2
       apply ABV
       intro n
       by_cases hn:n=j0
       . subst hn;rw[AAS (by simpa using Ml)];simp[QF]
       . rw[AAV (by omega)]
   . cases hs
  |BJ cs Fs _ hr hd BP hF=>
   simp only[Abs.Am]at hs
   split at hs
   . rename_i e0 QF
     obtain⟨Fo,ho,Bb,Ls⟩:=ih (hr j0 e0 QF) hs
     have hFo:∀x,Fo x->F x:=λx hx=>(hF x).2 ⟨j0,Bb x hx⟩
     refine⟨Fo,ho,hFo,?_⟩
     intro w' S' new Fn ha hn hnF hS hf LH Nz
     have Ml:=(AAQ.1 QF).1
     obtain⟨t,F0,ht,CH,HZ,C9⟩:=Ls w' S' new Fn ha hn (λx hx hy=>hnF x hx ((hF x).2 ⟨j0,hy⟩)) hS
      (λb hb=>hf b ((hF b).2 ⟨j0,hb⟩)) LH (λb hb=>Nz b ((hF b).2 ⟨j0,hb⟩))
     have K3:∀i,¬i=j0->∀x,Fs i x->¬Fo x:=λi IV x hx oS=>IV (hd _ _ x hx (Bb x oS))
     refine⟨.BJ (cs.set j0 t),λx=>∃i',(if i'=j0 then F0 else Fs i') x,by simp[DA,QF,ht],?_,?_,?_⟩
     . refine Ok.BJ _ (λi'=>if i'=j0 then F0 else Fs i') _ ?_ ?_ ?_ (λx=>ABe)
       . intro i' e h4
         by_cases hi:i'=j0
         . subst hi
           rw[AAS Ml]at h4
           obtain rfl:=AAR h4
           simpa using CH
         . simp only[hi,AAe]
           rw[AAV (by omega)]at h4
           have UP:∀x,Fs i' x->F x/\¬Fo x:=λx hx=>⟨(hF x).2 ⟨i',hx⟩,K3 i' hi x hx⟩
           exact(hr i' e h4).mono hS (λx hx=>hf x (UP x hx).1 (UP x hx).2) LH (λx hx=>Nz x (UP x hx).1 (UP x hx).2)
       . intro i1 i2 x hx hy
         have aux:∀i,¬i=j0->Fs i x->¬F0 x:=by
          intro i IV h1 h2
          rcases(HZ x).1 h2 with⟨h3,h4⟩|h3
          . exact IV (hd _ _ x h1 h3)
          . exact K3 i IV x h1 (hnF x h3 ((hF x).2 ⟨i,h1⟩))
         split at hx<;>split at hy
         . omega
         . rename_i a b;exact absurd hx (aux _ b hy)
         . rename_i a b;exact absurd hy (aux _ a hx)
         . exact hd _ _ x hx hy
       . intro i1 x hx
         split at hx
         . rename_i IV;subst IV;exact⟨t,AAS Ml⟩
         . rename_i IV
           obtain⟨e,h3⟩:=BP i1 x hx
           exact⟨e,by rw[AAV (by omega)];exact h3⟩
     . intro x
       constructor
       . rintro⟨i1,hx⟩
         split at hx
         . rcases(HZ x).1 hx with h|h
           . exact .inl ⟨(hF x).2 ⟨j0,h.1⟩,h.2⟩
           . exact .inr h
         . rename_i IV
           exact .inl ⟨(hF x).2 ⟨i1,hx⟩,K3 _ IV x hx⟩
       . rintro(⟨h1,h2⟩|h)
         . obtain⟨i1,h3⟩:=(hF x).1 h1
           by_cases IV:i1=j0
           . subst IV
             exact⟨i1,by simp;exact(HZ x).2 (.inl ⟨h3,h2⟩)⟩
           . exact⟨i1,by simp only[IV,AAe];exact h3⟩
         . exact⟨j0,by simp;exact(HZ x).2 (.inr h)⟩
     . simp only[Km,List.map_set,C9]
       congr 2
       apply ABV
       intro n
       by_cases hn:n=j0
       . subst hn;rw[AAS (by simpa using Ml)];simp[QF]
       . rw[AAV (by omega)]
   . cases hs
theorem QN {t t' new old:DV} (q':List Step) (hp:DA t q' new=some t') (ho:Abs.Am t q'=some old) (hl:∀h b k rows,old≠ .own h b k rows) (hl2:∀cs,old≠ .agg cs) (hl3:∀cs,old≠ .BJ cs)
 (q:List Step) (v:Value) (bx:Bool) (k:Nat) (rows:List (List DV)) (hq:Abs.Am t q=some (.own v bx k rows)):∃rows',Abs.Am t' q=some (.own v bx k rows'):=by
 induction q' generalizing t t' q with
 |nil=>
  simp only[Abs.Am,AAN]at ho
  subst ho
  cases q with
  |nil=>simp only[Abs.Am,AAN]at hq;exact absurd hq (hl _ _ _ _)
  |cons s q=>
   cases t with
   |lf a v=>simp[Abs.Am]at hq
   |own h b k rows=>exact absurd rfl (hl _ _ _ _)
   |agg cs=>exact absurd rfl (hl2 _)
   |BJ cs=>exact absurd rfl (hl3 _)
 |cons s q' ih=>
  obtain⟨i,j,k0⟩:=s
  cases t with
  |lf a v=>simp[DA]at hp
  |own h b k1 JD=>
   simp only[DA]at hp
   simp only[Abs.Am]at ho
   cases hi:JD[i]? with
   |none=>simp[hi]at hp
   |some row=>
    simp only[hi]at hp ho
    cases hj:row[j]? with
    |none=>simp[hj]at hp
    |some c=>
     simp only[hj]at hp ho
     cases hc:DA c q' new with
     |none=>simp[hc]at hp
     |some c'=>
      simp only[hc,AAN]at hp
      subst hp
      have D5:=(AAQ.1 hi).1
      have Ml:=(AAQ.1 hj).1
      cases q with
      |nil=>
       simp only[Abs.Am,AAN,DV.own.injEq]at hq
       obtain⟨rfl,rfl,rfl,_⟩:=hq
       exact⟨_,rfl⟩
      |cons s2 q=>
       obtain⟨i2,j2,k2⟩:=s2
       simp only[Abs.Am]at hq ⊢
       by_cases h1:i2=i
       . subst h1
         simp only[AAS D5]
         simp only[hi]at hq
         by_cases h2:j2=j
         . subst h2
           simp only[AAS Ml]
           simp only[hj]at hq
           exact ih hc ho q hq
         . rw[AAV (by omega)]
           exact⟨rows,hq⟩
       . rw[AAV (by omega)]
         exact⟨rows,hq⟩
  |agg cs=>
   simp only[DA]at hp
   simp only[Abs.Am]at ho
   cases hj:cs[j]? with
   |none=>simp[hj]at hp
   |some c=>
    simp only[hj]at hp ho
    cases hc:DA c q' new with
    |none=>simp[hc]at hp
    |some c'=>
     simp only[hc,AAN]at hp
     subst hp
     have Ml:=(AAQ.1 hj).1
     cases q with
     |nil=>simp[Abs.Am]at hq
     |cons s2 q=>
      obtain⟨i2,j2,k2⟩:=s2
      simp only[Abs.Am]at hq ⊢
      by_cases h2:j2=j
      . subst h2
        simp only[AAS Ml]
        simp only[hj]at hq
        exact ih hc ho q hq
      . rw[AAV (by omega)]
        exact⟨rows,hq⟩
  |BJ cs=>
   simp only[DA]at hp
   simp only[Abs.Am]at ho
   cases hj:cs[j]? with
   |none=>simp[hj]at hp
   |some c=>
    simp only[hj]at hp ho
    cases hc:DA c q' new with
    |none=>simp[hc]at hp
    |some c'=>
     simp only[hc,AAN]at hp
     subst hp
     have Ml:=(AAQ.1 hj).1
     cases q with
     |nil=>simp[Abs.Am]at hq
     |cons s2 q=>
      obtain⟨i2,j2,k2⟩:=s2
      simp only[Abs.Am]at hq ⊢
      by_cases h2:j2=j
      . subst h2
        simp only[AAS Ml]
        simp only[hj]at hq
        exact ih hc ho q hq
      . rw[AAV (by omega)]
        exact⟨rows,hq⟩
end Go.Abs
namespace Go.Abs
variable {w w':World} {S S':Nat->Prop} {F F':Nat->Prop}
structure St (G:Gi) (w:World) (S:Nat->Prop) (δ:Nat->DV) (F:Nat->Nat->Prop):Prop where
 ok:∀s,Ok w S (δ s) (F s)
 LF:∀s t x,F s x->F t x->s=t
 al:∀s,C3 δ (δ s)
 rt:∀s,E9 (G.GJ s) (δ s).er=true
 self:∀s,s∉G.GJ s
mutual
def Ek (n d:Nat):AV->AV
 | .al r p=>if r=d/\n≤p.length then .dead else .al r p
 | .KG r p i j k=>if r=d/\n≤p.length then .dead else .KG r p i j k
 | .cl f rs=>if(rs.all λx=>x.1 != d)=true then .cl f rs else .dead
 | .vb s o us=>if s=d then .dead else .vb s o us
 | .agg cs=>.agg (TL n d cs)
 | .BJ cs=>.BJ (TL n d cs)
 |a=>a
def TL (n d:Nat):List AV->List AV
 |[]=>[]
 |a::r=>Ek n d a::TL n d r
end
theorem YZ (n d:Nat) (l:List AV):TL n d l=l.map (Ek n d):=by
 induction l with
 |nil=>rfl
 |cons a r ih=>simp[TL,ih]
mutual
def FU (n d:Nat):DV->DV
 | .lf a v=>.lf (Ek n d a) v
 | .own h b k rows=>.own h b k rows
 | .agg cs=>.agg (Ro n d cs)
 | .BJ cs=>.BJ (Ro n d cs)
def Ro (n d:Nat):List DV->List DV
 |[]=>[]
 |a::r=>FU n d a::Ro n d r
end
theorem V9 (n d:Nat) (l:List DV):Ro n d l=l.map (FU n d):=by
 induction l with
 |nil=>rfl
 |cons a r ih=>simp[Ro,ih]
def FV (G:Gi) (n d:Nat) (σ:Sg):Sg:=λs=>if s∈G.NW d then Ek n d (σ s)else σ s
def EG (G:Gi) (n d:Nat) (δ:Nat->DV):Nat->DV:=λs=>if s∈G.NW d then FU n d (δ s)else δ s
def I9 (G:Gi) (d:Nat) (σ:Sg):Sg:=λs=>if s∈G.NW d then C8 d (σ s)else σ s
def Gp (G:Gi) (d:Nat) (δ:Nat->DV):Nat->DV:=λs=>if s∈G.NW d then Gn d (δ s)else δ s
theorem W8 {t:DV} (d:Nat) (q:List Step) {v:Value} {bx:Bool} {k:Nat} {rows:List (List DV)} (hq:Abs.Am t q=some (.own v bx k rows)):Abs.Am (Gn d t) q=some (.own v bx k rows):=by
 induction q generalizing t with
 |nil=>simp only[Abs.Am,Option.some.injEq]at hq;subst hq;simp[Abs.Am]
 |cons s q ih=>
  obtain⟨i,j,k0⟩:=s
  cases t with
  |lf a v=>simp[Abs.Am]at hq
  |own h b k1 JD=>rw[MZ];exact hq
  |agg cs=>
   simp only[Js,Abs.Am,List.getElem?_map]at hq ⊢
   cases hj:cs[j]? with
   |none=>simp[hj]at hq
   |some c=>simp only[hj,Option.map_some]at hq ⊢;exact ih hq
  |BJ cs=>
   simp only[Jt,Abs.Am,List.getElem?_map]at hq ⊢
   cases hj:cs[j]? with
   |none=>simp[hj]at hq
   |some c=>simp only[hj,Option.map_some]at hq ⊢;exact ih hq
theorem C3.kill {δ:Nat->DV} {x:DV} (d:Nat) (h:C3 δ x) (hl:X9 x):C3 δ (Gn d x):=by
 induction h with
 |lf a v h=>
  rw[V8]
  refine .lf _ v ?_
  cases hl with
  |lf _ _ hl=>
   cases a with
   |al r p=>
    rw[WE]
    by_cases e:r=d
    . simp only[e,if_true];trivial
    . simp only[e,if_false];exact h
   |KG r p i j k=>
    rw[TO]
    by_cases e:r=d
    . simp only[e,if_true];trivial
    . simp only[e,if_false];exact h
   |vb s o us=>
    rw[WG]
    split
    . trivial
    . exact h
   |cl f rs=>
    rw[Rp]
    split
    . exact h
    . trivial
   |agg cs=>simp[CR]at hl
   |BJ cs=>simp[CR]at hl
   |own=>simp[CR]at hl
   |_=>simp only[C8];trivial
 |own=>rw[MZ];exact .own _ _ _ _
 |agg cs _ ih=>
  rw[Js]
  cases hl with
  |agg _ hl=>
   refine .agg _ λi d' hd=> ?_
   simp only[List.getElem?_map,Option.map_eq_some_iff]at hd
   obtain⟨e,he,rfl⟩:=hd
   exact ih i e he (hl i e he)
 |BJ cs _ ih=>
  rw[Jt]
  cases hl with
  |BJ _ hl=>
   refine .BJ _ λi d' hd=> ?_
   simp only[List.getElem?_map,Option.map_eq_some_iff]at hd
   obtain⟨e,he,rfl⟩:=hd
   exact ih i e he (hl i e he)
variable {G:Gi} {δ:Nat->DV} {Fr:Nat->Nat->Prop}
theorem St.bO (h:St G w S δ Fr) (d s:Nat):(Gp G d δ s).er=I9 G d (λs=>(δ s).er) s:=by
 unfold Gp I9
 split
 . exact(KP d (h.ok s)).1
 . rfl
theorem St.TP (h:St G w S δ Fr) (d s:Nat):(Gp G d δ s).Aq=(δ s).Aq:=by
 unfold Gp
 split
 . exact(KP d (h.ok s)).2.1
 . rfl
theorem St.bP (h:St G w S δ Fr) (d s:Nat):E8 d (Gp G d δ s).er=true:=by
 unfold Gp
 split
 . exact(KP d (h.ok s)).2.2.2
 . rename_i hn
   exact qF (h.rt s) λhm=>hn (Gi.lK hm)
theorem St.xX (h:St G w S δ Fr) (d s:Nat):Ok w S (Gp G d δ s) (Fr s):=by
 unfold Gp
 split
 . exact(KP d (h.ok s)).2.2.1
 . exact h.ok s
theorem St.bQ (h:St G w S δ Fr) (d s:Nat):E9 (G.GJ s) (Gp G d δ s).er=true:=by
 unfold Gp
 split
 . rw[(KP d (h.ok s)).1];exact pG (h.rt s)
 . exact h.rt s
theorem St.xW (h:St G w S δ Fr) (d s:Nat):C3 δ (Gp G d δ s):=by
 unfold Gp
 split
 . exact(h.al s).kill d (h.ok s).KQ
 . exact h.al s
theorem pJ (d r:Nat) (p:List Step) {v:Value} {bx:Bool} {k:Nat} {rows:List (List DV)} (hq:Abs.Am (δ r) p=some (.own v bx k rows)):Abs.Am (Gp G d δ r) p=some (.own v bx k rows):=by
 unfold Gp
 split
 . exact W8 d p hq
 . exact hq
theorem pZ {L:List Nat} {d:Nat} {a:AV}:E9 L a=true->E8 d a=true->E9 (L.filter (· != d)) a=true:=by
 refine AV.rec (motive_1:=λa=>E9 L a=true->E8 d a=true->E9 (L.filter (· != d)) a=true) (motive_2:=λ_=>True) (motive_3:=λl=>O6 L l=true->NB d l=true->O6 (L.filter (· != d)) l=true)
  ?_ ?_ ?_ ?_ ?_ ?_ ?_ ?_ ?_ ?_ ?_ ?_ ?_ ?_ ?_ ?_ ?_ a
 all_goals intros
 all_goals first|trivial| (simp[E9];done)|skip
 all_goals first
  | (simp_all [E9,E8];done)
  | (simp_all [O6,NB];done)
  | (rename_i h1 h2;simp only[E9,E8,List.all_eq_true,List.contains_iff_mem,List.mem_filter]at h1 h2 ⊢;exactλx hx=>⟨h1 x hx,h2 x hx⟩)
  | (rename_i ih h1 h2;simp only[E9,E8]at h1 h2 ⊢;exact ih h1 h2)
theorem St.set (h:St G w S δ Fr) (d:Nat) (dn:DV) (Fn:Nat->Prop) (hw:∀b,S b->w'.heap[b]? =w.heap[b]?) (hf:∀s,s≠d->∀x,Fr s x->w'.heap[x]? =w.heap[x]?)
 (LH:∀b,S b->S' b) (Nz:∀s,s≠d->∀x,Fr s x->¬S' x) (hn:Ok w' S' dn Fn) (CS:∀s,s≠d->∀x,Fn x->¬Fr s x) (Xm:E9 (G.GJ d) dn.er=true) (F6:C3 δ dn):
 St G w' S' (C1 (Gp G d δ) d dn) (C1 Fr d Fn):=by
 have IK:∀(L:List Nat),d∉L->∀r∈L,∀p v bx k rows,Abs.Am (δ r) p=some (.own v bx k rows)->∃rows',Abs.Am (C1 (Gp G d δ) d dn r) p=some (.own v bx k rows'):=by
  intro L hL r hr p v bx k rows hq
  refine⟨rows,?_⟩
  rw[BN _ _ (by rintro rfl;exact hL hr)]
  exact pJ d r p hq
 have M8:∀(L:List Nat),d∉L->∀r∈L,(C1 (Gp G d δ) d dn r).Aq=(δ r).Aq:=by
  intro L hL r hr
  rw[BN _ _ (by rintro rfl;exact hL hr)]
  exact h.TP d r
 refine⟨?_,?_,?_,?_,h.self⟩
 . intro s
   by_cases hs:s=d
   . subst hs;rw[A6,A6];exact hn
   . rw[BN _ _ hs,BN _ _ hs]
     exact(h.xX d s).mono hw (hf s hs) LH (Nz s hs)
 . intro s t x h1 h2
   by_cases hs:s=d<;>by_cases ht:t=d
   . omega
   . subst hs
     rw[A6]at h1
     rw[BN _ _ ht]at h2
     exact absurd h2 (CS t ht x h1)
   . subst ht
     rw[A6]at h2
     rw[BN _ _ hs]at h1
     exact absurd h1 (CS s hs x h2)
   . rw[BN _ _ hs]at h1
     rw[BN _ _ ht]at h2
     exact h.LF s t x h1 h2
 . intro s
   by_cases hs:s=d
   . subst hs
     rw[A6]
     exact F6.mono Xm (IK _ (h.self s)) (M8 _ (h.self s))
   . rw[BN _ _ hs]
     refine(h.xW d s).mono (pZ (h.bQ d s) (h.bP d s)) (IK _ ?_) (M8 _ ?_)
     . simp
     . simp
 . intro s
   by_cases hs:s=d
   . subst hs;rw[A6];exact Xm
   . rw[BN _ _ hs];exact h.bQ d s
theorem St.poke (h:St G w S δ Fr) (d:Nat) (dn:DV) (Fn:Nat->Prop) (hw:∀b,S b->w'.heap[b]? =w.heap[b]?) (hf:∀s,s≠d->∀x,Fr s x->w'.heap[x]? =w.heap[x]?)
 (hn:Ok w' S dn Fn) (CS:∀s,s≠d->∀x,Fn x->¬Fr s x) (Xm:E9 (G.GJ d) dn.er=true) (F6:C3 δ dn)
 (Qe:∀p v bx k rows,Abs.Am (δ d) p=some (.own v bx k rows)->∃rows',Abs.Am dn p=some (.own v bx k rows')) (C9:dn.Aq=(δ d).Aq):
 St G w' S (C1 δ d dn) (C1 Fr d Fn):=by
 have IK:∀(L:List Nat),∀r∈L,∀p v bx k rows,Abs.Am (δ r) p=some (.own v bx k rows)->∃rows',Abs.Am (C1 δ d dn r) p=some (.own v bx k rows'):=by
  intro L r _ p v bx k rows hq
  by_cases hr:r=d
  . subst hr;rw[A6];exact Qe p v bx k rows hq
  . rw[BN _ _ hr];exact⟨rows,hq⟩
 have M8:∀(L:List Nat),∀r∈L,(C1 δ d dn r).Aq=(δ r).Aq:=by
  intro L r _
  by_cases hr:r=d
  . subst hr;rw[A6];exact C9
  . rw[BN _ _ hr]
 refine⟨?_,?_,?_,?_,h.self⟩
 . intro s
   by_cases hs:s=d
   . subst hs;rw[A6,A6];exact hn
   . rw[BN _ _ hs,BN _ _ hs]
     exact(h.ok s).mono hw (hf s hs) (λ_ h=>h) (h.ok s).EZ
 . intro s t x h1 h2
   by_cases hs:s=d<;>by_cases ht:t=d
   . omega
   . subst hs
     rw[A6]at h1
     rw[BN _ _ ht]at h2
     exact absurd h2 (CS t ht x h1)
   . subst ht
     rw[A6]at h2
     rw[BN _ _ hs]at h1
     exact absurd h1 (CS s hs x h2)
   . rw[BN _ _ hs]at h1
     rw[BN _ _ ht]at h2
     exact h.LF s t x h1 h2
 . intro s
   by_cases hs:s=d
   . subst hs
     rw[A6]
     exact F6.mono Xm (IK _) (M8 _)
   . rw[BN _ _ hs]
     exact(h.al s).mono (h.rt s) (IK _) (M8 _)
 . intro s
   by_cases hs:s=d
   . subst hs;rw[A6];exact Xm
   . rw[BN _ _ hs];exact h.rt s
theorem St.world (h:St G w S δ Fr) (hw:∀b,S b->w'.heap[b]? =w.heap[b]?) (hf:∀s x,Fr s x->w'.heap[x]? =w.heap[x]?) (LH:∀b,S b->S' b) (Nz:∀s x,Fr s x->¬S' x):St G w' S' δ Fr:=
 ⟨λs=>(h.ok s).mono hw (hf s) LH (Nz s),h.LF,h.al,h.rt,h.self⟩
end Go.Abs
namespace Go.Abs
inductive Ar where
 |t (s:Nat)
 |c (a:AV)
 deriving Inhabited
inductive XJ where
 |cp (x:Ar)
 |mv (x:Ar)
 |fz (x:Ar)
 |pick (c a b:Ar)
 |bx (n:Nat) (x:Ar)
 |RD (z:List AV) (ps:List (Nat×Nat×Ar))
 |Mr (k:Nat) (z:List (List AV)) (ps:List (Nat×Ar))
 |ld (agg:Bool) (n:Nat) (a:Ar)
 |st (n:Nat) (a v:Ar)
 |Tu (off:Nat) (x:Ar)
 |fld (agg:Bool) (off n:Nat) (x:Ar)
 |VA (k:Nat) (x i:Ar)
 |aad (len k:Nat) (x i:Ar)
 |idx (agg:Bool) (len k:Nat) (x i:Ar)
 |bin (op:BinOp) (x y:Ar)
 |beq (neg:Bool) (x y:Ar)
 |un (op:UnOp) (x:Ar)
 |cvt (k:IntKind) (x:Ar)
 |mm (mx:Bool) (x y:Ar)
 |len (x:Ar)
 |Te (x:Ar)
 |X4 (x i:Ar)
 |Up (neg:Bool) (kd:List Nat) (x y:Ar)
 |app (k bytes:Nat) (x y:Ar)
 |sF (k:Nat) (fr:Bool) (x:Ar) (lo hi mx:ABp Ar)
 |ext (x:Ar) (i:Nat)
 |mk (k bytes:Nat) (z:List AV) (l c:Ar)
 |JT (x:Ar)
 |yI (f:Nat) (xs:List Ar)
 |WM (a:Ar)
 |fl
 |flk (x:Ar) (k:Nat)
 |bL (r off kb k:Nat) (i:Ar)
 |VG (a v:Ar)
 |std (a:Ar)
 |call (f:Nat) (args:List Ar) (m:Nat)
 |WN (f:Nat) (pre:List Ar) (x:Ar) (c:ABp Nat) (post:List Ar)
 |bad
 deriving Inhabited
structure Dg where
 d:Nat
 kl:List Nat
 rs:List Nat
 deriving Inhabited
structure BH where
 dst:ABp Dg
 op:XJ
 guard:ABp (Nat×Bool)
 deriving Inhabited
structure rG where
 s:Nat
 e:Nat
 ap:Nat
 i7:Nat
 i8:Nat
 i9:Nat
 i11:Nat
 i12:Nat
 deriving Inhabited
inductive dM where
 |o (o:BH)
 |bxv (d:Dg) (n:Nat) (s:Nat)
 |clo (d:ABp Dg) (f:Nat) (x:Ar) (args:List Ar) (g:ABp (Nat×Bool))
 |Ry (d:Dg) (neg:Bool) (x:Ar)
 |lb (d:ABp Dg) (f:Nat) (x:Ar) (dS:List Ar) (y:Ar)
 |gld (d:Dg) (g n:Nat)
 deriving Inhabited
structure rH where
 r:Nat
 off:Nat
 kb:Nat
 i0:Nat
 i1:Nat
 i2:Nat
 d0:Nat
 d1:Nat
 deriving Inhabited
inductive IC where
 |skip
 |bad
 |X2 (ops:List dM)
 |gz (c:Bool) (r:Nat) (p:List Step) (a:IC)
 |pg (c:Bool) (r:Nat) (p:List Step) (a:IC)
 |apd (f:rG) (ops:List BH)
 |OD (ops:List BH)
 |flo (f:rH) (a b:List BH)
 |Zq (fs:List (Nat×Nat×Nat×Nat)) (ops:List BH)
 |seq (a b:IC)
 |cond (c:Ar) (a b:IC)
 |block (id:Nat) (a:IC)
 |loop (a:IC)
 |exit (id:Nat)
 |ret
 deriving Inhabited
def ar (σ:Sg):Ar->AV
 | .t s=>σ s
 | .c a=>a
def G1:AV->Bool
 | .sc _| .sl .. =>true
 |_=>false
def I3:AV->AV
 | .sc u=>.sc u
 | .sl x k rows=>.sl x k rows
 |_=>.dead
def Ex:AV->Bool
 | .sc _| .sl .. | .own .. =>true
 |_=>false
mutual
def view (r:Nat):List Step->AV->AV
 |p,.own _ _ _=>.al r p
 |p,.agg cs=>.agg (PB r p 0 cs)
 |p,.BJ cs=>.BJ (PB r p 0 cs)
 |_,a=>a
def PB (r:Nat) (p:List Step):Nat->List AV->List AV
 |_,[]=>[]
 |i,c::cs=>view r (p++[(0,i,0)]) c::PB r p (i+1) cs
end
def vC (r:Nat) (p:List Step) (i j k:Nat):AV->AV
 | .own _ _ _=>.al r (p++[(i,j,k)])
 | .sc v=>.sc v
 | .sl x k' rows=>.sl x k' rows
 |_=>.dead
def vF (s j:Nat):AV->AV
 | .own _ _ _=>.al s [(0,j,0)]
 | .agg _=>.dead
 | .BJ _=>.dead
 |a=>a
def PA (r:Nat) (p:List Step) (i k:Nat):Nat->List AV->List AV
 |_,[]=>[]
 |j,c::cs=>vC r p i j k c::PA r p i k (j+1) cs
def Lo (s:Nat):Nat->List AV->List AV
 |_,[]=>[]
 |j,c::cs=>vF s j c::Lo s (j+1) cs
def JA (kl:List Nat) (d:Nat) (σ:Sg):Sg:=match kl with
 |[]=>σ
 |_=>λs=>if s∈kl then C8 d (σ s)else σ s
def wr (d:Dg) (v:AV) (σ:Sg):Option Sg:=if E9 d.rs v=true then some (C1 (JA d.kl d.d σ) d.d v)else none
def Zh (G:Gi) (r:Nat) (p:List Step) (σ:Sg):Option (AV×Sg):=
 match sub (σ r) p with
 |some (.own b k rows)=>match put (σ r) p .dead with
  |some t=>some (.own b k rows,C1 (FV G p.length r σ) r t)
  |none=>none
 |_=>none
def dU (G:Gi):List AV->Sg->Option (List AV×Sg)
 |[],σ=>some ([],σ)
 |a::cs,σ=>match a with
  | .al r p=>match Zh G r p σ with
   |some (n,τ)=>match dU G cs τ with
    |some (l,τ')=>some (n::l,τ')
    |none=>none
   |none=>none
  |a=>if Ex a=true then
   match dU G cs σ with
   |some (l,τ)=>some (a::l,τ)
   |none=>none
   else none
def tk (G:Gi) (x:Ar) (σ:Sg):Option (AV×Sg):=
 match x with
 | .c a=>some (a,σ)
 | .t s=>match σ s with
  | .al r p=>Zh G r p σ
  | .own b k rows=>some (.own b k rows,C1 (I9 G s σ) s .dead)
  | .agg cs=>if cs.all G1=true then some (.agg cs,σ)else
   match dU G cs (C1 (I9 G s σ) s .dead)with
   |some (l,τ)=>some (.agg l,τ)
   |none=>none
  | .sc v=>some (.sc v,σ)
  | .sl e k rows=>some (.sl e k rows,σ)
  | .KG r p i j k=>some (.KG r p i j k,σ)
  | .fp cs=>some (.fp cs,σ)
  |_=>none
def cellsOf:AV->List AV
 | .agg cs=>cs
 |a=>[a]
def hd (σ:Sg) (x:Ar):Option (AV×Option (Nat×List Step)):=
 match x with
 | .c a=>match a with
  | .own b k rows=>some (.own b k rows,none)
  |_=>none
 | .t s=>match σ s with
  | .al r p=>match sub (σ r) p with
   |some n=>some (n,some (r,p))
   |none=>none
  | .own b k rows=>some (.own b k rows,some (s,[]))
  | .sl e k rows=>some (.sl e k rows,none)
  |_=>none
def Pk (G:Gi) (r:Nat) (p:List Step) (σ:Sg):Option (AV×Sg):=
 match sub (σ r) p with
 |some (.own b k rows)=>match put (σ r) p (I0 (.own b k rows))with
  |some t=>some (I0 (.own b k rows),C1 (I9 G r σ) r t)
  |none=>none
 |_=>none
def eT:AV->Option Int
 | .sc (.int _ n)=>some n
 |_=>none
def Dr (σ:Sg) (x:Ar):Option (Nat×List Step×Nat×Nat×Nat):=
 match x with
 | .c _=>none
 | .t s=>match σ s with
  | .KG r p i j k=>some (r,p,i,j,k)
  | .own true k _=>some (s,[],0,0,k)
  | .al r p=>match sub (σ r) p with
   |some (.own true k _)=>some (r,p,0,0,k)
   |_=>none
  |_=>none
def binI (op:BinOp) (k:IntKind) (x y:Int):Option Value:=
 match op with
 | .add=>some (.int k (k.wrap (x+y)))
 | .sub=>some (.int k (k.wrap (x-y)))
 | .mul=>some (.int k (k.wrap (x*y)))
 | .quo=>if y=0 then none else some (.int k (k.wrap (x.tdiv y)))
 | .rem=>if y=0 then none else some (.int k (x.tmod y))
 | .eql=>some (.bool (x==y))
 | .neq=>some (.bool (x != y))
 | .lss=>some (.bool (x<y))
 | .leq=>some (.bool (x≤y))
 | .gtr=>some (.bool (x>y))
 | .geq=>some (.bool (x≥y))
 |_=>none
def binF (op:BinOp):AV->AV->Option AV
 | .sc (.int k x),.sc (.int k' y)=>if k=k' then(binI op k x y).map .sc else none
 | .sc (.string x),.sc (.string y)=>match op with
  | .eql=>some (.sc (.bool (x.toList==y.toList)))
  | .neq=>some (.sc (.bool (!(x.toList==y.toList))))
  |_=>none
 |_,_=>none
def unF (op:UnOp):AV->Option AV
 | .sc (.bool x)=>match op with
  | .not=>some (.sc (.bool (!x)))
  |_=>none
 | .sc (.int k x)=>match op with
  | .neg=>some (.sc (.int k (k.wrap (0-x))))
  |_=>none
 |_=>none
def Hx (agg:Bool) (n:Nat) (cs:List AV):Option AV:=
 if cs.length=n then(if agg=true then some (.agg cs)else match cs with|[c]=>some c|_=>none)else none
def RR (rows:List (List AV)) (lo hi:Nat):Option (List (List AV)):=
 if lo≤hi/\hi≤rows.length then some ((rows.drop lo).take (hi-lo))else none
def Md (σ:Sg) (x:Option Ar) (d:Nat):Option Nat:=
 match x with
 |none=>some d
 |some a=>match eT (ar σ a)with
  |some n=>if 0≤n then some n.toNat else none
  |none=>none
def sD (σ:Sg) (mx:Option Ar) (h:Nat):Option Nat:=
 match mx with
 |none=>some h
 |some a=>Md σ (some a) 0
def nV:Nat->Value->Value->Option Bool
 |0,.bool a,.bool b=>some (a==b)
 |1,.int k n,.int k' m=>if k=k' then some (n==m)else none
 |2,.string a,.string b=>some (a.toList==b.toList)
 |_,_,_=>none
def PV:List Nat->List AV->List AV->Option Bool
 |[],[],[]=>some true
 |kd::ks,.sc u::xs,.sc v::ys=>match nV kd u v,PV ks xs ys with
  |some a,some b=>some (a&&b)
  |_,_=>none
 |_,_,_=>none
def RK (σ:Sg):List Ar->Option (List (Nat×List Step))
 |[]=>some []
 |x::r=>match x with
  | .t s=>(match σ s,RK σ r with
   | .own true _ _,some l=>some ((s,[])::l)
   | .al q p,some l=>(match sub (σ q) p with
    |some (.own true _ _)=>some ((q,p)::l)
    |_=>none)
   |_,_=>none)
  | .c _=>none
def valOf (o:XJ) (σ:Sg):Option AV:=
 match o with
 | .cp x=>match x with
  | .t s=>some (view s [] (σ s))
  | .c a=>some a
 | .pick c a b=>match ar σ c with
  | .sc (.bool x)=>match ar σ (if x=true then a else b)with
   | .sc v=>some (.sc v)
   |_=>none
  |_=>none
 | .ld agg n a=>match a with
  | .c _=>none
  | .t s=>match σ s with
   | .fp cs=>Hx agg n ((cs.take n).map I3)
   | .vb q o _=>match σ q with
    | .agg cs=>Hx agg n (Lo q o ((cs.drop o).take n))
    |_=>none
   |_=>match Dr σ (.t s)with
    |some (r,p,i,j,k)=>match sub (σ r) p with
     |some (.own _ _ rows)=>match rows[i]? with
      |some row=>Hx agg n (PA r p i k j ((row.drop j).take n))
      |none=>none
     |_=>none
    |none=>none
 | .Tu off x=>match x with
  | .c _=>none
  | .t s=>match σ s with
   | .fp cs=>some (.fp (cs.drop off))
   | .vb q o us=>some (.vb q (o+off) us)
   |_=>match Dr σ (.t s)with
    |some (r,p,i,j,k)=>some (.KG r p i (j+off) k)
    |none=>none
 | .fld agg off n x=>match x with
  | .c _=>none
  | .t s=>match σ s with
   | .agg cs=>Hx agg n (Lo s off ((cs.drop off).take n))
   |_=>none
 | .VA k x i=>match hd σ x,eT (ar σ i)with
  |some (.own false k' rows,some (r,p)),some n=>if k'=k/\0≤n/\n<rows.length then some (.KG r p n.toNat 0 k)else none
  |some (.sl _ k' rows,_),some n=>if k'=k/\0≤n then(rows[n.toNat]?).map .fp else none
  |_,_=>none
 | .aad len k x i=>match x,eT (ar σ i)with
  | .t s,some n=>if 0≤n/\n<len then
   match σ s with
   | .fp cs=>some (.fp (cs.drop (n.toNat*k)))
   |_=>match Dr σ (.t s)with
    |some (r,p,i,j,k')=>some (.KG r p i (j+n.toNat*k) k')
    |none=>none
   else none
  |_,_=>none
 | .idx agg len k x i=>match x,eT (ar σ i)with
  | .t s,some n=>if 0≤n/\n<len then
   match σ s with
   | .agg cs=>Hx agg k (Lo s (n.toNat*k) ((cs.drop (n.toNat*k)).take k))
   |_=>none
   else none
  |_,_=>none
 | .bin op x y=>binF op (ar σ x) (ar σ y)
 | .beq neg x y=>match ar σ x,ar σ y with
  | .sc (.bool a),.sc (.bool b)=>some (.sc (.bool (if neg=true then !(a==b)else(a==b))))
  |_,_=>none
 | .un op x=>unF op (ar σ x)
 | .cvt k x=>match ar σ x with
  | .sc (.int _ n)=>some (.sc (.int k (k.wrap n)))
  |_=>none
 | .mm mx x y=>match ar σ x,ar σ y with
  | .sc (.int k n),.sc (.int k' m)=>if k=k' then some (.sc (.int k (if mx=true then(if m>n then m else n)else(if m<n then m else n))))else none
  |_,_=>none
 | .len x=>match hd σ x with
  |some (.own false _ rows,_)=>some (.sc (.int .i64 rows.length))
  |some (.sl _ _ rows,_)=>some (.sc (.int .i64 rows.length))
  |_=>none
 | .Te x=>match ar σ x with
  | .sc (.string s)=>some (.sc (.int .i64 s.size))
  |_=>none
 | .X4 x i=>match ar σ x,eT (ar σ i)with
  | .sc (.string s),some n=>if 0≤n then(s[n.toNat]?).map λb=>.sc (.int .u8 b.toNat)else none
  |_,_=>none
 | .Up neg kd x y=>match ar σ x,ar σ y with
  | .agg xs,.agg ys=>(PV kd xs ys).map λb=>.sc (.bool (if neg=true then !b else b))
  |_,_=>none
 | .ext x i=>match x with
  | .t s=>match σ s with
   | .BJ cs=>match cs[i]? with
    |some c=>some (view s [(0,i,0)] c)
    |none=>none
   |_=>none
  |_=>none
 | .JT x=>match ar σ x with
  | .KG r p i j k=>some (.KG r p i j k)
  | .fp cs=>some (.fp cs)
  | .al r p=>match sub (σ r) p with
   |some (.own true _ _)=>some (.al r p)
   |_=>none
  | .own true _ _=>match x with
   | .t s=>some (.al s [])
   |_=>none
  |_=>none
 | .yI f xs=>(RK σ xs).map (.cl f)
 | .fl=>some .dead
 | .flk x k=>match x with
  | .t s=>match σ s with
   | .BJ cs=>if k<cs.length then some .dead else none
   |_=>none
  |_=>none
 | .bL r off kb k i=>match σ r,eT (ar σ i)with
  | .own true kb' [row],some n=>match row[off]? with
   |some (.own false k' rows)=>if kb'=kb/\k'=k/\0≤n/\n<rows.length then some (.KG r [(0,off,kb)] n.toNat 0 k)else none
   |_=>none
  |_,_=>none
 | .WM a=>match Dr σ a with
  |some (r,p,i,j,k)=>match sub (σ r) p with
   |some (.own _ _ rows)=>match rows[i]? with
    |some row=>match row[j]? with
     |some (.own _ _ _)=>some (.al r (p++[(i,j,k)]))
     |_=>none
    |none=>none
   |_=>none
  |none=>none
 |_=>none
def Zd (cs:List AV) (off:Nat) (xs:List AV):List AV:=cs.take off++xs++cs.drop (off+xs.length)
def UL (G:Gi):List (Nat×Nat×Ar)->List AV->Sg->Option (List AV×Sg)
 |[],cs,σ=>some (cs,σ)
 | (off,n,x)::ps,cs,σ=>match tk G x σ with
  |some (a,τ)=>if(cellsOf a).length=n/\off+n≤cs.length/\(cellsOf a).all Ex=true then UL G ps (Zd cs off (cellsOf a)) τ else none
  |none=>none
def UM (G:Gi) (k:Nat):List (Nat×Ar)->List (List AV)->Sg->Option (List (List AV)×Sg)
 |[],rows,σ=>some (rows,σ)
 | (i,x)::ps,rows,σ=>match tk G x σ with
  |some (a,τ)=>if(cellsOf a).length=k/\i<rows.length/\(cellsOf a).all Ex=true then UM G k ps (rows.set i (cellsOf a)) τ else none
  |none=>none
def zS (p:List Step) (i k:Nat):Nat->List AV->AV->Option AV
 |_,[],t=>some t
 |j,c::cs,t=>match put t (p++[(i,j,k)]) c with
  |some t'=>zS p i k (j+1) cs t'
  |none=>none
def Al (n bytes:Nat):Bool:=n*bytes≤70368744177664
def VY (G:Gi) (k:Nat) (y:Ar) (σ:Sg):Option (List (List AV)×Sg):=
 match y with
 | .t s=>match σ s with
  | .own false k' rows=>if k'=k/\rows.all (·.all Ex)=true then some (rows,C1 (I9 G s σ) s .dead)else none
  | .sl _ k' rows=>if k'=k/\rows.all (·.all G1)=true then some (rows,σ)else none
  | .al r p=>match Pk G r p σ with
   |some (.sl _ k' rows,τ)=>if k'=k/\rows.all (·.all G1)=true then some (rows,τ)else none
   |_=>none
  |_=>none
 | .c a=>match a with
  | .own false _ []=>some ([],σ)
  |_=>none
def UJ (G:Gi) (k:Nat) (x:Ar) (τ:Sg):Option (AV×Sg):=
 match x with
 | .t s=>match τ s with
  | .sl true k' rows=>if k'=k/\rows.all (·.all G1)=true then some (.sl true k' rows,τ)else none
  | .own false k' rows=>if k'=k then some (.own false k' rows,C1 (I9 G s τ) s .dead)else none
  | .al r p=>match Zh G r p τ with
   |some (.own false k' rows,τ')=>if k'=k then some (.own false k' rows,τ')else none
   |_=>none
  |_=>none
 | .c a=>match a with
  | .own false _ []=>some (.own false k [],τ)
  |_=>none
def Fk (G:Gi) (o:XJ) (d:Option Dg) (σ:Sg):Option Sg:=
 match o,d with
 | .mv x,some d=>match tk G x σ with
  |some (v,τ)=>wr d v τ
  |none=>none
 | .fz x,some d=>match x with
  | .t s=>match σ s with
   | .al r p=>match Pk G r p σ with
    |some (v,τ)=>wr d v τ
    |none=>none
   | .own _ _ _=>match Pk G s [] σ with
    |some (v,τ)=>wr d v τ
    |none=>none
   | .sc v=>wr d (.sc v) σ
   | .sl e k rows=>wr d (.sl e k rows) σ
   |_=>none
  | .c _=>none
 | .bx n x,some d=>match tk G x σ with
  |some (v,τ)=>if(cellsOf v).length=n/\(cellsOf v).all Ex=true then wr d (.own true n [cellsOf v]) τ else none
  |none=>none
 | .RD z ps,some d=>match UL G ps z σ with
  |some (cs,τ)=>wr d (.agg cs) τ
  |none=>none
 | .Mr k z ps,some d=>match UM G k ps z σ with
  |some (rows,τ)=>wr d (.own false k rows) τ
  |none=>none
 | .mk k bytes z l c,some d=>match eT (ar σ l),eT (ar σ c)with
  |some l,some c=>if 0≤l/\l≤c/\Al c.toNat bytes=true then wr d (.own false k (List.replicate l.toNat z)) σ else none
  |_,_=>none
 | .sF k fr x lo hi mx,some d=>match hd σ x with
  |some (.sl _ k' rows,_)=>match Md σ lo 0,Md σ hi rows.length with
   |some l,some h=>match RR rows l h,sD σ mx h with
    |some rs,some m=>if k'=k/\m=h then wr d (.sl mx.isSome k rs) σ else none
    |_,_=>none
   |_,_=>none
  |some (.own false k' rows,some (r,p))=>match Md σ lo 0,Md σ hi rows.length with
   |some l,some h=>match RR rows l h,sD σ mx h with
    |some rs,some m=>if k'=k/\m=h then
     (if fr=true then
      match Pk G r p σ with
      |some (_,τ)=>wr d (.sl mx.isSome k (rs.map (·.map I0))) τ
      |none=>none
     else if l=0/\mx.isNone=true then
      match Zh G r p σ with
      |some (_,τ)=>wr d (.own false k rs) τ
      |none=>none
     else none)
     else none
    |_,_=>none
   |_,_=>none
  |_=>none
 | .app k bytes x y,some d=>match VY G k y σ with
  |some (ys,τ)=>match UJ G k x τ with
   |some (.own _ _ rows,τ')=>if Al (rows.length+ys.length) bytes=true then wr d (.own false k (rows++ys)) τ' else none
   |some (.sl e _ rows,τ')=>match ys with
    |[]=>wr d (.sl e k rows) τ'
    |y::ys=>if Al (rows.length+(y::ys).length) bytes=true then wr d (.own false k (rows++y::ys)) τ' else none
   |_=>none
  |none=>none
 | .st n a v,none=>match tk G v σ with
  |some (x,τ)=>match Dr τ a with
   |some (r,p,i,j,k)=>match sub (τ r) p with
    |some (.own _ _ rows)=>match rows[i]? with
     |some row=>
      if(cellsOf x).length=n/\(cellsOf x).all Ex=true/\j+n≤row.length then
       match zS p i k j (cellsOf x) (τ r)with
       |some t=>if((row.drop j).take n).all CR=true then some (C1 τ r t)else some (C1 (I9 G r τ) r t)
       |none=>none
      else none
     |none=>none
    |_=>none
   |none=>none
  |none=>none
 | .VG a v,none=>match ar σ v with
  | .sc u=>match Dr σ a with
   |some (r,p,i,j,k)=>match sub (σ r) p with
    |some (.own _ _ rows)=>match rows[i]? with
     |some row=>match row[j]? with
      |some (.sc _)=>match put (σ r) (p++[(i,j,k)]) (.sc u)with
       |some t=>some (C1 σ r t)
       |none=>none
      |_=>none
     |none=>none
    |_=>none
   |none=>none
  |_=>none
 | .std a,none=>match Dr σ a with
  |some (r,p,i,j,_)=>match sub (σ r) (p++[(i,j,0)])with
   |some .dead=>some σ
   |_=>none
  |none=>none
 |o,some d=>match valOf o σ with
  |some v=>wr d v σ
  |none=>none
 |_,none=>none
theorem x9 {a:Ar} {σ:Sg} {v:AV} (h:valOf (.WM a) σ=some v):valOf (.ld false 1 a) σ=some v:=by
 simp only[valOf]at h ⊢
 split at h
 . rename_i r p i j k ha
   split at h
   . rename_i b k' rows hs
     split at h
     . rename_i row hr
       split at h
       . rename_i b2 k2 IL hc
         obtain rfl:=Option.some.inj h
         have hd:(row.drop j).take 1=[.own b2 k2 IL]:=by
          obtain⟨hj,hx⟩:=List.getElem?_eq_some_iff.1 hc
          rw[List.drop_eq_getElem_cons hj,hx];rfl
         cases a with
         |c=>simp[Dr]at ha
         |t s=>
          simp only
          cases hσ:σ s with
          |fp cs=>simp[Dr,hσ]at ha
          |vb q o us=>simp[Dr,hσ]at ha
          |_=>simp only[ha,hs,hr,hd];rfl
       . cases h
     . cases h
   . cases h
 . cases h
theorem sts_st {G:Gi} {a v:Ar} {σ τ:Sg} (h:Fk G (.VG a v) none σ=some τ):Fk G (.st 1 a v) none σ=some τ:=by
 simp only[Fk]at h ⊢
 split at h
 . rename_i u hu
   have XL:tk G v σ=some (.sc u,σ):=by
    cases v with
    |c c=>simp only[ar]at hu;subst hu;rfl
    |t s=>simp only[ar]at hu;simp[tk,hu]
   rw[XL]
   simp only
   split at h
   . rename_i r p i j k ha
     try simp only[ha]
     split at h
     . rename_i b k' rows hs
       try simp only[hs]
       split at h
       . rename_i row hr
         try simp only[hr]
         split at h
         . rename_i u0 hc
           obtain⟨hj,hx⟩:=List.getElem?_eq_some_iff.1 hc
           have hd:(row.drop j).take 1=[.sc u0]:=by rw[List.drop_eq_getElem_cons hj,hx];rfl
           split at h
           . rename_i t ht
             obtain rfl:=Option.some.inj h
             rw[if_pos ⟨by simp[cellsOf],by simp[cellsOf,Ex],by omega⟩]
             simp[cellsOf,zS,ht,hd,CR]
           . cases h
         . cases h
       . cases h
     . cases h
   . cases h
 . cases h
def ZI (kb off:Nat):AV->Bool
 | .own true k [row]=>k==kb&&decide (off<row.length)
 |_=>false
end Go.Abs
namespace Go.Abs
structure Ext (w w':World) (F:Nat->Prop):Prop where
 os:w'.os=w.os
 tape:w'.tape=w.tape
 output:w'.output=w.output
 size:w.heap.size≤w'.heap.size
 block:∀b,b<w.heap.size->¬F b->w'.heap[b]? =w.heap[b]?
def Kg:List ABq:=[⟨#[118,97,114]⟩,⟨#[118,111,108,97,116,105,108,101]⟩,⟨#[109,117,116,101,120]⟩,⟨#[114,119,108,111,99,107]⟩,⟨#[99,111,110,100]⟩,⟨#[102,117,116,117,114,101]⟩,⟨#[116,104,114,101,97,100]⟩,⟨#[105,102]⟩,⟨#[101,108,115,101]⟩,⟨#[119,104,105,108,101]⟩,⟨#[108,111,99,107]⟩,⟨#[114,101,97,100]⟩,⟨#[119,114,105,116,101]⟩,⟨#[116,114,97,110,115,97,99,116,105,111,110]⟩,⟨#[97,116,111,109,105,99]⟩,⟨#[119,97,105,116]⟩,⟨#[110,111,116,105,102,121]⟩,⟨#[110,111,116,105,102,121,97,108,108]⟩,⟨#[115,112,97,119,110]⟩,⟨#[106,111,105,110]⟩,⟨#[115,101,116]⟩,⟨#[103,101,116]⟩]
def Gam:List (Nat×List Value):=[(0,Kg.map Value.string)]
def GI (w:World) (S:Nat->Prop):Prop:=∀x∈Gam,S x.1/\∃arr E fz,w.heap[x.1]? =some (.cells arr E fz)/\∀(j:Nat) v,x.2[j]? =some v->arr[j]? =some v
def BD (P:Program) (f:Nat) (args:List AV) (res:AV) (outs:List AV):Prop:=
 ∀(w:World) (S:Nat->Prop) (ds:List DV) (F:Nat->Prop),GI w S->ds.map DV.er=args->Ok w S (.BJ ds) F->(∀b,S b->b<w.heap.size)->
  Calls P f (ds.map DV.Aq).toArray w λe w'=>∃(r:DV) (os:List DV) (S' F':Nat->Prop),e= .returned r.Aq/\r.er=res/\os.map DV.er=outs/\os.map DV.Aq=ds.map DV.Aq/\
   Ok w' S' (.BJ (r::os)) F'/\Ext w w' F/\(∀b,S b->S' b)/\(∀b,S' b->S b∨F b∨w.heap.size≤b)/\(∀b,S' b->b<w'.heap.size)/\(∀x,F' x->F x∨w.heap.size≤x)
def Says (P:Program) (f:Nat) (args:List AV) (res:AV):Prop:=BD P f args res (args.map λ_=>.dead)
def SK (σ:Sg):AV->ABp AV
 | .al r p=>match sub (σ r) p with
  |some (.own false k rows)=>some (I0 (.own false k rows))
  |some (.own true _ [row])=>some (.fp (row.map I0))
  |_=>none
 | .own false k rows=>some (I0 (.own false k rows))
 | .own true _ [row]=>some (.fp (row.map I0))
 | .fp cs=>some (.fp cs)
 | .sc v=>some (.sc v)
 | .sl _ k rows=>some (.sl false k rows)
 |_=>none
def sE (σ:Sg):List AV->ABp (List AV)
 |[]=>some []
 |a::r=>match SK σ a,sE σ r with
  |some x,some l=>some (x::l)
  |_,_=>none
def cC (σ:Sg):AV->ABp AV
 | .agg cs=>match sE σ cs with
  |some l=>some (.agg l)
  |none=>none
 | .al r p=>SK σ (.al r p)
 | .own b k rows=>SK σ (.own b k rows)
 | .sc v=>SK σ (.sc v)
 | .sl e k rows=>SK σ (.sl e k rows)
 | .fp cs=>SK σ (.fp cs)
 |_=>none
def JU (σ:Sg):List Ar->ABp (List AV)
 |[]=>some []
 |x::r=>match cC σ (ar σ x),JU σ r with
  |some a,some l=>some (a::l)
  |_,_=>none
def fzl:AV->AV
 | .sl _ k rows=>.sl false k rows
 |a=>I0 a
def rX:AV->AV
 | .agg cs=>.agg (cs.map fzl)
 |a=>fzl a
def MG (G:Gi):List Ar->Sg->ABp (List AV×Sg)
 |[],σ=>some ([],σ)
 |x::r,σ=>match tk G x σ with
  |some (a,τ)=>match MG G r τ with
   |some (l,τ')=>some (rX a::l,τ')
   |none=>none
  |none=>none
def QO (G:Gi):List Ar->Sg->ABp (List AV×Sg)
 |[],σ=>some ([],σ)
 |x::r,σ=>match tk G x σ with
  |some (a,τ)=>match QO G r τ with
   |some (l,τ')=>some (a::l,τ')
   |none=>none
  |none=>none
def Ve (σ:Sg):List (Nat×List Step)->ABp (List (List AV))
 |[]=>some []
 | (r,p)::l=>match SK σ (.al r p),Ve σ l with
  |some (.fp cs),some U4=>some (cs::U4)
  |_,_=>none
def Us (G:Gi):List Ar->Sg->ABp (List AV×Sg)
 |[],_=>none
 |x::r,σ=>match r with
  |[]=>(match ar σ x with
   | .cl f rs=>(match Ve σ rs with
    |some U4=>some ([.fZ f U4],σ)
    |none=>none)
   |_=>none)
  |y::r=>match tk G x σ with
   |some (a,τ)=>match Us G (y::r) τ with
    |some (l,τ')=>some (a::l,τ')
    |none=>none
   |none=>none
def YO:AV->Bool
 | .sc _=>true
 | .agg cs=>cs.all λ| .sc _=>true|_=>false
 | .BJ cs=>cs.all λ| .sc _=>true|_=>false
 |_=>false
mutual
def fresh:AV->Bool
 | .sc _=>true
 | .own _ _ rows=>QZ rows
 | .agg cs=>OP cs
 | .BJ cs=>OP cs
 |_=>false
def OP:List AV->Bool
 |[]=>true
 |a::r=>fresh a&&OP r
def QZ:List (List AV)->Bool
 |[]=>true
 |a::r=>OP a&&QZ r
end
def Jo:AV->Bool
 | .sc _| .sl .. | .own .. =>true
 |_=>false
def clean:AV->Bool
 | .agg cs=>cs.all Jo
 | .BJ cs=>cs.all λ
  | .agg l=>l.all Jo
  |a=>Jo a
 |a=>Jo a
def Q0 (m:Nat) (res:AV):Option AV:=
 match m with
 |0=>if YO res=true then some res else none
 |1=>some (I0 res)
 |2=>if fresh res=true then some res else none
 |3=>if clean res=true then some res else none
 |4=>if fresh res=true then some res else none
 |_=>none
def Fj (G:Gi) (m:Nat) (args:List Ar) (σ:Sg):Option (List AV×Sg):=
 match m with
 |1=>MG G args σ
 |3=>QO G args σ
 |4=>Us G args σ
 |_=>match JU σ args with
  |some l=>some (l,σ)
  |none=>none
def CM (dst:Option Dg) (v:AV) (K:Sg->Prop) (τ:Sg):Prop:=
 match dst with
 |some d=>(match wr d v τ with
  |some τ'=>K τ'
  |none=>False)
 |none=>K τ
def plc (σ:Sg):Ar->Option (Nat×List Step)
 | .t s=>match σ s with
  | .al r p=>some (r,p)
  | .own _ _ _=>some (s,[])
  |_=>none
 | .c _=>none
def Hk:AV->Bool
 | .own .. | .dead=>true
 |_=>false
def Qo:AV->AV
 | .sc v=>.sc v
 | .sl _ k rows=>.sl false k rows
 |_=>.dead
def rdF (σ:Sg):Ar->Option AV
 | .t s=>match σ s with
  | .agg cs=>some (.agg (cs.map Qo))
  |a=>some (Qo a)
 | .c a=>match a with
  | .sc v=>some (.sc v)
  | .own false k []=>some (.sl false k [])
  |_=>none
def N5 (σ:Sg):List Ar->Option (List AV)
 |[]=>some []
 |x::r=>match rdF σ x,N5 σ r with
  |some a,some l=>some (a::l)
  |_,_=>none
def Om (σ:Sg) (x:Ar) (c:Option Nat):Option (Nat×List Step):=match c with
 |none=>plc σ x
 |some j=>match x with
  | .t s=>match σ s with
   | .agg cs=>match cs[j]? with
    |some (.al r p)=>some (r,p)
    |some (.own _ _ _)=>some (s,[(0,j,0)])
    |_=>none
   |_=>none
  | .c _=>none
def Rt (σ:Sg) (x:Ar) (c:Option Nat) (n:AV):AV:=match c with
 |none=>n
 |some j=>match ar σ x with
  | .agg cs=>.agg ((cs.map Qo).set j n)
  |_=>.dead
def RI (c:Option Nat) (out:AV):Option AV:=match c with
 |none=>some out
 |some j=>match out with
  | .agg cs=>cs[j]?
  |_=>none
def Ru (u:AV) (b:Bool) (k:Nat) (p:List Step):Nat:=match u with
 | .own b' k' _=>if b'=b/\k'=k then p.length+1 else 0
 |_=>0
def Dp (P:Program) (G:Gi) (o:BH) (K:Sg->Prop) (σ:Sg):Prop:=
 match o.op with
 | .call f args m=>match Fj G m args σ with
  |some (aZ9,τ)=>∃res,Says P f aZ9 res/\(match Q0 m res with
   |some v=>CM o.dst v K τ
   |none=>False)
  |none=>False
 | .WN f pre x c post=>match Om σ x c,N5 σ pre,N5 σ post with
  |some (r,p),some aZ9,some bs=>(match sub (σ r) p with
   |some (.own b k rows)=>∃res out u,BD P f (aZ9++Rt σ x c (.own b k rows)::bs) res ((aZ9.map λ_=>.dead)++out::bs.map λ_=>.dead)/\RI c out=some u/\Hk u=true/\clean res=true/\(match put (σ r) p u with
    |some t=>CM o.dst res K (C1 (FV G (Ru u b k p) r σ) r t)
    |none=>False)
   |_=>False)
  |_,_,_=>False
 |op=>match Fk G op o.dst σ with
  |some τ=>K τ
  |none=>False
def KH (P:Program) (G:Gi) (o:BH) (K:Sg->Prop) (σ:Sg):Prop:=
 match o.guard with
 |none=>Dp P G o K σ
 |some (g,want)=>match σ g with
  | .sc (.bool b)=>if b=want then Dp P G o K σ else
   (match o.dst with
   |some d=>K (C1 (JA d.kl d.d σ) d.d .un)
   |none=>K σ)
  | .un=>(match o.dst with
   |some d=>K (C1 (JA d.kl d.d σ) d.d .un)
   |none=>K σ)
  |_=>False
def Mo (P:Program) (G:Gi):List BH->(Sg->Prop)->Sg->Prop
 |[],K,σ=>K σ
 |o::os,K,σ=>KH P G o (Mo P G os K) σ
def rowsOf:AV->Option (List (List AV))
 | .own false _ rows=>some rows
 | .sl _ _ rows=>some rows
 |_=>none
def nJ (σ:Sg):List (Nat×List Step)->Option (List AV)
 |[]=>some []
 | (r,p)::l=>match SK σ (.al r p),nJ σ l with
  |some a,some aZ9=>some (a::aZ9)
  |_,_=>none
def uW (σ:Sg) (f:Nat) (x:Ar) (args:List Ar):Option (List AV):=match ar σ x with
 | .cl f' rs=>if f'=f then(match JU σ args,nJ σ rs with
  |some aZ9,some bs=>some (aZ9++bs)
  |_,_=>none)else none
 |_=>none
def aW (g n:Nat):Option (List Value):=match Gam.find? (λx=>x.1==g)with
 |some x=>if x.2.length=n/\x.2.all FW=true then some x.2 else none
 |none=>none
def W6 (d:Option Dg) (K:Sg->Prop) (σ:Sg):Prop:=match d with
 |some d=>K (C1 (JA d.kl d.d σ) d.d .un)
 |none=>K σ
def gdP (g:Option (Nat×Bool)) (A B:Sg->Prop) (σ:Sg):Prop:=match g with
 |none=>A σ
 |some (g,want)=>match σ g with
  | .sc (.bool b)=>if b=want then A σ else B σ
  | .un=>B σ
  |_=>False
def fQ (P:Program) (d:Option Dg) (f:Nat) (x:Ar) (args:List Ar) (K:Sg->Prop) (σ:Sg):Prop:=match uW σ f x args with
 |some aZ9=>∃res,Says P f aZ9 res/\(match Q0 0 res with
  |some v=>CM d v K σ
  |none=>False)
 |none=>False
def lbQ (P:Program) (G:Gi) (d:Option Dg) (f:Nat) (r r2:Nat) (p p2:List Step) (v n:AV) (b:Bool) (k:Nat) (ms:List AV) (K:Sg->Prop) (τ:Sg):Prop:=
 r≠r2/\∃res out,BD P f (n::(ms++[v])) res (out::((ms.map λ_=>.dead)++[v]))/\Hk out=true/\clean res=true/\(match put (τ r) p out with
  |some t=>(match put (C1 (FV G (Ru out b k p) r τ) r t r2) p2 v with
   |some t2=>CM d res K (C1 (FV G p2.length r2 (C1 (FV G (Ru out b k p) r τ) r t)) r2 t2)
   |none=>False)
  |none=>False)
def lbP (P:Program) (G:Gi) (d:Option Dg) (f:Nat) (x:Ar) (dS:List Ar) (y:Ar) (K:Sg->Prop) (σ:Sg):Prop:=match plc σ y with
 |some (r2,p2)=>(match Zh G r2 p2 σ with
  |some (v,τ)=>(match plc τ x,N5 τ dS with
   |some (r,p),some ms=>(match sub (τ r) p with
    |some (.own b k rows)=>lbQ P G d f r r2 p p2 v (.own b k rows) b k ms K τ
    |_=>False)
   |_,_=>False)
  |none=>False)
 |none=>False
def Kx (P:Program) (G:Gi):List dM->(Sg->Prop)->Sg->Prop
 |[],K,σ=>K σ
 | .o o::xs,K,σ=>KH P G o (Kx P G xs K) σ
 | .Ry d neg x::xs,K,σ=>match hd σ x with
  |some (a,_)=>(match rowsOf a with
   |some rows=>∀b:Bool,(b=true->rows=[])->CM (some d) (.sc (.bool (if neg=true then !b else b))) (Kx P G xs K) σ
   |none=>False)
  |none=>False
 | .gld d g n::xs,K,σ=>match aW g n with
  |some cs=>CM (some d) (.agg (cs.map .sc)) (Kx P G xs K) σ
  |none=>False
 | .bxv d n s::xs,K,σ=>match σ s with
  | .agg cs=>cs.length=n/\∀us:List Value,us.length=n->CM (some d) (.vb s 0 us) (Kx P G xs K) σ
  |_=>False
 | .lb d f x dS y::xs,K,σ=>lbP P G d f x dS y (Kx P G xs K) σ
 | .clo d f x args g::xs,K,σ=>gdP g (fQ P d f x args (Kx P G xs K)) (W6 d (Kx P G xs K)) σ
def czS (G:Gi) (r:Nat) (p:List Step) (σ:Sg):Option Sg:=match sub (σ r) p with
 |some (.own b k rows)=>(match put (σ r) p (.own b k (MU rows))with
  |some t=>some (C1 (FV G (p.length+1) r σ) r t)
  |none=>none)
 |_=>none
def gzS (G:Gi) (c:Bool) (r:Nat) (p:List Step) (σ:Sg):Option Sg:=if c=true then czS G r p σ else match sub (σ r) p with
 |some (.sl _ _ _)=>some σ
 |_=>match Pk G r p σ with
  |some (_,τ)=>some τ
  |none=>none
def pgQ (G:Gi) (c:Bool) (r:Nat) (p:List Step) (Q:Exit->Sg->Prop):Exit->Sg->Prop
 | .normal,σ=>(match gzS G c r p σ with
  |some τ=>Q .normal τ
  |none=>False)
 |e,σ=>Q e σ
def P7 (P:Program) (G:Gi) (f:rH):List BH->(Sg->Prop)->Sg->Prop
 |[],K,σ=>K σ
 |o::os,K,σ=>ZI f.kb f.off (σ f.r)=true/\KH P G o (P7 P G f os K) σ
def OZ:AV->Bool
 | .own false _ _=>true
 |_=>false
def Qh:AV->Bool
 | .KG .. =>true
 |_=>false
def p6 (f:rG) (m:Nat) (σ:Sg):Bool:=(decide (m≤f.i7)||OZ (σ f.s))&&(decide (m≤f.i8)||Qh (σ f.e))&&(decide (m≤f.i11)||Qh (σ f.ap))
def NX (P:Program) (G:Gi) (f:rG):Nat->List BH->(Sg->Prop)->Sg->Prop
 |m,[],K,σ=>p6 f m σ=true/\K σ
 |m,o::os,K,σ=>p6 f m σ=true/\KH P G o (NX P G f (m+1) os K) σ
def Exit.P4 (next:Sg->Prop) (Q:Exit->Sg->Prop):Exit->Sg->Prop
 | .normal,σ=>next σ
 |e,σ=>Q e σ
def Exit.Vd (id:Nat) (Q:Exit->Sg->Prop):Exit->Sg->Prop
 | .exit i,σ=>if i=id then Q .normal σ else Q (.exit i) σ
 |e,σ=>Q e σ
def HX (P:Program) (G:Gi):IC->(Exit->Sg->Prop)->Sg->Prop
 | .skip,Q,σ=>Q .normal σ
 | .bad,_,_=>False
 | .X2 xs,Q,σ=>Kx P G xs (Q .normal) σ
 | .apd f ops,Q,σ=>NX P G f 0 ops (KH P G ⟨none,.st 1 (.t f.ap) (.t f.s),none⟩ (Q .normal)) σ
 | .pg c r p a,Q,σ=>HX P G a (pgQ G c r p Q) σ
 | .gz c r p a,Q,σ=>match gzS G c r p σ with
  |some τ=>HX P G a Q τ
  |none=>False
 | .OD ops,Q,σ=>Mo P G ops (Q .normal) σ
 | .flo f a b,Q,σ=>P7 P G f a (Mo P G b (Q .normal)) σ
 | .Zq _ ops,Q,σ=>Mo P G ops (Q .normal) σ
 | .seq a b,Q,σ=>HX P G a (Exit.P4 (HX P G b Q) Q) σ
 | .cond c a b,Q,σ=>match ar σ c with
  | .sc (.bool x)=>if x=true then HX P G a Q σ else HX P G b Q σ
  |_=>False
 | .block id a,Q,σ=>HX P G a (Exit.Vd id Q) σ
 | .loop a,Q,σ=>∃I:Nat->Sg->Prop,(∃n,I n σ)/\∀n τ,I n τ->HX P G a (Exit.P4 (λτ'=>∃n',n'<n/\I n' τ') Q) τ
 | .exit id,Q,σ=>Q (.exit id) σ
 | .ret,Q,σ=>Q .ret σ
theorem uN (P:Program) (G:Gi) (Q:Exit->Sg->Prop) (σ:Sg):HX P G .skip Q σ=Q .normal σ:=(rfl)
theorem awp_reg (P:Program) (G:Gi) (ops:List BH) (Q:Exit->Sg->Prop) (σ:Sg):HX P G (.OD ops) Q σ=Mo P G ops (Q .normal) σ:=(rfl)
theorem awp_rex (P:Program) (G:Gi) (xs:List dM) (Q:Exit->Sg->Prop) (σ:Sg):HX P G (.X2 xs) Q σ=Kx P G xs (Q .normal) σ:=(rfl)
theorem jY (P:Program) (G:Gi) (a b:IC) (Q:Exit->Sg->Prop) (σ:Sg):HX P G (.seq a b) Q σ=HX P G a (Exit.P4 (HX P G b Q) Q) σ:=(rfl)
theorem nA (P:Program) (G:Gi) (id:Nat) (a:IC) (Q:Exit->Sg->Prop) (σ:Sg):HX P G (.block id a) Q σ=HX P G a (Exit.Vd id Q) σ:=(rfl)
theorem uL (P:Program) (G:Gi) (id:Nat) (Q:Exit->Sg->Prop) (σ:Sg):HX P G (.exit id) Q σ=Q (.exit id) σ:=(rfl)
theorem awp_ret (P:Program) (G:Gi) (Q:Exit->Sg->Prop) (σ:Sg):HX P G .ret Q σ=Q .ret σ:=(rfl)
theorem aF (P:Program) (G:Gi) (c:Ar) (a b:IC) (Q:Exit->Sg->Prop) (σ:Sg):HX P G (.cond c a b) Q σ=match ar σ c with
 | .sc (.bool x)=>if x=true then HX P G a Q σ else HX P G b Q σ
 |_=>False:=rfl
theorem uM {P:Program} {G:Gi} {a:IC} {Q:Exit->Sg->Prop} {σ:Sg} (I:Nat->Sg->Prop) (n:Nat) (h:I n σ)
 (round:∀n τ,I n τ->HX P G a (Exit.P4 (λτ'=>∃n',n'<n/\I n' τ') Q) τ):HX P G (.loop a) Q σ:=⟨I,⟨n,h⟩,round⟩
theorem cW (next:Sg->Prop) (Q:Exit->Sg->Prop) (σ:Sg):Exit.P4 next Q .normal σ=next σ:=(rfl)
theorem qL (next:Sg->Prop) (Q:Exit->Sg->Prop) (id:Nat) (σ:Sg):Exit.P4 next Q (.exit id) σ=Q (.exit id) σ:=(rfl)
theorem zK (next:Sg->Prop) (Q:Exit->Sg->Prop) (σ:Sg):Exit.P4 next Q .ret σ=Q .ret σ:=(rfl)
theorem Xb (id:Nat) (Q:Exit->Sg->Prop) (σ:Sg):Exit.Vd id Q .normal σ=Q .normal σ:=(rfl)
theorem OL (id i:Nat) (Q:Exit->Sg->Prop) (σ:Sg):Exit.Vd id Q (.exit i) σ=if i=id then Q .normal σ else Q (.exit i) σ:=(rfl)
theorem eY (id:Nat) (Q:Exit->Sg->Prop) (σ:Sg):Exit.Vd id Q .ret σ=Q .ret σ:=(rfl)
inductive RV where
 |tmp (t:Nat)
 |cell (a:Nat) (agg:Bool) (n:Nat)
 deriving Inhabited
def FG (G:Gi):List RV->Sg->Option (List AV×Sg)
 |[],σ=>some ([],σ)
 | .tmp t::l,σ=>match tk G (.t t) σ with
  |some (v,τ)=>match FG G l τ with
   |some (vs,τ')=>some (v::vs,τ')
   |none=>none
  |none=>none
 | .cell a agg n::l,σ=>match σ a with
  | .own true _ [row]=>match Hx agg n row with
   |some v=>match FG G l (C1 (I9 G a σ) a .dead)with
    |some (vs,τ')=>some (v::vs,τ')
    |none=>none
   |none=>none
  |_=>none
def one:List AV->AV
 |[v]=>v
 |vs=>.BJ vs
def Ends (G:Gi) (rs:List RV) (res:AV) (e:Exit) (σ:Sg):Prop:=
 (match e with| .normal=>True| .ret=>True|_=>False)/\∃vs τ,FG G rs σ=some (vs,τ)/\one vs=res
def start (args:List AV):Sg:=λs=>args.getD s .un
end Go.Abs
namespace Go.Abs
variable {w w':World} {S S':Nat->Prop} {F F':Nat->Prop} {G:Gi} {δ δ':Nat->DV} {Fr:Nat->Nat->Prop}
theorem WA (n d r:Nat) (p:List Step):Ek n d (.al r p)=if r=d/\n≤p.length then .dead else .al r p:=by simp[Ek]
theorem TN (n d r:Nat) (p:List Step) (i j k:Nat):Ek n d (.KG r p i j k)=if r=d/\n≤p.length then .dead else .KG r p i j k:=by simp[Ek]
@[simp]theorem Ya (n d:Nat) (cs:List AV):Ek n d (.agg cs)= .agg (cs.map (Ek n d)):=by simp[Ek,YZ]
@[simp]theorem Yb (n d:Nat) (cs:List AV):Ek n d (.BJ cs)= .BJ (cs.map (Ek n d)):=by simp[Ek,YZ]
theorem WC (n d s o:Nat) (us:List Value):Ek n d (.vb s o us)=if s=d then .dead else .vb s o us:=by simp[Ek]
theorem WB (n d f:Nat) (rs:List (Nat×List Step)):Ek n d (.cl f rs)=if(rs.all λx=>x.1 != d)=true then .cl f rs else .dead:=by simp[Ek]
@[simp]theorem YY (n d:Nat) (a:AV) (v:Value):FU n d (.lf a v)= .lf (Ek n d a) v:=by simp[FU]
@[simp]theorem K4 (n d:Nat) (h:Value) (b:Bool) (k:Nat) (rows:List (List DV)):FU n d (.own h b k rows)= .own h b k rows:=by simp[FU]
@[simp]theorem Ju (n d:Nat) (cs:List DV):FU n d (.agg cs)= .agg (cs.map (FU n d)):=by simp[FU,V9]
@[simp]theorem Jv (n d:Nat) (cs:List DV):FU n d (.BJ cs)= .BJ (cs.map (FU n d)):=by simp[FU,V9]
theorem PY (L:List Nat) (n d:Nat):∀(a:AV),E9 L a=true->E9 L (Ek n d a)=true
 | .al r p,h=>by
  rw[WA];split
  . simp
  . exact h
 | .KG r p i j k,h=>by
  rw[TN];split
  . simp
  . exact h
 | .agg cs,h=>by
  rw[JX,AAU]at h
  rw[Ya,JX,ABG,AAU]
  intro c hc
  exact PY L n d c (h c hc)
 | .BJ cs,h=>by
  rw[NI,AAU]at h
  rw[Yb,NI,ABG,AAU]
  intro c hc
  exact PY L n d c (h c hc)
 | .sc _,_=>by simp[Ek]
 | .sl ..,_=>by simp[Ek]
 | .own ..,_=>by simp[Ek]
 | .fp _,_=>by simp[Ek]
 | .dead,_=>by simp[Ek]
 | .un,_=>by simp[Ek]
 | .fZ ..,_=>by simp[Ek,E9]
 | .vb s o us,h=>by
  rw[WC];split
  . simp
  . exact h
 | .cl f rs,h=>by
  rw[WB];split
  . exact h
  . simp
theorem gW {a:AV} (n d:Nat) {v:Value} (ha:HK w S a v):HK w S (Ek n d a) v:=by
 cases a with
 |al r p=>rw[WA];split<;>simp[HK]
 |KG r p i j k=>rw[TN];split<;>simp[HK]
 |cl f rs=>rw[WB];split<;>trivial
 |vb s o us=>rw[WC];split<;>first|trivial|exact ha
 |agg cs=>exact ha.elim
 |BJ cs=>exact ha.elim
 |own=>exact ha.elim
 |_=>simpa[Ek]using ha
theorem Kq {x:DV} (n d:Nat) (h:Ok w S x F):(FU n d x).er=Ek n d x.er/\(FU n d x).Aq=x.Aq/\Ok w S (FU n d x) F:=by
 induction h with
 |lf a v F ha hF=>
  refine⟨by simp,by simp,?_⟩
  rw[YY]
  exact .lf _ v F (gW n d ha) hF
 |nil k F hF=>exact⟨by simp[Ek],by simp,by rw[K4];exact .nil k F hF⟩
 |own bx k rows b c arr E Fs F hb hk De Ko hv hr hd BP Jb hF ih=>
  exact⟨by simp[Ek],by simp,by rw[K4];exact .own bx k rows b c arr E Fs F hb hk De Ko hv hr hd BP Jb hF⟩
 |agg cs Fs F hr hd BP hF ih=>
  have key:∀e∈cs,(FU n d e).er=Ek n d e.er/\(FU n d e).Aq=e.Aq:=by
   intro e he
   obtain⟨i,hi⟩:=AAn he
   exact⟨(ih i e hi).1,(ih i e hi).2.1⟩
  refine⟨?_,?_,?_⟩
  . simp only[Ju,Gz,Ya,List.map_map,AV.agg.injEq]
    exact ABk λe he=>(key e he).1
  . simp only[Ju,JN,List.map_map]
    congr 2
    exact ABk λe he=>(key e he).2
  . rw[Ju]
    refine .agg _ Fs F ?_ hd ?_ hF
    . intro i e h1
      simp only[AAZ,AAm]at h1
      obtain⟨e0,h0,rfl⟩:=h1
      exact(ih i e0 h0).2.2
    . intro i x hx
      obtain⟨e,h1⟩:=BP i x hx
      exact⟨FU n d e,by simp[h1]⟩
 |BJ cs Fs F hr hd BP hF ih=>
  have key:∀e∈cs,(FU n d e).er=Ek n d e.er/\(FU n d e).Aq=e.Aq:=by
   intro e he
   obtain⟨i,hi⟩:=AAn he
   exact⟨(ih i e hi).1,(ih i e hi).2.1⟩
  refine⟨?_,?_,?_⟩
  . simp only[Jv,Iz,Yb,List.map_map,AV.BJ.injEq]
    exact ABk λe he=>(key e he).1
  . simp only[Jv,Km,List.map_map]
    congr 2
    exact ABk λe he=>(key e he).2
  . rw[Jv]
    refine .BJ _ Fs F ?_ hd ?_ hF
    . intro i e h1
      simp only[AAZ,AAm]at h1
      obtain⟨e0,h0,rfl⟩:=h1
      exact(ih i e0 h0).2.2
    . intro i x hx
      obtain⟨e,h1⟩:=BP i x hx
      exact⟨FU n d e,by simp[h1]⟩
theorem C3.Ek {x:DV} (n d:Nat) (h:C3 δ x) (hl:X9 x)
 (hk:∀r p v bx k rows,(r≠d∨p.length<n)->Am (δ r) p=some (.own v bx k rows)->∃rows',Am (δ' r) p=some (.own v bx k rows')) (V1:∀r,r≠d->(δ' r).Aq=(δ r).Aq):C3 δ' (FU n d x):=by
 induction h with
 |lf a v h=>
  rw[YY]
  refine .lf _ v ?_
  cases hl with
  |lf _ _ hl=>
   cases a with
   |al r p=>
    rw[WA]
    split
    . trivial
    . rename_i e
      obtain⟨bx,k,rows,h⟩:=h
      obtain⟨rows',h'⟩:=hk r p v bx k rows (by omega) h
      exact⟨bx,k,rows',h'⟩
   |KG r p i j k=>
    rw[TN]
    split
    . trivial
    . obtain⟨hh,bx,rows,b,h,hb,rfl⟩:=h
      obtain⟨rows',h'⟩:=hk r p hh bx k rows (by omega) h
      exact⟨hh,bx,rows',b,h',hb,rfl⟩
   |vb s o us=>
    rw[WC]
    split
    . trivial
    . exact(V1 s (by assumption)).trans h
   |cl f rs=>
    rw[WB]
    split
    . rename_i hr
      obtain⟨vs,h1,h2,h3⟩:=h
      refine⟨vs,h1,h2,λi r p u hi hu=> ?_⟩
      obtain⟨bx,k,rows,hs⟩:=h3 i r p u hi hu
      rw[AAU]at hr
      obtain⟨rows',h'⟩:=hk r p u bx k rows (.inl (by simpa using hr _ (AAb hi))) hs
      exact⟨bx,k,rows',h'⟩
    . trivial
   |agg cs=>simp[CR]at hl
   |BJ cs=>simp[CR]at hl
   |own=>simp[CR]at hl
   |_=>simp only[Abs.Ek];trivial
 |own=>rw[K4];exact .own _ _ _ _
 |agg cs _ ih=>
  rw[Ju]
  cases hl with
  |agg _ hl=>
   refine .agg _ λi d' hd=> ?_
   simp only[AAZ,AAm]at hd
   obtain⟨e,he,rfl⟩:=hd
   exact ih i e he (hl i e he)
 |BJ cs _ ih=>
  rw[Jv]
  cases hl with
  |BJ _ hl=>
   refine .BJ _ λi d' hd=> ?_
   simp only[AAZ,AAm]at hd
   obtain⟨e,he,rfl⟩:=hd
   exact ih i e he (hl i e he)
theorem St.PZ (h:St G w S δ Fr) (n d s:Nat):(EG G n d δ s).er=FV G n d (λs=>(δ s).er) s:=by
 unfold EG FV
 split
 . exact(Kq n d (h.ok s)).1
 . rfl
theorem St.K5 (h:St G w S δ Fr) (n d s:Nat):(EG G n d δ s).Aq=(δ s).Aq:=by
 unfold EG
 split
 . exact(Kq n d (h.ok s)).2.1
 . rfl
theorem St.o9 (h:St G w S δ Fr) (n d s:Nat):Ok w S (EG G n d δ s) (Fr s):=by
 unfold EG
 split
 . exact(Kq n d (h.ok s)).2.2
 . exact h.ok s
theorem St.pF (h:St G w S δ Fr) (n d s:Nat):E9 (G.GJ s) (EG G n d δ s).er=true:=by
 unfold EG
 split
 . rw[(Kq n d (h.ok s)).1];exact PY _ n d _ (h.rt s)
 . exact h.rt s
theorem Ur {t:DV} (n d:Nat) (q:List Step) {v:Value} {bx:Bool} {k:Nat} {rows:List (List DV)}:Abs.Am (FU n d t) q=some (.own v bx k rows)↔Abs.Am t q=some (.own v bx k rows):=by
 induction q generalizing t with
 |nil=>
  simp only[Abs.Am,AAN]
  cases t<;>simp
 |cons s q ih=>
  obtain⟨i,j,k0⟩:=s
  cases t with
  |lf a v=>simp[Abs.Am]
  |own h b k1 JD=>rw[K4]
  |agg cs=>
   simp only[Ju,Abs.Am,AAZ]
   cases hj:cs[j]? with
   |none=>simp
   |some c=>simp only[AAl];exact ih
  |BJ cs=>
   simp only[Jv,Abs.Am,AAZ]
   cases hj:cs[j]? with
   |none=>simp
   |some c=>simp only[AAl];exact ih
theorem WD (n d r:Nat) (p:List Step) {v:Value} {bx:Bool} {k:Nat} {rows:List (List DV)}:Abs.Am (EG G n d δ r) p=some (.own v bx k rows)↔Abs.Am (δ r) p=some (.own v bx k rows):=by
 unfold EG
 split
 . exact Ur n d p
 . exact ABe
theorem Me {t t' y:DV} (q:List Step):∀(p:List Step),q.length≤p.length->DA t p y=some t'->(q.length=p.length->∀v bx k rows,Abs.Am t p=some (.own v bx k rows)->∃rows',y= .own v bx k rows')->∀{v:Value} {bx:Bool} {k:Nat} {rows:List (List DV)},Abs.Am t q=some (.own v bx k rows)->∃rows',Abs.Am t' q=some (.own v bx k rows'):=by
 induction q generalizing t t' with
 |nil=>
  intro p hl hp hy v bx k rows hq
  simp only[Abs.Am,AAN]at hq
  subst hq
  match p,hl with
  |[],_=>
   simp only[DA,AAN]at hp
   subst hp
   obtain⟨rows',h⟩:=hy rfl v bx k rows rfl
   exact⟨rows',by rw[h];rfl⟩
  | (i,j,k0)::p,_=>
   simp only[DA]at hp
   split at hp
   . split at hp
     . split at hp
       . simp only[AAN]at hp;subst hp;exact⟨_,by simp[Abs.Am];rfl⟩
       . cases hp
     . cases hp
   . cases hp
 |cons s q ih=>
  intro p hl hp hy v bx k rows hq
  obtain⟨i,j,k0⟩:=s
  match p,hl with
  | (i',j',k')::p,hl=>
   have hl':q.length≤p.length:=by simpa using hl
   cases t with
   |lf a v=>simp[Abs.Am]at hq
   |own h b k1 JD=>
    simp only[DA]at hp
    split at hp
    . rename_i row DZ
      split at hp
      . rename_i c hc
        split at hp
        . rename_i c' S4
          simp only[AAN]at hp
          subst hp
          simp only[Abs.Am]at hq ⊢
          cases hi:JD[i]? with
          |none=>simp[hi]at hq
          |some row2=>
           simp only[hi]at hq
           cases hj:row2[j]? with
           |none=>simp[hj]at hq
           |some c2=>
            simp only[hj]at hq
            have hi2:i<JD.length:=(AAQ.1 hi).1
            have wX:j<row2.length:=(AAQ.1 hj).1
            by_cases e1:i'=i
            . subst e1
              rw[hi]at DZ;cases DZ
              rw[AAS hi2]
              by_cases e2:j'=j
              . subst e2
                rw[hj]at hc;cases hc
                simp only[AAS wX]
                exact ih p hl' S4 (λe v bx k rows h=>hy (by simp[e]) v bx k rows (by simp only[Abs.Am,hi,hj];exact h)) hq
              . simp only[AAV e2,hj]
                exact⟨rows,hq⟩
            . rw[AAV e1]
              simp only[hi,hj]
              exact⟨rows,hq⟩
        . cases hp
      . cases hp
    . cases hp
   |agg cs=>
    simp only[DA]at hp
    split at hp
    . rename_i c hc
      split at hp
      . rename_i c' S4
        simp only[AAN]at hp
        subst hp
        simp only[Abs.Am]at hq ⊢
        cases hj:cs[j]? with
        |none=>simp[hj]at hq
        |some c2=>
         simp only[hj]at hq
         have wX:j<cs.length:=(AAQ.1 hj).1
         by_cases e2:j'=j
         . subst e2
           rw[hj]at hc;cases hc
           simp only[AAS wX]
           exact ih p hl' S4 (λe v bx k rows h=>hy (by simp[e]) v bx k rows (by simp only[Abs.Am,hj];exact h)) hq
         . simp only[AAV e2,hj]
           exact⟨rows,hq⟩
      . cases hp
    . cases hp
   |BJ cs=>
    simp only[DA]at hp
    split at hp
    . rename_i c hc
      split at hp
      . rename_i c' S4
        simp only[AAN]at hp
        subst hp
        simp only[Abs.Am]at hq ⊢
        cases hj:cs[j]? with
        |none=>simp[hj]at hq
        |some c2=>
         simp only[hj]at hq
         have wX:j<cs.length:=(AAQ.1 hj).1
         by_cases e2:j'=j
         . subst e2
           rw[hj]at hc;cases hc
           simp only[AAS wX]
           exact ih p hl' S4 (λe v bx k rows h=>hy (by simp[e]) v bx k rows (by simp only[Abs.Am,hj];exact h)) hq
         . simp only[AAV e2,hj]
           exact⟨rows,hq⟩
      . cases hp
    . cases hp
theorem St.zM (h:St G w S δ Fr) (n d:Nat) (dn:DV) (Fn:Nat->Prop) (hw:∀b,S b->w'.heap[b]? =w.heap[b]?) (hf:∀s,s≠d->∀x,Fr s x->w'.heap[x]? =w.heap[x]?)
 (LH:∀b,S b->S' b) (Nz:∀s,s≠d->∀x,Fr s x->¬S' x) (hn:Ok w' S' dn Fn) (CS:∀s,s≠d->∀x,Fn x->¬Fr s x) (Xm:E9 (G.GJ d) dn.er=true) (F6:C3 δ dn)
 (hab:∀p v bx k rows,p.length<n->Abs.Am (δ d) p=some (.own v bx k rows)->∃rows',Abs.Am dn p=some (.own v bx k rows')):
 St G w' S' (C1 (EG G n d δ) d dn) (C1 Fr d Fn):=by
 have IK:∀r p v bx k rows,(r≠d∨p.length<n)->Abs.Am (δ r) p=some (.own v bx k rows)->∃rows',Abs.Am (C1 (EG G n d δ) d dn r) p=some (.own v bx k rows'):=by
  intro r p v bx k rows hr hq
  by_cases e:r=d
  . subst e
    rw[A6]
    exact hab p v bx k rows (by omega) hq
  . rw[BN _ _ e]
    exact⟨rows,(WD n d r p).2 hq⟩
 have M8:∀r,r≠d->(C1 (EG G n d δ) d dn r).Aq=(δ r).Aq:=by
  intro r hr
  rw[BN _ _ hr]
  exact h.K5 n d r
 refine⟨?_,?_,?_,?_,h.self⟩
 . intro s
   by_cases hs:s=d
   . subst hs;rw[A6,A6];exact hn
   . rw[BN _ _ hs,BN _ _ hs]
     exact(h.o9 n d s).mono hw (hf s hs) LH (Nz s hs)
 . intro s t x h1 h2
   by_cases hs:s=d<;>by_cases ht:t=d
   . omega
   . subst hs
     rw[A6]at h1
     rw[BN _ _ ht]at h2
     exact absurd h2 (CS t ht x h1)
   . subst ht
     rw[A6]at h2
     rw[BN _ _ hs]at h1
     exact absurd h1 (CS s hs x h2)
   . rw[BN _ _ hs]at h1
     rw[BN _ _ ht]at h2
     exact h.LF s t x h1 h2
 . intro s
   by_cases hs:s=d
   . subst hs
     rw[A6]
     refine F6.mono Xm (λr hr p v bx k rows hq=>IK r p v bx k rows (.inl ?_) hq) (λr hr=>M8 r ?_)
     . rintro rfl;exact h.self _ hr
     . rintro rfl;exact h.self _ hr
   . rw[BN _ _ hs]
     unfold EG
     split
     . exact(h.al s).Ek n d (h.ok s).KQ IK M8
     . rename_i hn
       have hd:d∉G.GJ s:=λhm=>hn (Gi.lK hm)
       refine(h.al s).mono (h.rt s) (λr hr p v bx k rows hq=>IK r p v bx k rows (.inl ?_) hq) (λr hr=>M8 r ?_)
       . rintro rfl;exact hd hr
       . rintro rfl;exact hd hr
 . intro s
   by_cases hs:s=d
   . subst hs;rw[A6];exact Xm
   . rw[BN _ _ hs];exact h.pF n d s
end Go.Abs
namespace Go.Abs
variable {w w':World} {S S':Nat->Prop} {G:Gi} {δ:Nat->DV} {Fr:Nat->Nat->Prop}
structure Nx (w:World) (S U:Nat->Prop) (w':World) (S' U':Nat->Prop):Prop where
 os:w'.os=w.os
 tape:w'.tape=w.tape
 output:w'.output=w.output
 size:w.heap.size≤w'.heap.size
 block:∀b,b<w.heap.size->¬U b->w'.heap[b]? =w.heap[b]?
 sub:∀b,S b->S' b
 sup:∀b,S' b->S b∨U b∨w.heap.size≤b
 lt:(∀b,S b->b<w.heap.size)->∀b,S' b->b<w'.heap.size
 own:∀x,U' x->U x∨w.heap.size≤x
theorem Nx.refl (w:World) (S U:Nat->Prop):Nx w S U w S U:=
 ⟨rfl,rfl,rfl,AAy _,λ_ _ _=>rfl,λ_ h=>h,λ_ h=>.inl h,λh=>h,λ_ h=>.inl h⟩
theorem Nx.less {w:World} {S U U':Nat->Prop} (h:∀x,U' x->U x):Nx w S U w S U':=
 ⟨rfl,rfl,rfl,AAy _,λ_ _ _=>rfl,λ_ h=>h,λ_ h=>.inl h,λh=>h,λx hx=>.inl (h x hx)⟩
theorem Nx.trans {w w1 w2:World} {S S1 S2 U U1 U2:Nat->Prop} (h:Nx w S U w1 S1 U1) (k:Nx w1 S1 U1 w2 S2 U2):Nx w S U w2 S2 U2:=by
 refine⟨k.os.trans h.os,k.tape.trans h.tape,k.output.trans h.output,ABO h.size k.size,?_,λb hb=>k.sub b (h.sub b hb),?_,λhl b hb=>k.lt (h.lt hl) b hb,?_⟩
 . intro b hb hU
   rw[k.block b (ABM hb h.size) ?_,h.block b hb hU]
   intro hU1
   rcases h.own b hU1 with h1|h1
   . exact hU h1
   . omega
 . intro b hb
   have hs:=h.size
   rcases k.sup b hb with h1|h1|h1
   . exact h.sup b h1
   . rcases h.own b h1 with h2|h2
     . exact .inr (.inl h2)
     . exact .inr (.inr h2)
   . exact .inr (.inr (ABO hs h1))
 . intro x hx
   have hs:=h.size
   rcases k.own x hx with h1|h1
   . exact h.own x h1
   . exact .inr (ABO hs h1)
abbrev A2 (Fr:Nat->Nat->Prop):Nat->Prop:=λx=>∃s,Fr s x
theorem xV (d:Nat) (σ:Sg):JA (G.NW d) d σ=I9 G d σ:=by
 unfold JA I9
 split
 . rename_i h;funext s;simp[h]
 . rfl
theorem C3.dead (v:Value):C3 δ (.lf .dead v):=.lf _ _ trivial
theorem St.empty (h:St G w S δ Fr) (s:Nat):
 St G w S (C1 (Gp G s δ) s (.lf .dead (δ s).Aq)) (C1 Fr s λ_=>False):=by
 refine h.set s _ _ (λ_ _=>rfl) (λ_ _ _ _=>rfl) (λ_ h=>h) (λt _ x hx=>(h.ok t).EZ x hx) (.lf _ _ _ trivial (λ_ h=>h)) (λ_ _ _ h=>h.elim) (by simp) (C3.dead _)
theorem Hl (h:St G w S δ Fr) (d:Nat) (x:DV):(λs=>(C1 (Gp G d δ) d x s).er)=C1 (I9 G d (λs=>(δ s).er)) d x.er:=by
 funext s
 by_cases hs:s=d
 . subst hs;simp[C1]
 . simp only[C1,hs,AAe];exact h.bO d s
theorem HL (h:St G w S δ Fr) (d:Nat) (x:DV) (s:Nat):(C1 (Gp G d δ) d x s).Aq=if s=d then x.Aq else(δ s).Aq:=by
 by_cases hs:s=d
 . subst hs;simp[C1]
 . simp only[C1,hs,AAe];exact h.TP d s
theorem T5 {t t':DV} {a:AV} {v0:Value} (p:List Step) (hp:DA t p (.lf a v0)=some t') (q:List Step) {v:Value} {bx:Bool} {k:Nat} {rows:List (List DV)}
 (hq:Am t' q=some (.own v bx k rows)):∃rows',Am t q=some (.own v bx k rows'):=by
 induction p generalizing t t' q with
 |nil=>
  simp only[DA,AAN]at hp
  subst hp
  cases q with
  |nil=>simp[Am]at hq
  |cons s q=>simp[Am]at hq
 |cons s p ih=>
  obtain⟨i,j,k0⟩:=s
  cases t with
  |lf a v=>simp[DA]at hp
  |own hh b k1 JD=>
   simp only[DA]at hp
   cases hi:JD[i]? with
   |none=>simp[hi]at hp
   |some row=>
    simp only[hi]at hp
    cases hj:row[j]? with
    |none=>simp[hj]at hp
    |some c=>
     simp only[hj]at hp
     cases hc:DA c p (.lf a v0)with
     |none=>simp[hc]at hp
     |some c'=>
      simp only[hc,AAN]at hp
      subst hp
      have D5:=(AAQ.1 hi).1
      have Ml:=(AAQ.1 hj).1
      cases q with
      |nil=>
       simp only[Am,AAN,DV.own.injEq]at hq
       obtain⟨rfl,rfl,rfl,_⟩:=hq
       exact⟨_,rfl⟩
      |cons s2 q=>
       obtain⟨i2,j2,k2⟩:=s2
       simp only[Am]at hq ⊢
       by_cases h1:i2=i
       . subst h1
         simp only[AAS D5]at hq
         simp only[hi]
         by_cases h2:j2=j
         . subst h2
           simp only[AAS Ml]at hq
           simp only[hj]
           exact ih hc q hq
         . rw[AAV (by omega)]at hq
           exact⟨rows,hq⟩
       . rw[AAV (by omega)]at hq
         exact⟨rows,hq⟩
  |agg cs=>
   simp only[DA]at hp
   cases hj:cs[j]? with
   |none=>simp[hj]at hp
   |some c=>
    simp only[hj]at hp
    cases hc:DA c p (.lf a v0)with
    |none=>simp[hc]at hp
    |some c'=>
     simp only[hc,AAN]at hp
     subst hp
     have Ml:=(AAQ.1 hj).1
     cases q with
     |nil=>simp[Am]at hq
     |cons s2 q=>
      obtain⟨i2,j2,k2⟩:=s2
      simp only[Am]at hq ⊢
      by_cases h2:j2=j
      . subst h2
        simp only[AAS Ml]at hq
        simp only[hj]
        exact ih hc q hq
      . rw[AAV (by omega)]at hq
        exact⟨rows,hq⟩
  |BJ cs=>
   simp only[DA]at hp
   cases hj:cs[j]? with
   |none=>simp[hj]at hp
   |some c=>
    simp only[hj]at hp
    cases hc:DA c p (.lf a v0)with
    |none=>simp[hc]at hp
    |some c'=>
     simp only[hc,AAN]at hp
     subst hp
     have Ml:=(AAQ.1 hj).1
     cases q with
     |nil=>simp[Am]at hq
     |cons s2 q=>
      obtain⟨i2,j2,k2⟩:=s2
      simp only[Am]at hq ⊢
      by_cases h2:j2=j
      . subst h2
        simp only[AAS Ml]at hq
        simp only[hj]
        exact ih hc q hq
      . rw[AAV (by omega)]at hq
        exact⟨rows,hq⟩
theorem Le {t t' new:DV} (p:List Step) (hp:DA t p new=some t') (ht:C3 δ t) (hn:C3 δ new):C3 δ t':=by
 induction p generalizing t t' with
 |nil=>simp only[DA,AAN]at hp;exact hp▸hn
 |cons s p ih=>
  obtain⟨i,j,k⟩:=s
  cases ht with
  |lf a v h=>simp[DA]at hp
  |own hh b k1 rows=>
   simp only[DA]at hp
   split at hp
   . split at hp
     . split at hp
       . simp only[AAN]at hp;subst hp;exact .own _ _ _ _
       . cases hp
     . cases hp
   . cases hp
  |agg cs hr=>
   simp only[DA]at hp
   split at hp
   . rename_i c hc
     split at hp
     . rename_i c' S4
       simp only[AAN]at hp
       subst hp
       refine .agg _ λi d hd=> ?_
       by_cases hi:i=j
       . subst hi
         rw[AAS (AAQ.1 hc).1]at hd
         obtain rfl:=AAR hd
         exact ih S4 (hr i c hc)
       . rw[AAV (by omega)]at hd
         exact hr i d hd
     . cases hp
   . cases hp
  |BJ cs hr=>
   simp only[DA]at hp
   split at hp
   . rename_i c hc
     split at hp
     . rename_i c' S4
       simp only[AAN]at hp
       subst hp
       refine .BJ _ λi d hd=> ?_
       by_cases hi:i=j
       . subst hi
         rw[AAS (AAQ.1 hc).1]at hd
         obtain rfl:=AAR hd
         exact ih S4 (hr i c hc)
       . rw[AAV (by omega)]at hd
         exact hr i d hd
     . cases hp
   . cases hp
theorem K9 {L:List Nat} {t t' new:DV} (p:List Step) (hp:DA t p new=some t') (ht:E9 L t.er=true) (hn:E9 L new.er=true):E9 L t'.er=true:=by
 induction p generalizing t t' with
 |nil=>simp only[DA,AAN]at hp;exact hp▸hn
 |cons s p ih=>
  obtain⟨i,j,k⟩:=s
  cases t with
  |lf a v=>simp[DA]at hp
  |own hh b k1 rows=>
   simp only[DA]at hp
   split at hp
   . split at hp
     . split at hp
       . simp only[AAN]at hp;subst hp;simp
       . cases hp
     . cases hp
   . cases hp
  |agg cs=>
   simp only[DA]at hp
   split at hp
   . rename_i c hc
     split at hp
     . rename_i c' S4
       simp only[AAN]at hp
       subst hp
       simp only[Gz,JX,ABG,AAU]at ht ⊢
       intro x hx
       rcases AAv hx with h|rfl
       . exact ht x h
       . exact ih S4 (ht c (AAb hc))
     . cases hp
   . cases hp
  |BJ cs=>
   simp only[DA]at hp
   split at hp
   . rename_i c hc
     split at hp
     . rename_i c' S4
       simp only[AAN]at hp
       subst hp
       simp only[Iz,NI,ABG,AAU]at ht ⊢
       intro x hx
       rcases AAv hx with h|rfl
       . exact ht x h
       . exact ih S4 (ht c (AAb hc))
     . cases hp
   . cases hp
theorem St.replace {n:DV} (h:St G w S δ Fr) (r:Nat) (p:List Step) (hs:Am (δ r) p=some n):
 ∃Fo,Ok w S n Fo/\(∀x,Fo x->Fr r x)/\∀(S':Nat->Prop) (new:DV),new.Aq=n.Aq->Ok w S' new (λ_=>False)->(∀b,S b->S' b)->(∀t b,Fr t b->¬Fo b->¬S' b)->
  (∀L,E9 L new.er=true)->C3 δ new->
  ∃t F',DA (δ r) p new=some t/\St G w S' (C1 (Gp G r δ) r t) (C1 Fr r F')/\(∀x,F' x↔Fr r x/\¬Fo x)/\t.Aq=(δ r).Aq:=by
 obtain⟨Fo,ho,Bb,Ls⟩:=(h.ok r).replace p hs
 refine⟨Fo,ho,Bb,?_⟩
 intro S' new ha hn LH Nz T1 F6
 obtain⟨t,F',ht,CH,HZ,C9⟩:=Ls w S' new (λ_=>False) ha hn (λ_ h=>h.elim) (λ_ _=>rfl) (λ_ _ _=>rfl) LH (λb hb dK=>Nz r b hb dK)
 have aY:∀x,F' x↔Fr r x/\¬Fo x:=λx=>by rw[HZ x];simp
 refine⟨t,F',ht,?_,aY,C9⟩
 refine h.set r t F' (λ_ _=>rfl) (λ_ _ _ _=>rfl) LH ?_ CH ?_ (K9 p ht (h.rt r) (T1 _)) (Le p ht (h.al r) F6)
 . intro s Fl x hx
   exact Nz s x hx λoS=>Fl (h.LF s r x hx (Bb x oS))
 . intro s Fl x hx KY
   exact Fl (h.LF s r x KY ((aY x).1 hx).1)
theorem My (h:St G w S δ Fr) (n d:Nat) (x:DV):(λs=>(C1 (EG G n d δ) d x s).er)=C1 (FV G n d (λs=>(δ s).er)) d x.er:=by
 funext s
 by_cases hs:s=d
 . subst hs;simp[C1]
 . simp only[C1,hs,AAe];exact h.PZ n d s
theorem Lr (h:St G w S δ Fr) (n d:Nat) (x:DV) (s:Nat):(C1 (EG G n d δ) d x s).Aq=if s=d then x.Aq else(δ s).Aq:=by
 by_cases hs:s=d
 . subst hs;simp[C1]
 . simp only[C1,hs,AAe];exact h.K5 n d s
theorem St.cH {n:DV} (h:St G w S δ Fr) (r:Nat) (p:List Step) (hs:Am (δ r) p=some n):
 ∃Fo,Ok w S n Fo/\(∀x,Fo x->Fr r x)/\∀(S':Nat->Prop) (new:DV),new.Aq=n.Aq->Ok w S' new (λ_=>False)->(∀b,S b->S' b)->(∀t b,Fr t b->¬Fo b->¬S' b)->
  (∀L,E9 L new.er=true)->C3 δ new->
  ∃t F',DA (δ r) p new=some t/\St G w S' (C1 (EG G p.length r δ) r t) (C1 Fr r F')/\(∀x,F' x↔Fr r x/\¬Fo x)/\t.Aq=(δ r).Aq:=by
 obtain⟨Fo,ho,Bb,Ls⟩:=(h.ok r).replace p hs
 refine⟨Fo,ho,Bb,?_⟩
 intro S' new ha hn LH Nz T1 F6
 obtain⟨t,F',ht,CH,HZ,C9⟩:=Ls w S' new (λ_=>False) ha hn (λ_ h=>h.elim) (λ_ _=>rfl) (λ_ _ _=>rfl) LH (λb hb dK=>Nz r b hb dK)
 have aY:∀x,F' x↔Fr r x/\¬Fo x:=λx=>by rw[HZ x];simp
 refine⟨t,F',ht,?_,aY,C9⟩
 refine h.zM p.length r t F' (λ_ _=>rfl) (λ_ _ _ _=>rfl) LH ?_ CH ?_ (K9 p ht (h.rt r) (T1 _)) (Le p ht (h.al r) F6) ?_
 . intro s Fl x hx
   exact Nz s x hx λoS=>Fl (h.LF s r x hx (Bb x oS))
 . intro s Fl x hx KY
   exact Fl (h.LF s r x KY ((aY x).1 hx).1)
 . intro q v bx k rows hq hsq
   exact Me q p (by omega) ht (λe=>absurd e (by omega)) hsq
theorem St.Zh (h:St G w S δ Fr) {r:Nat} {p:List Step} {a:AV} {τ:Sg} (ht:Abs.Zh G r p (λs=>(δ s).er)=some (a,τ)):
 ∃δ' F' D Ff,St G w S δ' F'/\(λs=>(δ' s).er)=τ/\(∀s,(δ' s).Aq=(δ s).Aq)/\Ok w S D Ff/\D.er=a/\(∃v bx k rows,D= .own v bx k rows)/\Am (δ r) p=some D/\(∀s x,F' s x->¬Ff x)/\
  (∀x,A2 F' x∨Ff x->A2 Fr x)/\(∀q v bx k rows,Am (δ' r) q=some (.own v bx k rows)->∃rows',Am (δ r) q=some (.own v bx k rows'))/\(∀s,s≠r->δ' s=EG G p.length r δ s):=by
 unfold Abs.Zh at ht
 split at ht
 . rename_i b k rows hs
   split at ht
   . rename_i t hp
     simp only[AAN,AAc]at ht
     obtain⟨rfl,rfl⟩:=ht
     obtain⟨D,hD,Er⟩:=DT (h.ok r).KQ hs
     obtain⟨Fo,ho,Bb,Ls⟩:=h.cH r p hD
     obtain⟨td,F',htd,Bs,HZ,C9⟩:=Ls S (.lf .dead D.Aq) (by simp) (.lf _ _ _ trivial (λ_ h=>h)) (λ_ h=>h) (λt b hb _=>(h.ok t).EZ b hb) (by simp) (C3.dead _)
     have oZ:td.er=t:=by
      obtain⟨t',h1,h2⟩:=Gd (d:=δ r) (p:=p) (a:=t) (.lf .dead D.Aq) (h.ok r).KQ (by simpa using hp)
      rw[htd]at h1
      obtain rfl:=AAR h1
      exact h2
     have Dh:∃v bx k rows,D= .own v bx k rows:=by
      have:=ho.KQ
      cases D with
      |own v bx k rows=>exact⟨v,bx,k,rows,rfl⟩
      |lf a v=>cases this with|lf _ _ hl=>simp at Er;subst Er;simp[CR]at hl
      |agg cs=>simp at Er
      |BJ cs=>simp at Er
     refine⟨_,_,D,Fo,Bs,by rw[My h,oZ],?_,ho,Er,Dh,hD,?_,?_,?_,λs Fl=>BN _ _ Fl⟩
     . intro s;rw[Lr h];split
       . rename_i e;rw[e,C9]
       . rfl
     . intro s x hx hF
       by_cases Fl:s=r
       . subst Fl;rw[A6]at hx;exact((HZ x).1 hx).2 hF
       . rw[BN _ _ Fl]at hx
         exact Fl (h.LF s r x hx (Bb x hF))
     . rintro x (⟨s,hx⟩|hx)
       . by_cases Fl:s=r
         . subst Fl;rw[A6]at hx;exact⟨s,((HZ x).1 hx).1⟩
         . rw[BN _ _ Fl]at hx;exact⟨s,hx⟩
       . exact⟨r,Bb x hx⟩
     . intro q v bx k' rows' hq
       rw[A6]at hq
       exact T5 p htd q hq
   . cases ht
 . cases ht
end Go.Abs
namespace Go.Abs
variable {w w':World} {S S':Nat->Prop} {G:Gi} {δ:Nat->DV} {Fr:Nat->Nat->Prop}
theorem ZQ {t:DV} (d:Nat) (q:List Step) {v:Value} {bx:Bool} {k:Nat} {rows:List (List DV)} (hq:Am (Gn d t) q=some (.own v bx k rows)):Am t q=some (.own v bx k rows):=by
 induction q generalizing t with
 |nil=>
  simp only[Am,AAN]at hq ⊢
  cases t with
  |lf a v=>simp at hq
  |own=>simpa using hq
  |agg=>simp at hq
  |BJ=>simp at hq
 |cons s q ih=>
  obtain⟨i,j,k0⟩:=s
  cases t with
  |lf a v=>simp[Am]at hq
  |own h b k1 JD=>rw[MZ]at hq;exact hq
  |agg cs=>
   simp only[Js,Am,AAZ]at hq ⊢
   cases hj:cs[j]? with
   |none=>simp[hj]at hq
   |some c=>simp only[hj,AAl]at hq ⊢;exact ih hq
  |BJ cs=>
   simp only[Jt,Am,AAZ]at hq ⊢
   cases hj:cs[j]? with
   |none=>simp[hj]at hq
   |some c=>simp only[hj,AAl]at hq ⊢;exact ih hq
theorem SF (d r:Nat) (q:List Step) {v:Value} {bx:Bool} {k:Nat} {rows:List (List DV)} (hq:Am (Gp G d δ r) q=some (.own v bx k rows)):Am (δ r) q=some (.own v bx k rows):=by
 unfold Gp at hq
 split at hq
 . exact ZQ d q hq
 . exact hq
def Hd (δ δ':Nat->DV):Prop:=∀r q v bx k rows,Am (δ' r) q=some (.own v bx k rows)->∃rows',Am (δ r) q=some (.own v bx k rows')
theorem Hd.refl (δ:Nat->DV):Hd δ δ:=λ_ _ _ _ _ rows h=>⟨rows,h⟩
theorem Hd.trans {δ δ' δ'':Nat->DV} (h:Hd δ δ') (k:Hd δ' δ''):Hd δ δ'':=by
 intro r q v bx kk rows hq
 obtain⟨rows',h'⟩:=k r q v bx kk rows hq
 exact h r q v bx kk rows' h'
def JF (w:World) (S:Nat->Prop):List DV->(Nat->Prop)->Prop
 |[],F=>∀x,¬F x
 |d::ds,F=>∃F1 F2,Ok w S d F1/\JF w S ds F2/\(∀x,F1 x->¬F2 x)/\∀x,F x↔F1 x∨F2 x
def sU (w:World) (S:Nat->Prop) (cs:List DV) (F:Nat->Prop):Prop:=
 ∃Fs:Nat->Nat->Prop,(∀(i:Nat) d,cs[i]? =some d->Ok w S d (Fs i))/\(∀i i' x,Fs i x->Fs i' x->i=i')/\(∀i x,Fs i x->∃d,cs[i]? =some d)/\(∀x,F x↔∃i,Fs i x)
theorem JK {cs:List DV} {F:Nat->Prop}:JF w S cs F↔sU w S cs F:=by
 induction cs generalizing F with
 |nil=>
  constructor
  . intro h
    exact⟨λ_ _=>False,by simp,λ_ _ _ h=>h.elim,λ_ _ h=>h.elim,λx=>⟨λhx=>absurd hx (h x),λ⟨_,h⟩=>h.elim⟩⟩
  . rintro⟨Fs,h1,h2,h3,h4⟩ x hx
    obtain⟨i,hi⟩:=(h4 x).1 hx
    obtain⟨d,hd⟩:=h3 i x hi
    simp at hd
 |cons d ds ih=>
  constructor
  . rintro⟨F1,F2,h1,h2,h3,h4⟩
    obtain⟨Fs,g1,g2,g3,g4⟩:=ih.1 h2
    refine⟨λi=>match i with|0=>F1|i+1=>Fs i,?_,?_,?_,?_⟩
    . intro i e he
      cases i with
      |zero=>simp only[AAw,AAN]at he;exact he▸h1
      |succ i=>simp only[ABA]at he;exact g1 i e he
    . intro i i' x hx hy
      cases i<;>cases i'
      . rfl
      . exact absurd ((g4 x).2 ⟨_,hy⟩) (h3 x hx)
      . exact absurd ((g4 x).2 ⟨_,hx⟩) (h3 x hy)
      . rename_i a b;rw[g2 a b x hx hy]
    . intro i x hx
      cases i with
      |zero=>exact⟨d,rfl⟩
      |succ i=>obtain⟨e,he⟩:=g3 i x hx;exact⟨e,by simpa using he⟩
    . intro x
      rw[h4 x]
      constructor
      . rintro(h|h)
        . exact⟨0,h⟩
        . obtain⟨i,hi⟩:=(g4 x).1 h;exact⟨i+1,hi⟩
      . rintro⟨i,hi⟩
        cases i with
        |zero=>exact .inl hi
        |succ i=>exact .inr ((g4 x).2 ⟨i,hi⟩)
  . rintro⟨Fs,g1,g2,g3,g4⟩
    refine⟨Fs 0,λx=>∃i,Fs (i+1) x,g1 0 d rfl,ih.2 ⟨λi=>Fs (i+1),?_,?_,?_,λx=>ABe⟩,?_,?_⟩
    . intro i e he;exact g1 (i+1) e (by simpa using he)
    . intro i i' x hx hy;have:=g2 _ _ x hx hy;omega
    . intro i x hx;obtain⟨e,he⟩:=g3 _ x hx;exact⟨e,by simpa using he⟩
    . rintro x hx ⟨i,hi⟩;have:=g2 _ _ x hx hi;omega
    . intro x
      rw[g4 x]
      constructor
      . rintro⟨i,hi⟩
        cases i with
        |zero=>exact .inl hi
        |succ i=>exact .inr ⟨i,hi⟩
      . rintro(h|⟨i,h⟩)
        . exact⟨0,h⟩
        . exact⟨i+1,h⟩
theorem Be {cs:List DV} {F:Nat->Prop}:Ok w S (.agg cs) F↔JF w S cs F:=by
 rw[JK]
 constructor
 . intro h
   cases h with
   |agg _ Fs _ h1 h2 h3 h4=>exact⟨Fs,h1,h2,h3,h4⟩
 . rintro⟨Fs,h1,h2,h3,h4⟩
   exact .agg cs Fs F h1 h2 h3 h4
theorem A9 {cs:List DV} {F:Nat->Prop}:Ok w S (.BJ cs) F↔JF w S cs F:=by
 rw[JK]
 constructor
 . intro h
   cases h with
   |BJ _ Fs _ h1 h2 h3 h4=>exact⟨Fs,h1,h2,h3,h4⟩
 . rintro⟨Fs,h1,h2,h3,h4⟩
   exact .BJ cs Fs F h1 h2 h3 h4
theorem JF.mono {cs:List DV} {F:Nat->Prop} (h:JF w S cs F) (hw:∀b,S b->w'.heap[b]? =w.heap[b]?) (hf:∀b,F b->w'.heap[b]? =w.heap[b]?) (hS:∀b,S b->S' b) (hn:∀x,F x->¬S' x):JF w' S' cs F:=
 Be.1 ((Be.2 h).mono hw hf hS hn)
theorem St.dU {δ0:Nat->DV} (ds:List DV):∀{δ:Nat->DV} {Fr:Nat->Nat->Prop} {F:Nat->Prop} {l:List AV} {τ:Sg},St G w S δ Fr->JF w S ds F->(∀d∈ds,C3 δ0 d)->Hd δ0 δ->(∀s x,Fr s x->¬F x)->
 Abs.dU G (ds.map DV.er) (λs=>(δ s).er)=some (l,τ)->
 ∃δ' F' P9 Ff,St G w S δ' F'/\(λs=>(δ' s).er)=τ/\(∀s,(δ' s).Aq=(δ s).Aq)/\JF w S P9 Ff/\P9.map DV.er=l/\P9.map DV.Aq=ds.map DV.Aq/\(∀s x,F' s x->¬Ff x)/\
  (∀x,A2 F' x∨Ff x->A2 Fr x∨F x)/\Hd δ0 δ'/\(∀a∈l,Ex a=true):=by
 induction ds with
 |nil=>
  intro δ Fr F l τ h CH F6 V0 CS ht
  simp only[AA2,Abs.dU,AAN,AAc]at ht
  obtain⟨rfl,rfl⟩:=ht
  exact⟨δ,Fr,[],F,h,rfl,λ_=>rfl,CH,rfl,rfl,CS,λx hx=>hx,V0,by simp⟩
 |cons d ds ih=>
  intro δ Fr F l τ h CH F6 V0 CS ht
  obtain⟨F1,F2,hd,Jd,h12,hF⟩:=CH
  have hald:=F6 d (by simp)
  have hal':∀e∈ds,C3 δ0 e:=λe he=>F6 e (by simp[he])
  simp only[AAg,Abs.dU]at ht
  cases QD:d.er with
  |al r p=>
   simp only[QD]at ht
   split at ht
   . rename_i n τ1 ht1
     split at ht
     . rename_i l' τ' ht2
       simp only[AAN,AAc]at ht
       obtain⟨rfl,rfl⟩:=ht
       obtain⟨δ1,F1',D,Ff,Bs,Iw,C9,hD,Er,⟨v,bx,k,rows,rfl⟩,Bb,YU,Rm,hhd1,UQ⟩:=h.Zh ht1
       have hH:Hd δ δ1:=by
        intro r' q v bx k rows hq
        by_cases hr:r'=r
        . subst hr;exact hhd1 q v bx k rows hq
        . rw[UQ r' hr]at hq;exact⟨rows,(WD _ r r' q).1 hq⟩
       subst Iw
       have hdF2:∀s x,F1' s x->¬F2 x:=by
        intro s x hx Qg
        obtain⟨t,ht⟩:=Rm x (.inl ⟨s,hx⟩)
        exact CS t x ht ((hF x).2 (.inr Qg))
       obtain⟨δ2,F2',P9,Fd,Jf,Qd,LU,Xi,OV,bC,LW,Jk,hhd2,BR⟩:=ih Bs Jd hal' (V0.trans hH) hdF2 ht2
       have hv:v=d.Aq:=by
        cases d with
        |lf a u=>
         simp only[Ea]at QD
         subst QD
         cases hald with
         |lf _ _ hl=>
          obtain⟨Zo,k',rows',hl⟩:=hl
          obtain⟨rows'',hq⟩:=V0 r p v bx k rows Bb
          rw[hl]at hq
          simp only[AAN,DV.own.injEq]at hq
          simp[hq.1]
        |own=>simp at QD
        |agg=>simp at QD
        |BJ=>simp at QD
       have hFf:∀x,Ff x->¬F2 x:=by
        intro x hx Qg
        obtain⟨t,ht⟩:=Rm x (.inr hx)
        exact CS t x ht ((hF x).2 (.inr Qg))
       have LJ:∀x,A2 F2' x∨Fd x->¬Ff x:=by
        intro x hx hf
        rcases Jk x hx with⟨s,hs⟩|h2
        . exact YU s x hs hf
        . exact hFf x hf h2
       refine⟨δ2,F2',.own v bx k rows::P9,λx=>Ff x∨Fd x,Jf,Qd,λs=>(LU s).trans (C9 s),⟨Ff,Fd,hD,Xi,λx hx KY=>LJ x (.inr KY) hx,λx=>ABe⟩,?_,?_,?_,?_,hhd2,?_⟩
       . simp only[AAg,Er,OV]
       . simp only[AAg,bC,KA,hv]
       . rintro s x hx (hf|hf)
         . exact LJ x (.inl ⟨s,hx⟩) hf
         . exact LW s x hx hf
       . rintro x (hx|hx|hx)
         . rcases Jk x (.inl hx)with h1|h1
           . exact .inl (Rm x (.inl h1))
           . exact .inr ((hF x).2 (.inr h1))
         . exact .inl (Rm x (.inr hx))
         . rcases Jk x (.inr hx)with h1|h1
           . exact .inl (Rm x (.inl h1))
           . exact .inr ((hF x).2 (.inr h1))
       . intro a ha
         simp only[AAp]at ha
         rcases ha with rfl|ha
         . rw[← Er];simp[Ex]
         . exact BR a ha
     . cases ht
   . cases ht
  |_=>
   simp only[QD]at ht
   split at ht
   . rename_i hc
     split at ht
     . rename_i l' τ' ht2
       simp only[AAN,AAc]at ht
       obtain⟨rfl,rfl⟩:=ht
       have hdF2:∀s x,Fr s x->¬F2 x:=λs x hx Qg=>CS s x hx ((hF x).2 (.inr Qg))
       obtain⟨δ2,F2',P9,Fd,Jf,Qd,LU,Xi,OV,bC,LW,Jk,hhd2,BR⟩:=ih h Jd hal' V0 hdF2 ht2
       have LJ:∀x,A2 F2' x∨Fd x->¬F1 x:=by
        intro x hx hf
        rcases Jk x hx with⟨s,hs⟩|h2
        . exact CS s x hs ((hF x).2 (.inl hf))
        . exact h12 x hf h2
       refine⟨δ2,F2',d::P9,λx=>F1 x∨Fd x,Jf,Qd,LU,⟨F1,Fd,hd,Xi,λx hx KY=>LJ x (.inr KY) hx,λx=>ABe⟩,?_,?_,?_,?_,hhd2,?_⟩
       . simp only[AAg,QD,OV]
       . simp only[AAg,bC]
       . rintro s x hx (hf|hf)
         . exact LJ x (.inl ⟨s,hx⟩) hf
         . exact LW s x hx hf
       . rintro x (hx|hx|hx)
         . rcases Jk x (.inl hx)with h1|h1
           . exact .inl h1
           . exact .inr ((hF x).2 (.inr h1))
         . exact .inr ((hF x).2 (.inl hx))
         . rcases Jk x (.inr hx)with h1|h1
           . exact .inl h1
           . exact .inr ((hF x).2 (.inr h1))
       . intro a ha
         simp only[AAp]at ha
         rcases ha with rfl|ha
         . exact hc
         . exact BR a ha
     . cases ht
   . cases ht
end Go.Abs
namespace Go.Abs
variable {w w':World} {S S':Nat->Prop} {G:Gi} {δ:Nat->DV} {Fr:Nat->Nat->Prop}
mutual
def IU:AV->ABp DV
 | .sc v=>if FW v=true then some (.lf (.sc v) v)else none
 | .own false k []=>some (.own (.slice none 0 0) false k [])
 | .sl x k []=>some (.lf (.sl x k []) (.slice none 0 0))
 | .agg cs=>match Vm cs with
  |some ds=>some (.agg ds)
  |none=>none
 |_=>none
def Vm:List AV->ABp (List DV)
 |[]=>some []
 |a::r=>match IU a with
  |some d=>match Vm r with
   |some ds=>some (d::ds)
   |none=>none
  |none=>none
end
theorem Hy (a:AV):∀D,IU a=some D->D.er=a/\Ok w S D (λ_=>False)/\C3 δ D/\(∀L,E9 L a=true):=by
 refine AV.rec (motive_1:=λa=>∀D,IU a=some D->D.er=a/\Ok w S D (λ_=>False)/\C3 δ D/\(∀L,E9 L a=true)) (motive_2:=λ_=>True)
  (motive_3:=λl=>∀ds,Vm l=some ds->ds.map DV.er=l/\JF w S ds (λ_=>False)/\(∀d∈ds,C3 δ d)/\(∀L,O6 L l=true)) ?_ ?_ ?_ ?_ ?_ ?_ ?_ ?_ ?_ ?_ ?_ ?_ ?_ ?_ ?_ ?_ ?_ a
 . intro v D h
   simp only[IU]at h
   split at h
   . rename_i hp
     obtain rfl:=Option.some.inj h
     exact⟨by simp,.lf _ _ _ ⟨rfl,hp⟩ (λ_ h=>h),.lf _ _ trivial,by simp⟩
   . cases h
 . intro x k rows _ D h
   cases rows with
   |nil=>
    simp only[IU]at h
    obtain rfl:=Option.some.inj h
    exact⟨by simp,.lf _ _ _ (Fz.nil x k none 0 (λ_=>rfl)) (λ_ h=>h),.lf _ _ trivial,by simp⟩
   |cons r rs=>simp[IU]at h
 . intro b k rows _ D h
   cases b with
   |true=>simp[IU]at h
   |false=>
    cases rows with
    |nil=>
     simp only[IU]at h
     obtain rfl:=Option.some.inj h
     exact⟨by simp,.nil k _ (λ_ h=>h),.own _ _ _ _,by simp⟩
    |cons r rs=>simp[IU]at h
 . intro cs ih D h
   simp only[IU]at h
   split at h
   . rename_i ds Jd
     obtain rfl:=Option.some.inj h
     obtain⟨h1,h2,h3,h4⟩:=ih ds Jd
     refine⟨by simp[h1],Be.2 h2,.agg _ λi d hd=>h3 d (List.mem_of_getElem? hd),λL=>by simp only[E9];exact h4 L⟩
   . cases h
 . intro cs _ D h;simp[IU]at h
 . intro r p D h;simp[IU]at h
 . intro r p i j k D h;simp[IU]at h
 . intro cs _ D h;simp[IU]at h
 . intro D h;simp[IU]at h
 . intro D h;simp[IU]at h
 . intro f rs D h;simp[IU]at h
 . intro s o us D h;simp[IU]at h
 . intro f U4 _ D h;simp[IU]at h
 . trivial
 . intros;trivial
 . intro ds h
   simp only[Vm,Option.some.injEq]at h
   subst h
   exact⟨rfl,λ_ h=>h,by simp,λL=>by simp[O6]⟩
 . intro a l Rn ihl ds h
   simp only[Vm]at h
   split at h
   . rename_i d hd
     split at h
     . rename_i P9 Jd
       obtain rfl:=Option.some.inj h
       obtain⟨h1,h2,h3,h4⟩:=Rn d hd
       obtain⟨g1,g2,g3,g4⟩:=ihl P9 Jd
       refine⟨by simp[h1,g1],⟨_,_,h2,g2,λ_ h=>h.elim,λx=>by simp⟩,?_,λL=>by simp[O6,h4 L,g4 L]⟩
       intro e he
       simp only[List.mem_cons]at he
       rcases he with rfl|he
       . exact h3
       . exact g3 e he
     . cases h
   . cases h
def VM:Ar->Prop
 | .t _=>True
 | .c a=>∃D,IU a=some D
def CQ (δ:Nat->DV):Ar->Value
 | .t s=>(δ s).Aq
 | .c a=>match IU a with
  |some D=>D.Aq
  |none=>undef
theorem QR {ds:List DV} (hc:∀a∈ds.map DV.er,Ex a=true):∀d∈ds,C3 δ d:=by
 intro d hd
 have h1:=hc d.er (List.mem_map_of_mem hd)
 cases d with
 |lf a v=>refine .lf a v ?_;simp only[Ea]at h1;cases a<;>simp_all [Ex,Lp]
 |own=>exact .own _ _ _ _
 |agg cs=>simp[Ex]at h1
 |BJ cs=>simp[Ex]at h1
structure Fly (G:Gi) (w:World) (S:Nat->Prop) (δ:Nat->DV) (Fr:Nat->Nat->Prop) (δ':Nat->DV) (F':Nat->Nat->Prop) (D:DV) (Ff:Nat->Prop):Prop where
 st:St G w S δ' F'
 Aq:∀s,(δ' s).Aq=(δ s).Aq
 ok:Ok w S D Ff
 al:C3 δ' D
 LF:∀s x,F' s x->¬Ff x
 own:∀x,A2 F' x∨Ff x->A2 Fr x
theorem St.tk (h:St G w S δ Fr) {x:Ar} {a:AV} {τ:Sg} (hx:VM x) (ht:Abs.tk G x (λs=>(δ s).er)=some (a,τ)):
 ∃δ' F' D Ff,Fly G w S δ Fr δ' F' D Ff/\(λs=>(δ' s).er)=τ/\D.er=a/\D.Aq=CQ δ x:=by
 cases x with
 |c c=>
  obtain⟨D,hD⟩:=hx
  simp only[Abs.tk,Option.some.injEq,Prod.mk.injEq]at ht
  obtain⟨rfl,rfl⟩:=ht
  obtain⟨h1,h2,h3,_⟩:=Hy (w:=w) (S:=S) (δ:=δ) c D hD
  exact⟨δ,Fr,D,_,⟨h,λ_=>rfl,h2,h3,λ_ _ _ h=>h,λx hx=>hx.elim id False.elim⟩,rfl,h1,by simp[CQ,hD]⟩
 |t s=>
  simp only[Abs.tk]at ht
  have bB:∀b,(δ s).er=b->CR b=true->∃v,δ s= .lf b v:=by
   intro b hb hl
   have:=(h.ok s).KQ
   cases hd:δ s with
   |lf c v=>rw[hd]at hb;simp at hb;exact⟨v,by rw[hb]⟩
   |own=>rw[hd]at hb;simp at hb;subst hb;simp[CR]at hl
   |agg=>rw[hd]at hb;simp at hb;subst hb;simp[CR]at hl
   |BJ=>rw[hd]at hb;simp at hb;subst hb;simp[CR]at hl
  have kV:∀b,(δ s).er=b->CR b=true->∃δ' F' D Ff,Fly G w S δ Fr δ' F' D Ff/\(λs=>(δ' s).er)=(λs=>(δ s).er)/\D.er=b/\D.Aq=CQ δ (.t s):=by
   intro b hb hl
   obtain⟨v,hv⟩:=bB b hb hl
   have CH:=h.ok s
   rw[hv]at CH
   cases CH with
   |lf _ _ _ ha hF=>
    exact⟨δ,Fr,.lf b v,λ_=>False,⟨h,λ_=>rfl,.lf _ _ _ ha (λ_ h=>h),hv▸h.al s,λ_ _ _ h=>h,λx hx=>hx.elim id False.elim⟩,rfl,by simp,by simp[CQ,hv]⟩
  cases hs:(δ s).er with
  |al r p=>
   simp only[hs]at ht
   obtain⟨δ1,F1,D,Ff,Bs,Iw,C9,hD,Er,⟨v,bx,k,rows,rfl⟩,Bb,CS,Dh,V0,UQ⟩:=h.Zh ht
   refine⟨δ1,F1,_,Ff,⟨Bs,C9,hD,.own _ _ _ _,CS,Dh⟩,Iw,Er,?_⟩
   obtain⟨u,hu⟩:=bB _ hs rfl
   have F6:=h.al s
   rw[hu]at F6
   cases F6 with
   |lf _ _ hl=>
    obtain⟨Zo,k',rows',hl⟩:=hl
    rw[hl]at Bb
    simp only[Option.some.injEq,DV.own.injEq]at Bb
    simp[CQ,hu,Bb.1]
  |own b k rows=>
   simp only[hs,Option.some.injEq,Prod.mk.injEq]at ht
   obtain⟨rfl,rfl⟩:=ht
   have Bs:=h.empty s
   refine⟨_,_,δ s,Fr s,⟨Bs,?_,h.ok s,?_,?_,?_⟩,by rw[Hl h];simp,hs,rfl⟩
   . intro t;rw[HL h];split
     . rename_i e;rw[e];simp
     . rfl
   . have:=(h.ok s).KQ
     cases hd:δ s with
     |own=>exact .own _ _ _ _
     |lf c v=>rw[hd]at hs this;cases this with|lf _ _ hl=>simp at hs;subst hs;simp[CR]at hl
     |agg=>rw[hd]at hs;simp at hs
     |BJ=>rw[hd]at hs;simp at hs
   . intro t x hx hf
     by_cases e:t=s
     . subst e;rw[A6]at hx;exact hx
     . rw[BN _ _ e]at hx;exact e (h.LF t s x hx hf)
   . rintro x (⟨t,hx⟩|hx)
     . by_cases e:t=s
       . subst e;rw[A6]at hx;exact hx.elim
       . rw[BN _ _ e]at hx;exact⟨t,hx⟩
     . exact⟨s,hx⟩
  |agg cs=>
   simp only[hs]at ht
   obtain⟨ds,Jd,S5⟩:∃ds,δ s= .agg ds/\ds.map DV.er=cs:=by
    have:=(h.ok s).KQ
    cases hd:δ s with
    |agg ds=>rw[hd]at hs;simp at hs;exact⟨ds,rfl,hs⟩
    |lf c v=>rw[hd]at hs this;cases this with|lf _ _ hl=>simp at hs;subst hs;simp[CR]at hl
    |own=>rw[hd]at hs;simp at hs
    |BJ=>rw[hd]at hs;simp at hs
   split at ht
   . rename_i TK
     simp only[Option.some.injEq,Prod.mk.injEq]at ht
     obtain⟨rfl,rfl⟩:=ht
     have CH:=h.ok s
     rw[Jd]at CH
     -- nothing is owned
     have hempty:JF w S ds (λ_=>False):=by
      have xC:=Be.1 CH
      clear CH Jd
      rw[← S5]at TK
      clear S5 hs
      generalize Fr s=F at xC
      induction ds generalizing F with
      |nil=>exactλ_ h=>h
      |cons d ds ih=>
       obtain⟨F1,F2,h1,h2,_,_⟩:=xC
       simp only[List.map_cons,List.all_cons,Bool.and_eq_true]at TK
       refine⟨λ_=>False,λ_=>False,?_,ih TK.2 F2 h2,λ_ h=>h.elim,λx=>by simp⟩
       cases h1 with
       |lf a v _ ha hF=>exact .lf a v _ ha (λ_ h=>h)
       |nil=>simp[G1]at TK
       |own=>simp[G1]at TK
       |agg=>simp[G1]at TK
       |BJ=>simp[G1]at TK
     exact⟨δ,Fr,.agg ds,λ_=>False,⟨h,λ_=>rfl,Be.2 hempty,Jd▸h.al s,λ_ _ _ h=>h,λx hx=>hx.elim id False.elim⟩,rfl,by simp[S5],by simp[CQ,Jd]⟩
   . split at ht
     . rename_i l τ' htl
       simp only[Option.some.injEq,Prod.mk.injEq]at ht
       obtain⟨rfl,rfl⟩:=ht
       have Bs:=h.empty s
       have CH:=h.ok s
       rw[Jd]at CH
       have wF:∀d∈ds,C3 δ d:=by
        have:=h.al s
        rw[Jd]at this
        cases this with
        |agg _ hr=>intro d hd;obtain⟨i,hi⟩:=List.getElem?_of_mem hd;exact hr i d hi
       have hH:Hd δ (C1 (Gp G s δ) s (.lf .dead (δ s).Aq)):=by
        intro r q v bx k rows hq
        by_cases e:r=s
        . subst e
          rw[A6]at hq
          cases q<;>simp[Am]at hq
        . rw[BN _ _ e]at hq
          exact⟨rows,SF s r q hq⟩
       have CS:∀t x,(C1 Fr s λ_=>False) t x->¬Fr s x:=by
        intro t x hx hf
        by_cases e:t=s
        . subst e;rw[A6]at hx;exact hx
        . rw[BN _ _ e]at hx;exact e (h.LF t s x hx hf)
       have herr:(λt=>(C1 (Gp G s δ) s (.lf .dead (δ s).Aq) t).er)=C1 (I9 G s λs=>(δ s).er) s .dead:=by rw[Hl h];simp
       obtain⟨δ2,F2,P9,Ff,Jf,Qd,LU,Xi,OV,bC,LW,Jk,_,BR⟩:=Bs.dU ds (Be.1 CH) wF hH CS (l:=l) (τ:=τ') (by rw[herr,S5];exact htl)
       refine⟨δ2,F2,.agg P9,Ff,⟨Jf,?_,Be.2 Xi,.agg _ λi d hd=> ?_,LW,?_⟩,Qd,by simp[OV],by simp[CQ,Jd,bC]⟩
       . intro t;rw[LU,HL h];split
         . rename_i e;rw[e];simp
         . rfl
       . exact QR (by rw[OV];exact BR) d (List.mem_of_getElem? hd)
       . intro x hx
         rcases Jk x hx with⟨t,KY⟩|KY
         . by_cases e:t=s
           . subst e;rw[A6]at KY;exact KY.elim
           . rw[BN _ _ e]at KY;exact⟨t,KY⟩
         . exact⟨s,KY⟩
     . cases ht
  |sc v=>simp only[hs,Option.some.injEq,Prod.mk.injEq]at ht;obtain⟨rfl,rfl⟩:=ht;exact kV _ hs rfl
  |sl e k rows=>simp only[hs,Option.some.injEq,Prod.mk.injEq]at ht;obtain⟨rfl,rfl⟩:=ht;exact kV _ hs rfl
  |KG r p i j k=>simp only[hs,Option.some.injEq,Prod.mk.injEq]at ht;obtain⟨rfl,rfl⟩:=ht;exact kV _ hs rfl
  |fp cs=>simp only[hs,Option.some.injEq,Prod.mk.injEq]at ht;obtain⟨rfl,rfl⟩:=ht;exact kV _ hs rfl
  |BJ cs=>simp[hs]at ht
  |dead=>simp[hs]at ht
  |un=>simp[hs]at ht
  |cl f rs=>simp[hs]at ht
  |vb s o us=>simp[hs]at ht
  |fZ f U4=>simp[hs]at ht
theorem St.Pk (h:St G w S δ Fr) {r:Nat} {p:List Step} {a:AV} {τ:Sg} (ht:Abs.Pk G r p (λs=>(δ s).er)=some (a,τ)):
 ∃(δ':Nat->DV) (F':Nat->Nat->Prop) (Fo:Nat->Prop) (v:Value) (bx:Bool) (k:Nat) (rows:List (List DV)),St G w (λx=>S x∨Fo x) δ' F'/\(λs=>(δ' s).er)=τ/\(∀s,(δ' s).Aq=(δ s).Aq)/\Am (δ r) p=some (.own v bx k rows)/\Fz w (λx=>S x∨Fo x) a v/\
  a=I0 (DV.own v bx k rows).er/\(∀s x,F' s x->¬Fo x)/\(∀x,A2 F' x∨Fo x->A2 Fr x)/\Hd δ δ':=by
 unfold Abs.Pk at ht
 split at ht
 . rename_i b k rows hs
   split at ht
   . rename_i t hp
     simp only[Option.some.injEq,Prod.mk.injEq]at ht
     obtain⟨rfl,rfl⟩:=ht
     obtain⟨D,hD,Er⟩:=DT (h.ok r).KQ hs
     obtain⟨Fo,ho,Bb,Ls⟩:=h.replace r p hD
     have Dh:∃v bx k rows,D= .own v bx k rows:=by
      have:=ho.KQ
      cases D with
      |own v bx k rows=>exact⟨v,bx,k,rows,rfl⟩
      |lf a v=>cases this with|lf _ _ hl=>simp at Er;subst Er;simp[CR]at hl
      |agg cs=>simp at Er
      |BJ cs=>simp at Er
     obtain⟨v,bx,k1,JD,rfl⟩:=Dh
     have Mk:Fz w (λx=>S x∨Fo x) (I0 (.own b k rows)) v:=by have:=ho.freeze;rw[Er]at this;simpa using this
     have oQ:Ok w (λx=>S x∨Fo x) (.lf (I0 (.own b k rows)) v) (λ_=>False):=by
      refine .lf _ _ _ ?_ (λ_ h=>h)
      cases b with
      |true=>simp only[kI];trivial
      |false=>simp only[Mz]at Mk ⊢;exact Mk
     obtain⟨td,F',htd,Bs,HZ,C9⟩:=Ls (λx=>S x∨Fo x) (.lf (I0 (.own b k rows)) v) (by simp) oQ (λ_ h=>.inl h)
      (λt b' hb KX hS=>hS.elim ((h.ok t).EZ b' hb) KX) (by intro L;cases b<;>simp) (.lf _ _ (by cases b<;>simp[Lp]))
     have oZ:td.er=t:=by
      obtain⟨t',h1,h2⟩:=Gd (d:=δ r) (p:=p) (a:=t) (.lf (I0 (.own b k rows)) v) (h.ok r).KQ (by simpa using hp)
      rw[htd]at h1
      obtain rfl:=Option.some.inj h1
      exact h2
     refine⟨_,_,Fo,v,bx,k1,JD,Bs,by rw[Hl h,oZ],?_,hD,Mk,by rw[Er],?_,?_,?_⟩
     . intro s;rw[HL h];split
       . rename_i e;rw[e,C9]
       . rfl
     . intro s x hx hF
       by_cases Fl:s=r
       . subst Fl;rw[A6]at hx;exact((HZ x).1 hx).2 hF
       . rw[BN _ _ Fl]at hx
         exact Fl (h.LF s r x hx (Bb x hF))
     . rintro x (⟨s,hx⟩|hx)
       . by_cases Fl:s=r
         . subst Fl;rw[A6]at hx;exact⟨s,((HZ x).1 hx).1⟩
         . rw[BN _ _ Fl]at hx;exact⟨s,hx⟩
       . exact⟨r,Bb x hx⟩
     . intro r' q v' Zo k' rows' hq
       by_cases e:r'=r
       . subst e
         rw[A6]at hq
         exact T5 p htd q hq
       . rw[BN _ _ e]at hq
         exact⟨rows',SF r r' q hq⟩
   . cases ht
 . cases ht
theorem St.wr (h:St G w S δ Fr) {dst:Dg} (hkl:dst.kl=G.NW dst.d) (oV:dst.rs=G.GJ dst.d) {D:DV} {Ff:Nat->Prop} {σ':Sg} (hw:∀b,S b->w'.heap[b]? =w.heap[b]?) (hf:∀s x,Fr s x->w'.heap[x]? =w.heap[x]?)
 (LH:∀b,S b->S' b) (Nz:∀s x,Fr s x->¬S' x) (hD:Ok w' S' D Ff) (CS:∀s x,Fr s x->¬Ff x) (F6:C3 δ D) (LY:Abs.wr dst D.er (λs=>(δ s).er)=some σ'):
 ∃δ' F',St G w' S' δ' F'/\(λs=>(δ' s).er)=σ'/\(∀s,(δ' s).Aq=if s=dst.d then D.Aq else(δ s).Aq)/\(∀x,A2 F' x->A2 Fr x∨Ff x):=by
 unfold Abs.wr at LY
 split at LY
 . rename_i hr
   simp only[Option.some.injEq]at LY
   subst LY
   refine⟨_,_,h.set dst.d D Ff hw (λs _=>hf s) LH (λs _=>Nz s) hD (λs _ x hx KY=>CS s x KY hx) (oV▸hr) F6,?_,λs=>HL h dst.d D s,?_⟩
   . rw[Hl h,hkl,xV]
   . rintro x ⟨s,hx⟩
     by_cases e:s=dst.d
     . subst e;rw[A6]at hx;exact .inr hx
     . rw[BN _ _ e]at hx;exact .inl ⟨s,hx⟩
 . cases LY
end Go.Abs
namespace Go.Abs
variable {w w':World} {S S':Nat->Prop} {G:Gi} {δ:Nat->DV} {Fr:Nat->Nat->Prop} {P:Program}
def lS:Value->Value->Bool
 | .bool a,.bool b=>a==b
 | .int k a,.int k' b=>decide (k=k')&&decide (a=b)
 | .string a,.string b=>decide (a.data=b.data)
 | .pointer none,.pointer none=>true
 | .slice none 0 0,.slice none 0 0=>true
 | .nilFunc,.nilFunc=>true
 | .nilIface,.nilIface=>true
 |_,_=>false
def Sn:List Value->List Value->Bool
 |[],[]=>true
 |a::l,b::r=>lS a b&&Sn l r
 |_,_=>false
def lT:Value->Value->Bool
 | .agg a,.agg b=>Sn a.toList b.toList
 |a,b=>lS a b
theorem cR {a b:Value} (h:lS a b=true):a=b:=by
 unfold lS at h
 split at h<;>simp_all
 rename_i x y
 cases x;cases y;simp_all
theorem O8:∀{a b:List Value},Sn a b=true->a=b
 |[],[],_=>rfl
 |[],_::_,h=>by simp[Sn]at h
 |_::_,[],h=>by simp[Sn]at h
 |a::l,b::r,h=>by
  simp only[Sn,AAP]at h
  rw[cR h.1,O8 h.2]
theorem cT {a b:Value} (h:lT a b=true):a=b:=by
 unfold lT at h
 split at h
 . rename_i x y;have:=O8 h;rw[Value.agg.injEq];exact ABT this
 . exact cR h
def Bt (x:Operand) (y:Ar):Bool:=
 match x,y with
 | .tmp s,.t s'=>s==s'
 | .const v,.c a=>match IU a with
  |some D=>lT v D.Aq
  |none=>false
 |_,_=>false
def Rd (δ:Nat->DV) (a:Act):Prop:=∀s,a.tmps.getD s undef=(δ s).Aq
theorem Ah {x:Operand} {y:Ar} {a:Act} (h:Bt x y=true) (ha:Rd δ a):VM y/\a.eval x=CQ δ y:=by
 unfold Bt at h
 split at h
 . simp only[AAd]at h;subst h;exact⟨trivial,ha _⟩
 . rename_i v c
   split at h
   . rename_i D hD
     exact⟨⟨D,hD⟩,by simp[Act.eval,CQ,hD,cT h]⟩
   . cases h
 . cases h
def F8:List Operand->List Ar->Bool
 |[],[]=>true
 |x::l,y::r=>Bt x y&&F8 l r
 |_,_=>false
def QV:ABp Operand->ABp Ar->Bool
 |none,none=>true
 |some x,some y=>Bt x y
 |_,_=>false
def Fu (P:Program) (t:TypeId):ABp Nat:=(P.info? t).map (·.size)
def I1 (P:Program) (t:TypeId):ABp Bool:=(P.underlying t).map λ| .struct _=>true| .array _ _=>true|_=>false
theorem run_sizeOf {t:TypeId} {n:Nat} (h:Fu P t=some n) (w:World):(sizeOf t).run P w= .ok n w:=by
 unfold Fu at h
 cases hi:P.info? t with
 |none=>simp[hi]at h
 |some i=>simp only[hi,AAl,AAN]at h;simp[sizeOf,typeInfo,hi,h]
theorem Pf {t:TypeId} {b:Bool} (h:I1 P t=some b) (w:World):(isAgg t).run P w= .ok b w:=by
 unfold I1 at h
 cases hi:P.underlying t with
 |none=>simp[hi]at h
 |some d=>simp only[hi,AAl,AAN]at h;cases d<;>simp_all [isAgg,underlying]
theorem Hu (t:DV) (p q:List Step):Am t (p++q)=(Am t p).bind (Am · q):=by
 induction p generalizing t with
 |nil=>simp[Am]
 |cons s p ih=>
  obtain⟨i,j,k⟩:=s
  cases t with
  |lf a v=>simp[Am]
  |own h b k1 rows=>
   simp only[AA5,Am]
   cases rows[i]? with
   |none=>rfl
   |some row=>simp only[];cases row[j]? with
    |none=>rfl
    |some c=>exact ih c
  |agg cs=>simp only[AA5,Am];cases cs[j]? with
   |none=>rfl
   |some c=>exact ih c
  |BJ cs=>simp only[AA5,Am];cases cs[j]? with
   |none=>rfl
   |some c=>exact ih c
theorem Yt (r:Nat) (p:List Step) (l:List AV) (i n:Nat):(PB r p i l)[n]? =(l[n]?).map (view r (p++[(0,i+n,0)])):=by
 induction l generalizing i n with
 |nil=>simp[PB]
 |cons c cs ih=>
  cases n with
  |zero=>simp[PB]
  |succ n=>simp only[PB,ABA,ih,Nat.add_assoc,Nat.add_comm 1 n]
theorem B7 {ds:List DV} (h:∀d∈ds,Ok w S d (λ_=>False)):JF w S ds (λ_=>False):=by
 induction ds with
 |nil=>exactλ_ h=>h
 |cons d ds ih=>exact⟨_,_,h d (by simp),ih (λe he=>h e (by simp[he])),λ_ h=>h.elim,λx=>by simp⟩
theorem Ka {α β:Type} (cs:List α) (Φ:Nat->α->β->Prop) (h:∀i c,cs[i]? =some c->∃D,Φ i c D):∃Ds:List β,Ds.length=cs.length/\∀i c,cs[i]? =some c->∃D,Ds[i]? =some D/\Φ i c D:=by
 induction cs generalizing Φ with
 |nil=>exact⟨[],rfl,by simp⟩
 |cons c cs ih=>
  obtain⟨D,hD⟩:=h 0 c rfl
  obtain⟨Ds,h1,h2⟩:=ih (λi=>Φ (i+1)) (λi c' hc=>h (i+1) c' (by simpa using hc))
  refine⟨D::Ds,by simp[h1],?_⟩
  intro i c' hc
  cases i with
  |zero=>simp only[AAw,AAN]at hc;subst hc;exact⟨D,rfl,hD⟩
  |succ i=>simp only[ABA]at hc ⊢;exact h2 i c' hc
theorem mem_mk {α β:Type} {cs:List α} {Ds:List β} {Φ:Nat->α->β->Prop} (hl:Ds.length=cs.length) (h:∀i c,cs[i]? =some c->∃D,Ds[i]? =some D/\Φ i c D) (i:Nat) (D:β) (hD:Ds[i]? =some D):∃c,cs[i]? =some c/\Φ i c D:=by
 have hi:i<cs.length:=by rw[← hl];exact(AAQ.1 hD).1
 obtain⟨D',h1,h2⟩:=h i cs[i] (AAT hi)
 rw[hD]at h1
 obtain rfl:=AAR h1
 exact⟨_,AAT hi,h2⟩
theorem map_mk {α β γ:Type} {cs:List α} {Ds:List β} {Φ:Nat->α->β->Prop} (hl:Ds.length=cs.length) (h:∀i c,cs[i]? =some c->∃D,Ds[i]? =some D/\Φ i c D) (f:β->γ) (l:List γ) (hll:l.length=cs.length)
 (hf:∀i c D,Φ i c D->cs[i]? =some c->l[i]? =some (f D)):Ds.map f=l:=by
 apply ABV
 intro i
 by_cases hi:i<cs.length
 . obtain⟨D,h1,h2⟩:=h i cs[i] (AAT hi)
   rw[AAZ,h1,hf i _ D h2 (AAT hi)]
   rfl
 . rw[ABQ (by simp;omega),ABQ (by omega)]
theorem Sy (r:Nat) (p:List Step) (l:List AV) (i:Nat):(PB r p i l).length=l.length:=by
 induction l generalizing i with
 |nil=>simp[PB]
 |cons c cs ih=>simp[PB,ih]
theorem viewD {t:DV} {F:Nat->Prop} (r:Nat) (h:Ok w S t F):∀(p:List Step),Am (δ r) p=some t->C3 δ t->
 ∃D,D.er=view r p t.er/\D.Aq=t.Aq/\Ok w S D (λ_=>False)/\C3 δ D:=by
 induction h with
 |lf a v F ha hF=>
  intro p hp F6
  have hl:=ha.CR
  refine⟨.lf a v,?_,rfl,.lf a v _ ha (λ_ h=>h),F6⟩
  cases a<;>simp_all [view,CR]
 |nil k F hF=>
  intro p hp F6
  exact⟨.lf (.al r p) (.slice none 0 0),by simp[view],by simp,.lf _ _ _ trivial (λ_ h=>h),.lf _ _ ⟨_,_,_,hp⟩⟩
 |own bx k rows b c arr E Fs F hb hk De Ko hv hr hd BP Jb hF ih=>
  intro p hp F6
  exact⟨.lf (.al r p) (I7 bx b rows.length c),by simp[view],by simp,.lf _ _ _ trivial (λ_ h=>h),.lf _ _ ⟨_,_,_,hp⟩⟩
 |agg cs Fs F hr hd BP hF ih=>
  intro p hp F6
  cases F6 with
  |agg _ F6=>
   obtain⟨Ds,hl,MV⟩:=Ka cs (λi d D=>D.er=view r (p++[(0,i,0)]) d.er/\D.Aq=d.Aq/\Ok w S D (λ_=>False)/\C3 δ D)
    (λi d hd=>ih i d hd _ (by rw[Hu,hp];simp[Am,hd]) (F6 i d hd))
   refine⟨.agg Ds,?_,?_,Be.2 (B7 λD hD=> ?_),.agg _ λi D hD=> ?_⟩
   . simp only[Gz,view,AV.agg.injEq]
     refine map_mk hl MV _ _ (by simp[Sy]) λi c D hΦ hc=> ?_
     rw[Yt,AAZ,hc];simp[hΦ.1]
   . simp only[JN];congr 2
     exact map_mk hl MV _ _ (by simp) λi c D hΦ hc=>by simp[hc,hΦ.2.1]
   . obtain⟨i,hi⟩:=AAn hD
     obtain⟨c,_,hΦ⟩:=mem_mk hl MV i D hi
     exact hΦ.2.2.1
   . obtain⟨c,_,hΦ⟩:=mem_mk hl MV i D hD
     exact hΦ.2.2.2
 |BJ cs Fs F hr hd BP hF ih=>
  intro p hp F6
  cases F6 with
  |BJ _ F6=>
   obtain⟨Ds,hl,MV⟩:=Ka cs (λi d D=>D.er=view r (p++[(0,i,0)]) d.er/\D.Aq=d.Aq/\Ok w S D (λ_=>False)/\C3 δ D)
    (λi d hd=>ih i d hd _ (by rw[Hu,hp];simp[Am,hd]) (F6 i d hd))
   refine⟨.BJ Ds,?_,?_,A9.2 (B7 λD hD=> ?_),.BJ _ λi D hD=> ?_⟩
   . simp only[Iz,view,AV.BJ.injEq]
     refine map_mk hl MV _ _ (by simp[Sy]) λi c D hΦ hc=> ?_
     rw[Yt,AAZ,hc];simp[hΦ.1]
   . simp only[Km];congr 2
     exact map_mk hl MV _ _ (by simp) λi c D hΦ hc=>by simp[hc,hΦ.2.1]
   . obtain⟨i,hi⟩:=AAn hD
     obtain⟨c,_,hΦ⟩:=mem_mk hl MV i D hi
     exact hΦ.2.2.1
   . obtain⟨c,_,hΦ⟩:=mem_mk hl MV i D hD
     exact hΦ.2.2.2
theorem Zj (r:Nat) (p:List Step) (i k j:Nat) (l:List AV):(PA r p i k j l).length=l.length:=by
 induction l generalizing j with
 |nil=>simp[PA]
 |cons c cs ih=>simp[PA,ih]
theorem qU (r:Nat) (p:List Step) (i k j n:Nat) (l:List AV):(PA r p i k j l)[n]? =(l[n]?).map (vC r p i (j+n) k):=by
 induction l generalizing j n with
 |nil=>simp[PA]
 |cons c cs ih=>
  cases n with
  |zero=>simp[PA]
  |succ n=>simp only[PA,ABA,ih,Nat.add_assoc,Nat.add_comm 1 n]
theorem Zk (s j:Nat) (l:List AV):(Lo s j l).length=l.length:=by
 induction l generalizing j with
 |nil=>simp[Lo]
 |cons c cs ih=>simp[Lo,ih]
theorem qV (s j n:Nat) (l:List AV):(Lo s j l)[n]? =(l[n]?).map (vF s (j+n)):=by
 induction l generalizing j n with
 |nil=>simp[Lo]
 |cons c cs ih=>
  cases n with
  |zero=>simp[Lo]
  |succ n=>simp only[Lo,ABA,ih,Nat.add_assoc,Nat.add_comm 1 n]
end Go.Abs
namespace Go.Abs
variable {w w':World} {S S':Nat->Prop} {G:Gi} {δ:Nat->DV} {Fr:Nat->Nat->Prop} {P:Program}
def Lf (w:World) (S:Nat->Prop) (δ:Nat->DV) (a:AV) (v:Value):Prop:=∃D:DV,D.er=a/\D.Aq=v/\Ok w S D (λ_=>False)/\C3 δ D
theorem Lf.sc (v:Value) (h:FW v=true):Lf w S δ (.sc v) v:=⟨.lf (.sc v) v,by simp,by simp,.lf _ _ _ ⟨rfl,h⟩ (λ_ h=>h),.lf _ _ trivial⟩
theorem Lf.al {r:Nat} {p:List Step} {v:Value} {bx:Bool} {k:Nat} {rows:List (List DV)} (h:Am (δ r) p=some (.own v bx k rows)):Lf w S δ (.al r p) v:=
 ⟨.lf (.al r p) v,by simp,by simp,.lf _ _ _ trivial (λ_ h=>h),.lf _ _ ⟨_,_,_,h⟩⟩
theorem Lf.KG {r:Nat} {p:List Step} {i j k b:Nat} {v:Value} {bx:Bool} {rows:List (List DV)} (h:Am (δ r) p=some (.own v bx k rows)) (hb:Rg v=some b):Lf w S δ (.KG r p i j k) (.pointer (some ⟨b,i*k+j,none⟩)):=
 ⟨.lf (.KG r p i j k) _,by simp,by simp,.lf _ _ _ trivial (λ_ h=>h),.lf _ _ ⟨_,_,_,_,h,hb,rfl⟩⟩
theorem Lf.fp {cs:List AV} {b off:Nat} (hS:S b) (h:∀(j:Nat) a,cs[j]? =some a->∃u,w.cell? ⟨b,off+j,none⟩=some u/\Fz w S a u):Lf w S δ (.fp cs) (.pointer (some ⟨b,off,none⟩)):=
 ⟨.lf (.fp cs) _,by simp,by simp,.lf _ _ _ ⟨b,off,rfl,hS,h⟩ (λ_ h=>h),.lf _ _ trivial⟩
theorem St.leaf (h:St G w S δ Fr) {s:Nat} {a:AV} (hs:(δ s).er=a) (hl:CR a=true):δ s= .lf a (δ s).Aq/\HK w S a (δ s).Aq/\Lp δ a (δ s).Aq:=by
 have CH:=h.ok s
 have F6:=h.al s
 cases hd:δ s with
 |lf b v=>
  rw[hd]at hs CH F6
  simp only[Ea]at hs
  subst hs
  cases CH with
  |lf _ _ _ ha _=>cases F6 with|lf _ _ hl=>exact⟨by simp,ha,hl⟩
 |own=>rw[hd]at hs;simp at hs;subst hs;simp[CR]at hl
 |agg=>rw[hd]at hs;simp at hs;subst hs;simp[CR]at hl
 |BJ=>rw[hd]at hs;simp at hs;subst hs;simp[CR]at hl
theorem St.Eg (h:St G w S δ Fr) {x:Ar} (hx:VM x) {v:Value} (ha:ar (λs=>(δ s).er) x= .sc v):CQ δ x=v/\FW v=true:=by
 cases x with
 |t s=>
  obtain⟨_,h2,_⟩:=h.leaf (s:=s) ha rfl
  exact⟨h2.1,h2.2⟩
 |c a=>
  obtain⟨D,hD⟩:=hx
  simp only[ar]at ha
  subst ha
  simp only[IU]at hD
  split at hD
  . rename_i hp
    obtain rfl:=AAR hD
    exact⟨by simp[CQ,IU,hp],hp⟩
  . cases hD
theorem Mp {a:AV} {n:Int} (h:eT a=some n):∃k,a= .sc (.int k n):=by
 unfold eT at h
 split at h
 . simp only[AAN]at h;subst h;exact⟨_,rfl⟩
 . cases h
theorem St.node (h:St G w S δ Fr) {s r:Nat} {p:List Step} (hs:(δ s).er= .al r p) {bx:Bool} {k:Nat} {rows:List (List AV)} (hn:sub (δ r).er p=some (.own bx k rows)):
 ∃Aj F,Am (δ r) p=some (.own (δ s).Aq bx k Aj)/\Aj.map (·.map DV.er)=rows/\Ok w S (.own (δ s).Aq bx k Aj) F:=by
 obtain⟨_,_,F6⟩:=h.leaf hs rfl
 obtain⟨Zo,k',rows',hl⟩:=F6
 obtain⟨D,hD,Er⟩:=DT (h.ok r).KQ hn
 rw[hl]at hD
 obtain rfl:=AAR hD
 simp only[EE,AV.own.injEq]at Er
 obtain⟨rfl,rfl,h3⟩:=Er
 obtain⟨F,hF,_⟩:=(h.ok r).Am hl
 exact⟨rows',F,hl,h3,hF⟩
theorem St.WQ (h:St G w S δ Fr) {s:Nat} {bx:Bool} {k:Nat} {rows:List (List AV)} (hs:(δ s).er= .own bx k rows):
 ∃Aj,δ s= .own (δ s).Aq bx k Aj/\Aj.map (·.map DV.er)=rows:=by
 have:=(h.ok s).KQ
 cases hd:δ s with
 |own v b k' rows'=>rw[hd]at hs;simp only[EE,AV.own.injEq]at hs;obtain⟨rfl,rfl,h3⟩:=hs;exact⟨rows',by simp,h3⟩
 |lf b v=>rw[hd]at hs this;cases this with|lf _ _ hl=>simp at hs;subst hs;simp[CR]at hl
 |agg=>rw[hd]at hs;simp at hs
 |BJ=>rw[hd]at hs;simp at hs
theorem St.Dr (h:St G w S δ Fr) {s r i j k:Nat} {p:List Step} (ha:Abs.Dr (λs=>(δ s).er) (.t s)=some (r,p,i,j,k)):
 ∃v bx Aj b F,Am (δ r) p=some (.own v bx k Aj)/\Rg v=some b/\(δ s).Aq= .pointer (some ⟨b,i*k+j,none⟩)/\Ok w S (.own v bx k Aj) F/\(∀x,F x->Fr r x):=by
 simp only[Abs.Dr]at ha
 cases hs:(δ s).er with
 |KG r' p' i' j' k'=>
  simp only[hs,AAN,AAc]at ha
  obtain⟨rfl,rfl,rfl,rfl,rfl⟩:=ha
  obtain⟨_,_,F6⟩:=h.leaf hs rfl
  obtain⟨v,bx,rows,b,hl,hb,he⟩:=F6
  obtain⟨F,hF,Bb⟩:=(h.ok _).Am hl
  exact⟨v,bx,rows,b,F,hl,hb,he,hF,Bb⟩
 |own bx k' rows=>
  cases bx with
  |false=>simp[hs]at ha
  |true=>
   simp only[hs,AAN,AAc]at ha
   obtain⟨rfl,rfl,rfl,rfl,rfl⟩:=ha
   obtain⟨Aj,hd,_⟩:=h.WQ hs
   have CH:=h.ok s
   rw[hd]at CH
   generalize hv:(δ s).Aq=v at*
   cases CH with
   |own _ _ _ b c arr E Fs _ hb hk De Ko bJ hr LJ BP Jb hF=>
    exact⟨I7 true b Aj.length c,true,Aj,b,Fr s,by simp[Am,hd],by simp,by simp[I7],by rw[← hd];exact h.ok s,λx hx=>hx⟩
 |al r' p'=>
  simp only[hs]at ha
  split at ha
  . rename_i k' rows' hn
    simp only[AAN,AAc]at ha
    obtain⟨rfl,rfl,rfl,rfl,rfl⟩:=ha
    obtain⟨Aj,F,hl,_,hF⟩:=h.node hs hn
    obtain⟨F2,Vu,Bb⟩:=(h.ok _).Am hl
    generalize hv:(δ s).Aq=v at*
    cases Vu with
    |own _ _ _ b c arr E Fs _ hb hk De Ko bJ hr LJ BP Jb Vt=>
     exact⟨I7 true b Aj.length c,true,Aj,b,F2,hl,by simp,by simp[I7],.own true _ _ b c arr E Fs _ hb hk De Ko bJ hr LJ BP Jb Vt,Bb⟩
  . cases ha
 |_=>simp[hs]at ha
theorem KU {t:TypeId} {g:Bool} {n b off:Nat} {vs:List Value} (hn:Fu P t=some n) (hg:I1 P t=some g) (h1:g=true∨n=1) (hl:vs.length=n) (hc:∀(j:Nat) v,vs[j]? =some v->w.cell? ⟨b,off+j,none⟩=some v):
 (loadVar t ⟨b,off,none⟩).run P w= .ok (if g=true then .agg vs.toArray else vs.headD undef) w:=by
 cases g with
 |true=>
  have:=run_loadCells_list (P:=P) w ⟨b,off,none⟩ vs (λj v hv=>by rw[Addr.add_lit];exact hc j v hv)
  rw[hl]at this
  simp[loadVar,Pf hg,run_sizeOf hn,this]
 |false=>
  obtain rfl:=h1.resolve_left (by simp)
  match vs,hl with
  |[v],_=>
   have h0:=hc 0 v rfl
   simp only[Nat.add_zero]at h0
   simp[loadVar,Pf hg,h0]
theorem vT {agg:Bool} {n:Nat} {cs:List AV} {v:AV} (hv:Hx agg n cs=some v) (Ds:List DV) (he:Ds.map DV.er=cs) (CH:∀D∈Ds,Ok w S D (λ_=>False)) (F6:∀D∈Ds,C3 δ D):
 cs.length=n/\Lf w S δ v (if agg=true then .agg (Ds.map DV.Aq).toArray else(Ds.map DV.Aq).headD undef):=by
 unfold Hx at hv
 split at hv
 . rename_i hn
   refine⟨hn,?_⟩
   cases agg with
   |true=>
    simp only[AAs,AAN]at hv
    subst hv
    exact⟨.agg Ds,by simp[he],by simp,Be.2 (B7 CH),.agg _ λi d hd=>F6 d (AAb hd)⟩
   |false=>
    simp only[AAW,AAe]at hv
    split at hv
    . rename_i c
      simp only[AAN]at hv
      subst hv
      match Ds,he with
      |[D],he=>
       simp only[AAg,AA2,ABg,and_true]at he
       exact⟨D,he,by simp,CH D (by simp),F6 D (by simp)⟩
    . cases hv
 . cases hv
theorem Vp {a:AV} {v:Value} (h:Fz w S a v):∃D:DV,D.er=I3 a/\D.Aq=v/\Ok w S D (λ_=>False)/\C3 δ D:=by
 cases h with
 |sc v hp=>exact⟨.lf (.sc v) v,by simp[I3],by simp,.lf _ _ _ ⟨rfl,hp⟩ (λ_ h=>h),.lf _ _ trivial⟩
 |nil x k a c hx=>exact⟨.lf (.sl x k []) _,by simp[I3],by simp,.lf _ _ _ (Fz.nil x k a c hx) (λ_ h=>h),.lf _ _ trivial⟩
 |sl x k rows b off c vs hx RE hS hk hc hr=>exact⟨.lf (.sl x k rows) _,by simp[I3],by simp,.lf _ _ _ (Fz.sl x k rows b off c vs hx RE hS hk hc hr) (λ_ h=>h),.lf _ _ trivial⟩
 |dead=>exact⟨.lf .dead v,by simp[I3],by simp,.lf _ _ _ trivial (λ_ h=>h),.lf _ _ trivial⟩
 |agg cs vs=>exact⟨.lf .dead _,by simp[I3],rfl,.lf _ _ _ trivial (λ_ h=>h),.lf _ _ trivial⟩
 |BJ cs vs=>exact⟨.lf .dead _,by simp[I3],rfl,.lf _ _ _ trivial (λ_ h=>h),.lf _ _ trivial⟩
end Go.Abs
namespace Go.Abs
variable {w w':World} {S S':Nat->Prop} {G:Gi} {δ:Nat->DV} {Fr:Nat->Nat->Prop} {P:Program}
def Gives (P:Program) (w:World) (S:Nat->Prop) (δ:Nat->DV) (a:Act) (o:Oper) (v:AV):Prop:=
 ∃u,(execOp a.eval o).run P w= .ok (.value u) w/\Lf w S δ v u
theorem Re (h:St G w S δ Fr) {a:Act} (ha:Rd δ a) {o:Oper} {x:Operand} {y:Ar} (ho:o.op= .move x∨o.op= .assign x) (hc:Bt x y=true) {v:AV} (hv:valOf (.cp y) (λs=>(δ s).er)=some v):Gives P w S δ a o v:=by
 obtain⟨hy,he⟩:=Ah hc ha
 refine⟨CQ δ y,by rcases ho with ho|ho<;>simp[execOp,ho,he],?_⟩
 cases y with
 |t s=>
  simp only[valOf,AAN]at hv
  subst hv
  obtain⟨D,h1,h2,h3,h4⟩:=viewD (δ:=δ) s (h.ok s) [] (by simp[Am]) (h.al s)
  exact⟨D,h1,h2,h3,h4⟩
 |c c=>
  simp only[valOf,AAN]at hv
  subst hv
  obtain⟨D,hD⟩:=hy
  obtain⟨h1,h2,h3,_⟩:=Hy (w:=w) (S:=S) (δ:=δ) c D hD
  exact⟨D,h1,by simp[CQ,hD],h2,h3⟩
theorem gF (h:St G w S δ Fr) {a:Act} (ha:Rd δ a) {o:Oper} {c x y:Operand} {c' x' y':Ar} (ho:o.op= .pick c x y) (h1:Bt c c'=true) (h2:Bt x x'=true) (h3:Bt y y'=true) {v:AV}
 (hv:valOf (.pick c' x' y') (λs=>(δ s).er)=some v):Gives P w S δ a o v:=by
 obtain⟨hc,ec⟩:=Ah h1 ha
 obtain⟨hx,ex⟩:=Ah h2 ha
 obtain⟨hy,ey⟩:=Ah h3 ha
 simp only[valOf]at hv
 split at hv
 . rename_i b hb
   obtain⟨e1,_⟩:=h.Eg hc hb
   split at hv
   . rename_i u hu
     simp only[AAN]at hv
     subst hv
     refine⟨u,?_,?_⟩
     . cases b with
       |true=>have:=(h.Eg hx (by simpa using hu)).1;simp[execOp,ho,ec,e1,asBool,ex,this]
       |false=>have:=(h.Eg hy (by simpa using hu)).1;simp[execOp,ho,ec,e1,asBool,ey,this]
     . cases b with
       |true=>exact Lf.sc u (h.Eg hx (by simpa using hu)).2
       |false=>exact Lf.sc u (h.Eg hy (by simpa using hu)).2
   . cases hv
 . cases hv
theorem hZ {v:Value} {bx:Bool} {k:Nat} {rows:List (List DV)} {F:Nat->Prop} (h:Ok w S (.own v bx k rows) F) {r:Nat} {p:List Step} (hs:Am (δ r) p=some (.own v bx k rows)) {b:Nat} (hb:Rg v=some b) {i:Nat} {row:List DV}
 (hi:rows[i]? =some row) (j n:Nat):
 ∃Ds:List DV,Ds.map DV.er=PA r p i k j (((row.map DV.er).drop j).take n)/\(∀D∈Ds,Ok w S D (λ_=>False))/\(∀D∈Ds,C3 δ D)/\(∀(m:Nat) u,(Ds.map DV.Aq)[m]? =some u->w.cell? ⟨b,i*k+j+m,none⟩=some u):=by
 generalize hvv:v=v' at h
 cases h with
 |nil=>simp at hi
 |own _ _ _ b' c arr E Fs _ kS hk De Ko hv hr hd BP Jb hF=>
  subst hvv
  simp only[Vw,AAN]at hb
  subst hb
  obtain⟨Ds,hl,MV⟩:=Ka ((row.drop j).take n) (λm d D=>D.er=vC r p i (j+m) k d.er/\D.Aq=d.Aq/\Ok w S D (λ_=>False)/\C3 δ D/\w.cell? ⟨b',i*k+j+m,none⟩=some D.Aq) (by
   intro m d Ri
   have U8:row[j+m]? =some d:=by
    rw[ABK]at Ri
    split at Ri
    . simpa using Ri
    . cases Ri
   have CH:=hr i (j+m) row d hi U8
   have BR:w.cell? ⟨b',i*k+j+m,none⟩=some d.Aq:=by
    simp only[World.cell?,kS]
    have:=hv i (j+m) row d hi U8
    rw[show i*k+j+m=i*k+(j+m)from by omega]
    simpa using this
   cases CH with
   |lf a v _ ha dO=>
    have hl:=ha.CR
    cases a with
    |sc u=>exact⟨.lf (.sc u) v,by simp[vC],by simp,.lf _ _ _ ha (λ_ h=>h),.lf _ _ trivial,BR⟩
    |sl x k' rows'=>exact⟨.lf (.sl x k' rows') v,by simp[vC],by simp,.lf _ _ _ ha (λ_ h=>h),.lf _ _ trivial,BR⟩
    |own=>simp[CR]at hl
    |agg=>simp[CR]at hl
    |BJ=>simp[CR]at hl
    |_=>exact⟨.lf .dead v,by simp[vC],by simp,.lf _ _ _ trivial (λ_ h=>h),.lf _ _ trivial,by simpa using BR⟩
   |nil k' _ dO=>exact⟨.lf (.al r (p++[(i,j+m,k)])) (.slice none 0 0),by simp[vC],by simp,.lf _ _ _ trivial (λ_ h=>h),.lf _ _ ⟨false,k',[],by rw[Hu,hs];simp[Am,hi,U8]⟩,by simpa using BR⟩
   |own Zo k' rows' b'' c' arr' E' Fs' _ g1 g2 g3 g4 g5 g6 g7 g8 g9 g10=>
    exact⟨.lf (.al r (p++[(i,j+m,k)])) (I7 Zo b'' rows'.length c'),by simp[vC],by simp,.lf _ _ _ trivial (λ_ h=>h),.lf _ _ ⟨Zo,k',rows',by rw[Hu,hs];simp[Am,hi,U8]⟩,by simpa using BR⟩
   |agg cs=>exact⟨.lf .dead (.agg (cs.map DV.Aq).toArray),by simp[vC],by simp,.lf _ _ _ trivial (λ_ h=>h),.lf _ _ trivial,by simpa using BR⟩
   |BJ cs=>exact⟨.lf .dead (.tuple (cs.map DV.Aq).toArray),by simp[vC],by simp,.lf _ _ _ trivial (λ_ h=>h),.lf _ _ trivial,by simpa using BR⟩)
  refine⟨Ds,?_,?_,?_,?_⟩
  . refine map_mk hl MV _ _ (by simp[Zj]) λm d D hΦ Ri=> ?_
    rw[qU,← ABl,← ABY,AAZ,Ri]
    simp[hΦ.1]
  . intro D hD;obtain⟨m,hm⟩:=AAn hD;obtain⟨c,_,hΦ⟩:=mem_mk hl MV m D hm;exact hΦ.2.2.1
  . intro D hD;obtain⟨m,hm⟩:=AAn hD;obtain⟨c,_,hΦ⟩:=mem_mk hl MV m D hm;exact hΦ.2.2.2.1
  . intro m u hu
    rw[AAZ,AAm]at hu
    obtain⟨D,hD,rfl⟩:=hu
    obtain⟨c,_,hΦ⟩:=mem_mk hl MV m D hD
    exact hΦ.2.2.2.2
theorem Qm (h:St G w S δ Fr) {s:Nat} {cs:List AV} (hs:(δ s).er= .agg cs) {agg:Bool} {n off:Nat} {v:AV} (hv:Hx agg n (Lo s off ((cs.drop off).take n))=some v):
 ∃vals:List Value,(δ s).Aq= .agg vals.toArray/\((vals.drop off).take n).length=n/\Lf w S δ v (if agg=true then .agg ((vals.drop off).take n).toArray else((vals.drop off).take n).headD undef):=by
 obtain⟨ds,Jd,hm⟩:∃ds,δ s= .agg ds/\ds.map DV.er=cs:=by
  have:=(h.ok s).KQ
  cases hd:δ s with
  |agg ds=>rw[hd]at hs;simp at hs;exact⟨ds,rfl,hs⟩
  |lf c v=>rw[hd]at hs this;cases this with|lf _ _ hl=>simp at hs;subst hs;simp[CR]at hl
  |own=>rw[hd]at hs;simp at hs
  |BJ=>rw[hd]at hs;simp at hs
 have CH:=h.ok s
 have F6:=h.al s
 rw[Jd]at CH F6
 cases CH with
 |agg _ Fs _ hr LJ BP hF=>
  cases F6 with
  |agg _ F6=>
   obtain⟨Ds,hl,MV⟩:=Ka ((ds.drop off).take n) (λm d D=>D.er=vF s (off+m) d.er/\D.Aq=d.Aq/\Ok w S D (λ_=>False)/\C3 δ D) (by
    intro m d U9
    have hd:ds[off+m]? =some d:=by
     rw[ABK]at U9
     split at U9
     . rw[List.getElem?_drop]at U9;exact U9
     . cases U9
    have hokd:=hr _ d hd
    have hald:=F6 _ d hd
    cases d with
    |lf a u=>
     have Zt:=hokd.KQ
     cases Zt with
     |lf _ _ bB=>
      cases hokd with
      |lf _ _ _ ha Vt=>
       refine⟨.lf a u,?_,rfl,.lf _ _ _ ha (λ_ h=>h),hald⟩
       simp only[Ea]
       cases a<;>simp_all [vF,CR]
    |own u bx k rows=>
     refine⟨.lf (.al s [(0,off+m,0)]) u,by simp[vF],by simp,.lf _ _ _ trivial (λ_ h=>h),.lf _ _ ⟨bx,k,rows,by simp[Am,Jd,hd]⟩⟩
    |agg l=>exact⟨.lf .dead (DV.agg l).Aq,by simp[vF],by simp,.lf _ _ _ trivial (λ_ h=>h),.lf _ _ trivial⟩
    |BJ l=>exact⟨.lf .dead (DV.BJ l).Aq,by simp[vF],by simp,.lf _ _ _ trivial (λ_ h=>h),.lf _ _ trivial⟩)
   have Iw:Ds.map DV.er=Lo s off ((cs.drop off).take n):=map_mk hl MV _ _ (by rw[Zk,← hm];simp) λi d D hΦ hd=>by
    rw[qV,← hm,← ABl,← ABY,AAZ,hd,hΦ.1];rfl
   have C9:Ds.map DV.Aq=((ds.map DV.Aq).drop off).take n:=map_mk hl MV _ _ (by simp) λi d D hΦ hd=>by
    rw[← ABl,← ABY,AAZ,hd,hΦ.2.1];rfl
   obtain⟨hlen,Zt⟩:=vT (w:=w) (S:=S) (δ:=δ) hv Ds Iw (λD hD=>by obtain⟨m,U9⟩:=AAn hD;obtain⟨c,_,hΦ⟩:=mem_mk hl MV m D U9;exact hΦ.2.2.1)
    (λD hD=>by obtain⟨m,U9⟩:=AAn hD;obtain⟨c,_,hΦ⟩:=mem_mk hl MV m D U9;exact hΦ.2.2.2)
   refine⟨ds.map DV.Aq,by rw[Jd];simp,?_,?_⟩
   . rw[← C9,AAo]
     have:=congrArg List.length Iw
     rw[AAo]at this
     rw[this,hlen]
   . rw[C9]at Zt;exact Zt
theorem Rf (h:St G w S δ Fr) {a:Act} (ha:Rd δ a) {o:Oper} {t:TypeId} {x:Operand} {g:Bool} {n:Nat} {y:Ar} (ho:o.op= .load t x) (hn:Fu P t=some n) (hg:I1 P t=some g) (hg1:g=true∨n=1) (hc:Bt x y=true) {v:AV}
 (hv:valOf (.ld g n y) (λs=>(δ s).er)=some v):Gives P w S δ a o v:=by
 obtain⟨hy,he⟩:=Ah hc ha
 cases y with
 |c c=>simp[valOf]at hv
 |t s=>
  have key:∀(b off:Nat) (Ds:List DV),(δ s).Aq= .pointer (some ⟨b,off,none⟩)->Hx g n (Ds.map DV.er)=some v->(∀D∈Ds,Ok w S D (λ_=>False))->(∀D∈Ds,C3 δ D)->
   (∀(m:Nat) u,(Ds.map DV.Aq)[m]? =some u->w.cell? ⟨b,off+m,none⟩=some u)->Gives P w S δ a o v:=by
   intro b off Ds hp S5 CH F6 BR
   obtain⟨hlen,Zt⟩:=vT S5 Ds rfl CH F6
   refine⟨_,?_,Zt⟩
   have:=KU (P:=P) (w:=w) (b:=b) (off:=off) (vs:=Ds.map DV.Aq) hn hg hg1 (by simpa using hlen) BR
   simp only[execOp,ho,he,CQ,hp,Instr.loadAt,Instr.sureAddr,Sem.run_bind,Sem.run_pure,Result.andThen_ok,this]
  simp only[valOf]at hv
  cases hs:(δ s).er with
  |fp cs=>
   simp only[hs]at hv
   obtain⟨_,h2,_⟩:=h.leaf hs rfl
   obtain⟨b,off,hp,hS,BR⟩:=h2
   obtain⟨Ds,hl,MV⟩:=Ka (cs.take n) (λm c D=>D.er=I3 c/\w.cell? ⟨b,off+m,none⟩=some D.Aq/\Ok w S D (λ_=>False)/\C3 δ D) (by
    intro m c hm
    rw[ABK]at hm
    split at hm
    . obtain⟨u,hu,hf⟩:=BR m c hm
      obtain⟨D,h1,h2,h3,h4⟩:=Vp (δ:=δ) hf
      exact⟨D,h1,by rw[h2];exact hu,h3,h4⟩
    . cases hm)
   refine key b off Ds hp ?_ ?_ ?_ ?_
   . rw[← hv];congr 1
     exact map_mk hl MV _ _ (by simp) λi c D hΦ hc=>by simp only[AAZ,hc,AAl,hΦ.1]
   . intro D hD;obtain⟨m,hm⟩:=AAn hD;obtain⟨c,_,hΦ⟩:=mem_mk hl MV m D hm;exact hΦ.2.2.1
   . intro D hD;obtain⟨m,hm⟩:=AAn hD;obtain⟨c,_,hΦ⟩:=mem_mk hl MV m D hm;exact hΦ.2.2.2
   . intro m u hu
     rw[AAZ,AAm]at hu
     obtain⟨D,hD,rfl⟩:=hu
     obtain⟨c,_,hΦ⟩:=mem_mk hl MV m D hD
     exact hΦ.2.1
  |vb q off us=>
   simp only[hs]at hv
   obtain⟨_,⟨b,hp,hS,BR⟩,C9⟩:=h.leaf hs rfl
   split at hv
   . rename_i cs hq
     obtain⟨vals,xM,hlen,Zt⟩:=Qm h hq hv
     have hus:vals=us:=by
      have h1:(δ q).Aq= .agg us.toArray:=C9
      rw[xM,Value.agg.injEq]at h1
      have:=congrArg Array.toList h1
      simpa using this
     subst hus
     refine⟨_,?_,Zt⟩
     have:=KU (P:=P) (w:=w) (b:=b) (off:=off) (vs:=(vals.drop off).take n) hn hg hg1 hlen (λj v hj=>by
      rw[ABK]at hj
      split at hj
      . rw[List.getElem?_drop]at hj;exact BR _ v hj
      . cases hj)
     simp only[execOp,ho,he,CQ,hp,Instr.loadAt,Instr.sureAddr,Sem.run_bind,Sem.run_pure,Result.andThen_ok,this]
   . cases hv
  |_=>
   simp only[hs]at hv
   split at hv
   . rename_i r p i j k UN
     obtain⟨vh,bx,Aj,b,F,Bb,hb,hp,CH,_⟩:=h.Dr UN
     split at hv
     . rename_i Zo k' rows oP
       obtain⟨D,hD,Er⟩:=DT (h.ok r).KQ oP
       rw[Bb]at hD
       obtain rfl:=AAR hD
       simp only[EE,AV.own.injEq]at Er
       obtain⟨rfl,rfl,rfl⟩:=Er
       split at hv
       . rename_i row DZ
         rw[AAZ,AAm]at DZ
         obtain⟨IH,hrD,rfl⟩:=DZ
         obtain⟨Ds,h1,h2,h3,h4⟩:=hZ CH Bb hb hrD j n
         exact key b (i*k+j) Ds hp (by rw[h1];exact hv) h2 h3 h4
       . cases hv
     . cases hv
   . cases hv
end Go.Abs
namespace Go.Abs
variable {w w':World} {S S':Nat->Prop} {G:Gi} {δ:Nat->DV} {Fr:Nat->Nat->Prop} {P:Program}
theorem Lk {t:TypeId} {fs:Array Field} {f:Nat} {fd:Field} {n:Nat} (hu:P.underlying t=some (.struct fs)) (hf:fs[f]? =some fd) (hn:Fu P fd.type=some n) (h0:n≠0) (b off:Nat) (w:World):
 (Instr.fieldAt t (.pointer (some ⟨b,off,none⟩)) f).run P w= .ok (.pointer (some ⟨b,off+fd.offset,none⟩)) w:=by
 simp[Instr.fieldAt,underlying,hu,hf,Instr.sureAddr,fieldPlace,run_sizeOf hn,h0,Addr.add_lit]
theorem YQ (h:St G w S δ Fr) {a:Act} (ha:Rd δ a) {o:Oper} {t:TypeId} {x:Operand} {f off:Nat} {y:Ar} (ho:o.op= .fieldAddr t x f) {fs:Array Field} {fd:Field} {n:Nat} (hu:P.underlying t=some (.struct fs)) (hf:fs[f]? =some fd) (Rk:fd.offset=off)
 (hn:Fu P fd.type=some n) (h0:n≠0) (hc:Bt x y=true) {v:AV} (hv:valOf (.Tu off y) (λs=>(δ s).er)=some v):Gives P w S δ a o v:=by
 obtain⟨hy,he⟩:=Ah hc ha
 subst Rk
 cases y with
 |c c=>simp[valOf]at hv
 |t s=>
  simp only[valOf]at hv
  cases hs:(δ s).er with
  |fp cs=>
   simp only[hs,AAN]at hv
   subst hv
   obtain⟨_,h2,_⟩:=h.leaf hs rfl
   obtain⟨b,off,hp,hS,BR⟩:=h2
   refine⟨.pointer (some ⟨b,off+fd.offset,none⟩),?_,Lf.fp hS λj a hj=> ?_⟩
   . simp only[execOp,ho,he,CQ,hp,Sem.run_bind,Lk hu hf hn h0,Result.andThen_ok,Sem.run_pure]
   . rw[List.getElem?_drop]at hj
     rw[show off+fd.offset+j=off+(fd.offset+j)from by omega]
     exact BR _ a hj
  |vb q o us=>
   simp only[hs,AAN]at hv
   subst hv
   obtain⟨_,⟨b,hp,hS,BR⟩,C9⟩:=h.leaf hs rfl
   refine⟨.pointer (some ⟨b,o+fd.offset,none⟩),?_,⟨.lf (.vb q (o+fd.offset) us) _,by simp,by simp,.lf _ _ _ ⟨b,rfl,hS,BR⟩ (λ_ h=>h),.lf _ _ C9⟩⟩
   simp only[execOp,ho,he,CQ,hp,Sem.run_bind,Lk hu hf hn h0,Result.andThen_ok,Sem.run_pure]
  |_=>
   simp only[hs]at hv
   split at hv
   . rename_i r p i j k UN
     simp only[AAN]at hv
     subst hv
     obtain⟨vh,bx,Aj,b,F,Bb,hb,hp,CH,_⟩:=h.Dr UN
     refine⟨.pointer (some ⟨b,i*k+(j+fd.offset),none⟩),?_,Lf.KG Bb hb⟩
     simp only[execOp,ho,he,CQ,hp,Sem.run_bind,Lk hu hf hn h0,Result.andThen_ok,Sem.run_pure,Nat.add_assoc]
   . cases hv
theorem run_indexAt_slice {t e:TypeId} {k:Nat} (hu:P.underlying t=some (.slice e)) (hk:Fu P e=some k) {b off len c:Nat} {kk:IntKind} {n:Int} (h0:0≤n) (h1:n<len) (w:World):
 (Instr.indexAt t (.slice (some ⟨b,off,none⟩) len c) (.int kk n)).run P w= .ok (.pointer (some ⟨b,off+n.toNat*k,none⟩)) w:=by
 simp[Instr.indexAt,asIntOf,underlying,hu,h0,h1,run_sizeOf hk,Addr.add_lit]
theorem St.kW (h:St G w S δ Fr) {x:Ar} (hx:VM x) {n:AV} {pl:ABp (Nat×List Step)} (hh:hd (λs=>(δ s).er) x=some (n,pl)):
 (∀b k rows,n= .own b k rows->∃Aj F,Aj.map (·.map DV.er)=rows/\Ok w S (.own (CQ δ x) b k Aj) F/\∀r p,pl=some (r,p)->Am (δ r) p=some (.own (CQ δ x) b k Aj))/\
 (∀e k rows,n= .sl e k rows->(∃s,x= .t s/\(δ s).er= .sl e k rows)->Fz w S (.sl e k rows) (CQ δ x)):=by
 cases x with
 |c c=>
  obtain⟨D,hD⟩:=hx
  obtain⟨h1,h2,h3,_⟩:=Hy (w:=w) (S:=S) (δ:=δ) c D hD
  constructor
  . rintro b k rows rfl
    simp only[hd]at hh
    split at hh
    . simp only[AAN,AAc,AV.own.injEq]at hh
      obtain⟨⟨rfl,rfl,rfl⟩,rfl⟩:=hh
      cases D with
      |own v b' k'' Aj=>
       simp only[EE,AV.own.injEq]at h1
       obtain⟨rfl,rfl,h3'⟩:=h1
       exact⟨Aj,_,h3',by simpa[CQ,hD]using h2,by simp⟩
      |lf a v=>simp only[Ea]at h1;subst h1;cases h2 with|lf _ _ _ ha _=>exact ha.elim
      |agg=>simp at h1
      |BJ=>simp at h1
    . cases hh
  . rintro e k rows rfl ⟨s,hs,_⟩;cases hs
 |t s=>
  simp only[hd]at hh
  constructor
  . rintro b k rows rfl
    cases hs:(δ s).er with
    |al r p=>
     simp only[hs]at hh
     split at hh
     . rename_i n' hn
       simp only[AAN,AAc]at hh
       obtain⟨rfl,rfl⟩:=hh
       obtain⟨Aj,F,h1,h2,h3⟩:=h.node hs hn
       exact⟨Aj,F,h2,h3,by rintro r' p' ⟨⟩;exact h1⟩
     . cases hh
    |own b' k' rows'=>
     simp only[hs,AAN,AAc]at hh
     obtain⟨h1,rfl⟩:=hh
     obtain⟨Aj,Ri,hm⟩:=h.WQ (hs.trans h1)
     refine⟨Aj,Fr s,hm,?_,?_⟩
     . have:=h.ok s;rw[Ri]at this;simpa[CQ]using this
     . rintro r p ⟨⟩;simpa[Am,CQ]using Ri
    |sl e' k' rows'=>simp only[hs,AAN,AAc]at hh;exact absurd hh.1 (by simp)
    |_=>simp[hs]at hh
  . rintro e k rows rfl ⟨s',Fl,he⟩
    cases Fl
    exact(h.leaf he rfl).2.1
theorem YR (h:St G w S δ Fr) {a:Act} (ha:Rd δ a) {o:Oper} {t e:TypeId} {x i:Operand} {k:Nat} {y j:Ar} (ho:o.op= .indexAddr t x i) (hu:P.underlying t=some (.slice e)) (hk:Fu P e=some k) (hc:Bt x y=true) (ML:Bt i j=true) {v:AV}
 (hv:valOf (.VA k y j) (λs=>(δ s).er)=some v):Gives P w S δ a o v:=by
 obtain⟨hy,he⟩:=Ah hc ha
 obtain⟨hj,wN⟩:=Ah ML ha
 simp only[valOf]at hv
 split at hv
 . rename_i k' rows r p n hh hn
   split at hv
   . rename_i E7
     obtain⟨rfl,h0,h1⟩:=E7
     simp only[AAN]at hv
     subst hv
     obtain⟨kk,hn⟩:=Mp hn
     obtain⟨ei,_⟩:=h.Eg hj hn
     obtain⟨Aj,F,hm,CH,TK⟩:=(h.kW hy hh).1 _ _ _ rfl
     have Bb:=TK r p rfl
     generalize CQ δ y=vh at*
     have hlen:Aj.length=rows.length:=by rw[← hm];simp
     cases CH with
     |nil=>simp at hlen;rw[← hlen]at h1;simp at h1;omega
     |own _ _ _ b c arr E Fs _ hb Xh De Ko bJ hr LJ BP Jb hF=>
      refine⟨.pointer (some ⟨b,n.toNat*k'+0,none⟩),?_,Lf.KG Bb (by simp)⟩
      simp only[execOp,ho,he,wN,ei,I7,Sem.run_bind,AAW,AAe,run_indexAt_slice hu hk h0 (show n<(Aj.length:Nat)by rw[hlen];exact h1),Result.andThen_ok,Sem.run_pure]
      simp
   . cases hv
 . rename_i ee k' rows pl n hh hn
   split at hv
   . rename_i E7
     obtain⟨rfl,h0⟩:=E7
     obtain⟨kk,hn⟩:=Mp hn
     obtain⟨ei,_⟩:=h.Eg hj hn
     rw[AAm]at hv
     obtain⟨row,DZ,rfl⟩:=hv
     have hsl:∃s,y= .t s/\(δ s).er= .sl ee k' rows:=by
      cases y with
      |c c=>
       obtain⟨D,hD⟩:=hy
       simp only[hd]at hh
       split at hh
       . simp at hh
       . cases hh
      |t s=>
       refine⟨s,rfl,?_⟩
       simp only[hd]at hh
       cases hs:(δ s).er with
       |sl e2 k2 IL=>simp only[hs,AAN,AAc]at hh;exact hh.1
       |al r p=>
        simp only[hs]at hh
        split at hh
        . rename_i n' oP
          simp only[AAN,AAc]at hh
          obtain⟨rfl,_⟩:=hh
          -- an alias names a node
          obtain⟨_,_,F6⟩:=h.leaf hs rfl
          obtain⟨Zo,k2,rows',hl⟩:=F6
          obtain⟨D,hD,Er⟩:=DT (h.ok r).KQ oP
          rw[hl]at hD
          obtain rfl:=AAR hD
          simp at Er
        . cases hh
       |own=>simp[hs]at hh
       |_=>simp[hs]at hh
     have Mk:=(h.kW hy hh).2 _ _ _ rfl hsl
     have D5:n.toNat<rows.length:=(AAQ.1 DZ).1
     generalize CQ δ y=vh at*
     cases Mk with
     |nil=>simp at DZ
     |sl _ _ _ b off c vs hx RE hS Xh BR hr=>
      refine⟨.pointer (some ⟨b,off+n.toNat*k',none⟩),?_,Lf.fp hS λm a hm=> ?_⟩
      . simp only[execOp,ho,he,wN,ei,Sem.run_bind,run_indexAt_slice hu hk h0 (show n<(rows.length:Nat)by omega),Result.andThen_ok,Sem.run_pure]
      . refine⟨vs n.toNat m,?_,hr _ _ _ _ DZ hm⟩
        have:=BR _ _ _ _ DZ hm
        rw[show off+n.toNat*k'+m=off+(n.toNat*k'+m)from by omega]
        exact this
   . cases hv
 . cases hv
theorem oE (h:St G w S δ Fr) {a:Act} (ha:Rd δ a) {o:Oper} {op:BinOp} {t u:TypeId} {x y:Operand} {x' y':Ar} (ho:o.op= .binOp op t x y u) (hc:Bt x x'=true) (ML:Bt y y'=true) {v:AV}
 (hv:valOf (.bin op x' y') (λs=>(δ s).er)=some v):Gives P w S δ a o v:=by
 obtain⟨hx,ex⟩:=Ah hc ha
 obtain⟨hy,ey⟩:=Ah ML ha
 simp only[valOf]at hv
 unfold binF at hv
 split at hv
 . rename_i k n k' m h1 h2
   obtain⟨e1,_⟩:=h.Eg hx h1
   obtain⟨e2,_⟩:=h.Eg hy h2
   split at hv
   . rename_i hk
     subst hk
     rw[AAm]at hv
     obtain⟨u',xL,rfl⟩:=hv
     have hg:(eqGuard op t x y (.int k n) (.int k m)).run P w= .ok () w:=by cases op<;>simp[eqGuard]
     have hr:(binOp op t (.int k n) (.int k m)).run P w= .ok u' w:=by
      cases op<;>simp[binI]at xL<;>first
       | (subst xL;simp[binOp,Op.intArith,Op.intCmp];done)
       | (obtain⟨h0,rfl⟩:=xL;simp[binOp,Op.intDiv,h0];done)
     refine⟨u',?_,Lf.sc u' ?_⟩
     . simp only[execOp,ho,ex,ey,e1,e2,Sem.run_bind,hg,hr,Result.andThen_ok,Sem.run_pure]
     . cases op<;>simp[binI]at xL<;>first
        | (subst xL;rfl)
        | (obtain⟨h0,rfl⟩:=xL;rfl)
   . cases hv
 . rename_i n m h1 h2
   obtain⟨e1,_⟩:=h.Eg hx h1
   obtain⟨e2,_⟩:=h.Eg hy h2
   have hg:∀op,(eqGuard op t x y (.string n) (.string m)).run P w= .ok () w:=by intro op;cases op<;>simp[eqGuard]
   split at hv
   . simp only[AAN]at hv
     subst hv
     refine⟨_,?_,Lf.sc _ rfl⟩
     simp only[execOp,ho,ex,ey,e1,e2,Sem.run_bind,hg,Result.andThen_ok]
     simp[binOp,Op.stringOp]
   . simp only[AAN]at hv
     subst hv
     refine⟨_,?_,Lf.sc _ rfl⟩
     simp only[execOp,ho,ex,ey,e1,e2,Sem.run_bind,hg,Result.andThen_ok]
     simp[binOp,Op.stringOp]
   . cases hv
 . cases hv
theorem oC (h:St G w S δ Fr) {a:Act} (ha:Rd δ a) {o:Oper} {op:BinOp} {t u:TypeId} {x y:Operand} {x' y':Ar} {neg:Bool} (ho:o.op= .binOp op t x y u) (HT:op=if neg=true then .neq else .eql) (ht:P.underlying t=some .bool) (hc:Bt x x'=true) (ML:Bt y y'=true) {v:AV}
 (hv:valOf (.beq neg x' y') (λs=>(δ s).er)=some v):Gives P w S δ a o v:=by
 obtain⟨hx,ex⟩:=Ah hc ha
 obtain⟨hy,ey⟩:=Ah ML ha
 simp only[valOf]at hv
 split at hv
 . rename_i n m h1 h2
   obtain⟨e1,_⟩:=h.Eg hx h1
   obtain⟨e2,_⟩:=h.Eg hy h2
   simp only[AAN]at hv
   subst hv
   refine⟨_,?_,Lf.sc _ rfl⟩
   have hg:∀op,(eqGuard op t x y (.bool n) (.bool m)).run P w= .ok () w:=by intro op;cases op<;>simp[eqGuard]
   cases neg with
   |true=>
    simp only[AAs]at HT
    subst HT
    simp only[execOp,ho,ex,ey,e1,e2,Sem.run_bind,hg,Result.andThen_ok,run_neq_bool w t n m ht,Sem.run_pure,AAs]
   |false=>
    simp only[AAW,AAe]at HT
    subst HT
    simp only[execOp,ho,ex,ey,e1,e2,Sem.run_bind,hg,Result.andThen_ok,run_eql_bool w t n m ht,Sem.run_pure,AAW,AAe]
 . cases hv
theorem vV (h:St G w S δ Fr) {a:Act} (ha:Rd δ a) {o:Oper} {op:UnOp} {t:TypeId} {x:Operand} {x':Ar} (ho:o.op= .unOp op t x) (hc:Bt x x'=true) {v:AV} (hv:valOf (.un op x') (λs=>(δ s).er)=some v):Gives P w S δ a o v:=by
 obtain⟨hx,ex⟩:=Ah hc ha
 simp only[valOf]at hv
 unfold unF at hv
 split at hv
 . rename_i n h1
   obtain⟨e1,_⟩:=h.Eg hx h1
   split at hv
   . simp only[AAN]at hv
     subst hv
     exact⟨_,by simp[execOp,ho,ex,e1,Op.unary],Lf.sc _ rfl⟩
   . cases hv
 . rename_i k n h1
   obtain⟨e1,_⟩:=h.Eg hx h1
   split at hv
   . simp only[AAN]at hv
     subst hv
     exact⟨.int k (k.wrap (0-n)),by simp[execOp,ho,ex,e1,Op.unary,Op.intArith],Lf.sc _ rfl⟩
   . cases hv
 . cases hv
theorem oF (h:St G w S δ Fr) {a:Act} (ha:Rd δ a) {o:Oper} {s d:TypeId} {k k0:IntKind} {x:Operand} {x':Ar} (ho:o.op= .convert s d x) (hs:P.underlying s=some (.int k0)) (hd:P.underlying d=some (.int k)) (hc:Bt x x'=true) {v:AV} (hv:valOf (.cvt k x') (λs=>(δ s).er)=some v):Gives P w S δ a o v:=by
 obtain⟨hx,ex⟩:=Ah hc ha
 simp only[valOf]at hv
 split at hv
 . rename_i k1 n h1
   obtain⟨e1,_⟩:=h.Eg hx h1
   simp only[AAN]at hv
   subst hv
   exact⟨.int k (k.wrap n),by simp[execOp,ho,ex,e1,convert,underlying,hs,hd,Conv.intToInt],Lf.sc _ rfl⟩
 . cases hv
end Go.Abs
namespace Go.Abs
variable {w w':World} {S S':Nat->Prop} {G:Gi} {δ:Nat->DV} {Fr:Nat->Nat->Prop} {P:Program}
theorem Yn {v:Value} {k:Nat} {rows:List (List DV)} {F:Nat->Prop} (h:Ok w S (.own v false k rows) F):∃a c,v= .slice a rows.length c:=by
 cases h with
 |nil=>exact⟨none,0,rfl⟩
 |own _ _ _ b c=>exact⟨some ⟨b,0,none⟩,c,by simp[I7]⟩
theorem OQ {v:Value} {e:Bool} {k:Nat} {rows:List (List AV)} (h:Fz w S (.sl e k rows) v):∃a c,v= .slice a rows.length c:=by
 cases h with
 |nil _ _ a c=>exact⟨a,c,rfl⟩
 |sl _ _ _ b off c=>exact⟨_,c,rfl⟩
theorem St.hdSl (h:St G w S δ Fr) {x:Ar} (hx:VM x) {e:Bool} {k:Nat} {rows:List (List AV)} {pl:ABp (Nat×List Step)} (hh:hd (λs=>(δ s).er) x=some (.sl e k rows,pl)):
 ∃s,x= .t s/\(δ s).er= .sl e k rows:=by
 cases x with
 |c c=>
  obtain⟨D,hD⟩:=hx
  simp only[hd]at hh
  split at hh
  . simp at hh
  . cases hh
 |t s=>
  refine⟨s,rfl,?_⟩
  simp only[hd]at hh
  cases hs:(δ s).er with
  |sl e2 k2 IL=>simp only[hs,AAN,AAc]at hh;exact hh.1
  |al r p=>
   simp only[hs]at hh
   split at hh
   . rename_i n' oP
     simp only[AAN,AAc]at hh
     obtain⟨rfl,_⟩:=hh
     obtain⟨_,_,F6⟩:=h.leaf hs rfl
     obtain⟨Zo,k2,rows',hl⟩:=F6
     obtain⟨D,hD,Er⟩:=DT (h.ok r).KQ oP
     rw[hl]at hD
     obtain rfl:=AAR hD
     simp at Er
   . cases hh
  |own=>simp[hs]at hh
  |_=>simp[hs]at hh
theorem run_len_slice {t:TypeId} (a:ABp Addr) (n c:Nat) (hs:∃e,P.underlying t=some (.slice e)) (ty:TypeId) (w:World):
 (Builtin.len_ #[t] ty #[.slice a n c]).run P w= .ok (.int .i64 n) w:=by
 obtain⟨e,he⟩:=hs
 simp[Builtin.len_,underlying,he,goInt]
theorem oJ (h:St G w S δ Fr) {a:Act} (ha:Rd δ a) {o:Oper} {c:Call} {x:Operand} {t:TypeId} {x':Ar} (ho:o.op= .call c) (Kp:c.callee= .builtin .len) (FK:c.args.toList=[x]) (hty:c.argTypes.toList=[t])
 (ht:(∃e,P.underlying t=some (.slice e))) (hc:Bt x x'=true) {v:AV} (hv:valOf (.len x') (λs=>(δ s).er)=some v):Gives P w S δ a o v:=by
 obtain⟨hx,ex⟩:=Ah hc ha
 have e1:c.args= #[x]:=by apply ABT;simpa using FK
 have e2:c.argTypes= #[t]:=by apply ABT;simpa using hty
 have key:∀(ad:ABp Addr) (n cc:Nat),CQ δ x'= .slice ad n cc->v= .sc (.int .i64 n)->Gives P w S δ a o v:=by
  rintro ad n cc hav rfl
  refine⟨.int .i64 n,?_,Lf.sc _ rfl⟩
  have:=run_len_slice (P:=P) ad n cc ht o.type w
  simp only[execOp,ho,resolve,Kp,e1,e2,invoke,builtin,Sem.run_bind,Sem.run_pure,Result.andThen_ok,List.map_toArray,AAg,AA2,ex,hav,this]
 simp only[valOf]at hv
 split at hv
 . rename_i k rows pl hh
   simp only[AAN]at hv
   obtain⟨Aj,F,hm,CH,_⟩:=(h.kW hx hh).1 _ _ _ rfl
   obtain⟨ad,cc,hs⟩:=Yn CH
   refine key ad Aj.length cc hs ?_
   rw[← hv,← hm];simp
 . rename_i e k rows pl hh
   simp only[AAN]at hv
   have Mk:=(h.kW hx hh).2 _ _ _ rfl (h.hdSl hx hh)
   obtain⟨ad,cc,hs⟩:=OQ Mk
   exact key ad rows.length cc hs hv.symm
 . cases hv
theorem gJ (h:St G w S δ Fr) {a:Act} (ha:Rd δ a) {o:Oper} {c:Call} {x:Operand} {t:TypeId} {x':Ar} (ho:o.op= .call c) (Kp:c.callee= .builtin .len) (FK:c.args.toList=[x]) (hty:c.argTypes.toList=[t])
 (ht:P.underlying t=some .string) (hc:Bt x x'=true) {v:AV} (hv:valOf (.Te x') (λs=>(δ s).er)=some v):Gives P w S δ a o v:=by
 obtain⟨hx,ex⟩:=Ah hc ha
 have e1:c.args= #[x]:=by apply ABT;simpa using FK
 have e2:c.argTypes= #[t]:=by apply ABT;simpa using hty
 simp only[valOf]at hv
 split at hv
 . rename_i s hs
   simp only[AAN]at hv
   subst hv
   obtain⟨e3,_⟩:=h.Eg hx hs
   refine⟨.int .i64 s.size,?_,Lf.sc _ rfl⟩
   simp only[execOp,ho,resolve,Kp,e1,e2,invoke,builtin,Sem.run_bind,Sem.run_pure,Result.andThen_ok,List.map_toArray,AAg,AA2,ex,e3]
   simp[Builtin.len_,underlying,ht,goInt]
 . cases hv
theorem oG (h:St G w S δ Fr) {a:Act} (ha:Rd δ a) {o:Oper} {x:Operand} {i:Nat} {x':Ar} (ho:o.op= .extract x i) (hc:Bt x x'=true) {v:AV} (hv:valOf (.ext x' i) (λs=>(δ s).er)=some v):Gives P w S δ a o v:=by
 obtain⟨hx,ex⟩:=Ah hc ha
 cases x' with
 |c c=>simp[valOf]at hv
 |t s=>
  simp only[valOf]at hv
  split at hv
  . rename_i cs hs
    split at hv
    . rename_i c S5
      simp only[AAN]at hv
      subst hv
      obtain⟨ds,Jd,hm⟩:∃ds,δ s= .BJ ds/\ds.map DV.er=cs:=by
       have:=(h.ok s).KQ
       cases hd:δ s with
       |BJ ds=>rw[hd]at hs;simp at hs;exact⟨ds,rfl,hs⟩
       |lf c v=>rw[hd]at hs this;cases this with|lf _ _ hl=>simp at hs;subst hs;simp[CR]at hl
       |own=>rw[hd]at hs;simp at hs
       |agg=>rw[hd]at hs;simp at hs
      rw[← hm,AAZ,AAm]at S5
      obtain⟨d,hd,rfl⟩:=S5
      have CH:=h.ok s
      have F6:=h.al s
      rw[Jd]at CH F6
      cases CH with
      |BJ _ Fs _ hr LJ BP hF=>
       cases F6 with
       |BJ _ F6=>
        obtain⟨D,h1,h2,h3,h4⟩:=viewD (δ:=δ) s (hr i d hd) [(0,i,0)] (by simp[Am,Jd,hd]) (F6 i d hd)
        refine⟨d.Aq,?_,D,h1,h2,h3,h4⟩
        have:(ds.map DV.Aq).toArray[i]? =some d.Aq:=by simp[hd]
        simp only[execOp,ho,ex,CQ,Jd,Km,Instr.extract,Sem.run_bind,this,Sem.run_pure,Result.andThen_ok]
    . cases hv
  . cases hv
theorem run_indexAt_array {t e:TypeId} {len k:Nat} (hu:P.underlying t=some (.array len e)) (hk:Fu P e=some k) {b off:Nat} {kk:IntKind} {n:Int} (h0:0≤n) (h1:n<len) (w:World):
 (Instr.indexAt t (.pointer (some ⟨b,off,none⟩)) (.int kk n)).run P w= .ok (.pointer (some ⟨b,off+n.toNat*k,none⟩)) w:=by
 simp[Instr.indexAt,asIntOf,underlying,hu,h0,h1,run_sizeOf hk,Addr.add_lit,Instr.sureAddr]
theorem oB (h:St G w S δ Fr) {a:Act} (ha:Rd δ a) {o:Oper} {t e:TypeId} {x i:Operand} {len k:Nat} {y j:Ar} (ho:o.op= .indexAddr t x i) (hu:P.underlying t=some (.array len e)) (hk:Fu P e=some k) (hc:Bt x y=true) (ML:Bt i j=true) {v:AV}
 (hv:valOf (.aad len k y j) (λs=>(δ s).er)=some v):Gives P w S δ a o v:=by
 obtain⟨hy,he⟩:=Ah hc ha
 obtain⟨hj,wN⟩:=Ah ML ha
 cases y with
 |c c=>simp[valOf]at hv
 |t s=>
  simp only[valOf]at hv
  split at hv
  . rename_i s' n heq hn
    simp only[Ar.t.injEq]at heq
    subst heq
    split at hv
    . rename_i E7
      obtain⟨h0,h1⟩:=E7
      obtain⟨kk,hn⟩:=Mp hn
      obtain⟨ei,_⟩:=h.Eg hj hn
      rw[ei]at wN
      cases hs:(δ s).er with
      |fp cs=>
       simp only[hs,AAN]at hv
       subst hv
       obtain⟨_,h2,_⟩:=h.leaf hs rfl
       obtain⟨b,off,hp,hS,BR⟩:=h2
       refine⟨.pointer (some ⟨b,off+n.toNat*k,none⟩),?_,Lf.fp hS λm a hm=> ?_⟩
       . simp only[execOp,ho,he,wN,CQ,hp,Sem.run_bind,run_indexAt_array hu hk h0 h1,Result.andThen_ok,Sem.run_pure]
       . rw[List.getElem?_drop]at hm
         rw[show off+n.toNat*k+m=off+(n.toNat*k+m)from by omega]
         exact BR _ a hm
      |_=>
       simp only[hs]at hv
       split at hv
       . rename_i r p i j k' UN
         simp only[AAN]at hv
         subst hv
         obtain⟨vh,bx,Aj,b,F,Bb,hb,hp,CH,_⟩:=h.Dr UN
         refine⟨.pointer (some ⟨b,i*k'+(j+n.toNat*k),none⟩),?_,Lf.KG Bb hb⟩
         simp only[execOp,ho,he,wN,CQ,hp,Sem.run_bind,run_indexAt_array hu hk h0 h1,Result.andThen_ok,Sem.run_pure,Nat.add_assoc]
       . cases hv
    . cases hv
  . cases hv
theorem Wy {t:TypeId} {g:Bool} {n off:Nat} {vals:List Value} (hn:Fu P t=some n) (hg:I1 P t=some g) (h1:g=true∨n=1) (hlen:((vals.drop off).take n).length=n):
 (part t vals.toArray off).run P w= .ok (if g=true then .agg ((vals.drop off).take n).toArray else((vals.drop off).take n).headD undef) w:=by
 cases g with
 |true=>
  have e:vals.toArray.extract off (off+n)=((vals.drop off).take n).toArray:=by
   apply ABT
   simp[List.extract_eq_take_drop]
  simp[part,Pf hg,run_sizeOf hn,e]
 |false=>
  obtain rfl:=h1.resolve_left (by simp)
  match hd:(vals.drop off).take 1,hlen with
  |[v],_=>
   have hv:vals[off]? =some v:=by
    have:((vals.drop off).take 1)[0]? =some v:=by rw[hd];rfl
    simpa using this
   simp[part,Pf hg,hv]
theorem oH (h:St G w S δ Fr) {a:Act} (ha:Rd δ a) {o:Oper} {t:TypeId} {x:Operand} {f:Nat} {agg:Bool} {off n:Nat} {y:Ar} {fs:Array Field} {fd:Field} (ho:o.op= .field t x f) (hu:P.underlying t=some (.struct fs)) (hf:fs[f]? =some fd) (Rk:fd.offset=off)
 (hn:Fu P fd.type=some n) (hg:I1 P fd.type=some agg) (h1:agg=true∨n=1) (hc:Bt x y=true) {v:AV} (hv:valOf (.fld agg off n y) (λs=>(δ s).er)=some v):Gives P w S δ a o v:=by
 obtain⟨hy,he⟩:=Ah hc ha
 cases y with
 |c c=>simp[valOf]at hv
 |t s=>
  simp only[valOf]at hv
  split at hv
  . rename_i cs hs
    obtain⟨vals,xM,hlen,Zt⟩:=Qm h hs hv
    refine⟨_,?_,Zt⟩
    have:=Wy (w:=w) hn hg h1 hlen
    simp only[execOp,ho,he,CQ,xM,Instr.field,run_underlying hu,hf,asAgg,Rk,Sem.run_bind,Sem.run_pure,Result.andThen_ok,this]
  . cases hv
theorem oI (h:St G w S δ Fr) {a:Act} (ha:Rd δ a) {o:Oper} {t e:TypeId} {x i:Operand} {agg:Bool} {len k:Nat} {y j:Ar} (ho:o.op= .index t x i) (hu:P.underlying t=some (.array len e)) (hk:Fu P e=some k) (hg:I1 P e=some agg) (h1:agg=true∨k=1)
 (hc:Bt x y=true) (ML:Bt i j=true) {v:AV} (hv:valOf (.idx agg len k y j) (λs=>(δ s).er)=some v):Gives P w S δ a o v:=by
 obtain⟨hy,he⟩:=Ah hc ha
 obtain⟨hj,wN⟩:=Ah ML ha
 cases y with
 |c c=>simp[valOf]at hv
 |t s=>
  simp only[valOf]at hv
  split at hv
  . rename_i s' n heq hn
    simp only[Ar.t.injEq]at heq
    subst heq
    split at hv
    . rename_i E7
      obtain⟨kk,hn⟩:=Mp hn
      obtain⟨ei,_⟩:=h.Eg hj hn
      rw[ei]at wN
      split at hv
      . rename_i cs hs
        obtain⟨vals,xM,hlen,Zt⟩:=Qm h hs hv
        refine⟨_,?_,Zt⟩
        have:=Wy (w:=w) hk hg h1 hlen
        simp only[execOp,ho,he,wN,CQ,xM,Instr.index,asIntOf,run_underlying hu,E7,and_self,AAs,run_sizeOf hk,Sem.run_bind,Sem.run_pure,Result.andThen_ok,this]
      . cases hv
    . cases hv
  . cases hv
theorem gH (h:St G w S δ Fr) {a:Act} (ha:Rd δ a) {o:Oper} {t:TypeId} {x i:Operand} {y j:Ar} (ho:o.op= .index t x i) (hu:P.underlying t=some .string) (hc:Bt x y=true) (ML:Bt i j=true) {v:AV}
 (hv:valOf (.X4 y j) (λs=>(δ s).er)=some v):Gives P w S δ a o v:=by
 obtain⟨hy,he⟩:=Ah hc ha
 obtain⟨hj,wN⟩:=Ah ML ha
 simp only[valOf]at hv
 split at hv
 . rename_i s n hs hn
   obtain⟨kk,hn⟩:=Mp hn
   obtain⟨ei,_⟩:=h.Eg hj hn
   obtain⟨es,_⟩:=h.Eg hy hs
   split at hv
   . rename_i h0
     rw[AAm]at hv
     obtain⟨b,hb,rfl⟩:=hv
     refine⟨.int .u8 b.toNat,?_,Lf.sc _ rfl⟩
     simp only[execOp,ho,he,wN,ei,es,Instr.index,asIntOf,run_underlying hu,h0,AAs,hb,Sem.run_bind,Sem.run_pure,Result.andThen_ok]
   . cases hv
 . cases hv
theorem St.tO (h:St G w S δ Fr) {x:Ar} (hx:VM x) {cs:List AV} (ha:ar (λs=>(δ s).er) x= .agg cs):∃vals:List Value,CQ δ x= .agg vals.toArray/\∀(j:Nat) u,cs[j]? =some (.sc u)->vals[j]? =some u:=by
 obtain⟨D,F,e1,e2,CH⟩:∃(D:DV) (F:Nat->Prop),D.er= .agg cs/\D.Aq=CQ δ x/\Ok w S D F:=by
  cases x with
  |t s=>exact⟨δ s,Fr s,ha,rfl,h.ok s⟩
  |c c=>
   obtain⟨D0,gL⟩:=hx
   obtain⟨g1,g2,g3,_⟩:=Hy (w:=w) (S:=S) (δ:=δ) c D0 gL
   simp only[ar]at ha
   exact⟨D0,_,g1.trans ha,by simp[CQ,gL],g2⟩
 obtain⟨ds,rfl⟩:∃ds,D= .agg ds:=by
  have:=CH.KQ
  cases D with
  |agg ds=>exact⟨ds,rfl⟩
  |lf c v=>cases this with|lf _ _ hl=>simp at e1;subst e1;simp[CR]at hl
  |own=>simp at e1
  |BJ=>simp at e1
 refine⟨ds.map DV.Aq,by rw[← e2];simp,λj u hj=> ?_⟩
 simp only[Gz,AV.agg.injEq]at e1
 subst e1
 simp only[AAZ]at hj ⊢
 cases hd:ds[j]? with
 |none=>simp[hd]at hj
 |some d=>
  simp only[hd,AAl,AAN]at hj ⊢
  cases CH with
  |agg _ Fs _ hr _ _ _=>
   have:=hr j d hd
   cases this with
   |lf a v _ hl _=>simp only[Ea]at hj;subst hj;simpa using hl.1
   |nil=>simp at hj
   |own=>simp at hj
   |agg=>simp at hj
   |BJ=>simp at hj
def kdOf:TypeDesc->ABp Nat
 | .bool=>some 0
 | .int _=>some 1
 | .string=>some 2
 |_=>none
def PT (P:Program):Nat->List Field->List Nat->Bool
 |_,[],[]=>true
 |i,f::fs,k::ks=>f.name != "_" &&f.offset==i&&Fu P f.type==some 1&&I1 P f.type==some false&&((P.underlying f.type).bind kdOf==some k)&&PT P (i+1) fs ks
 |_,_,_=>false
def fO (P:Program) (t:TypeId) (kd:List Nat):Bool:=match P.underlying t with
 |some (.struct fs)=> !P.stoodInHeld t&& !P.eqGuardType P.depth t&&PT P 0 fs.toList kd
 |_=>false
theorem vI (d:Nat) {t:TypeId} {k:Nat} {u v:Value} {b:Bool} (hk:(P.underlying t).bind kdOf=some k) (h:nV k u v=some b):(Op.equalIn (d+1) t u v).run P w= .ok b w:=by
 cases hu:P.underlying t with
 |none=>simp[hu]at hk
 |some T=>
  simp only[hu,AAO]at hk
  cases T<;>simp only[kdOf,AAN,reduceCtorEq]at hk<;>subst hk
  . cases u<;>cases v<;>simp only[nV,AAN,reduceCtorEq]at h
    subst h
    exact run_equalIn_bool' w d t _ _ hu
  . cases u<;>cases v<;>simp only[nV,reduceCtorEq]at h
    split at h
    . rename_i e
      subst e
      simp only[AAN]at h
      subst h
      exact run_equalIn_int w d t _ _ _ _ hu
    . cases h
  . cases u<;>cases v<;>simp only[nV,AAN,reduceCtorEq]at h
    subst h
    exact run_equalIn_string w d t _ _ hu
theorem Y8 (d:Nat) (xs ys:List Value) (fs:List Field):∀(kd:List Nat) (i:Nat) (aZ9 bs:List AV) (b:Bool),PT P i fs kd=true->PV kd aZ9 bs=some b->
 (∀(j:Nat) u,aZ9[j]? =some (.sc u)->xs[i+j]? =some u)->(∀(j:Nat) u,bs[j]? =some (.sc u)->ys[i+j]? =some u)->(Op.eqFields (d+1) xs.toArray ys.toArray fs).run P w= .ok b w:=by
 induction fs with
 |nil=>
  intro kd i aZ9 bs b hc he _ _
  cases kd with
  |cons=>simp[PT]at hc
  |nil=>
   cases aZ9<;>cases bs<;>simp only[PV,AAN,reduceCtorEq]at he
   subst he
   simp[Op.eqFields]
 |cons f fs ih=>
  intro kd i aZ9 bs b hc he hxs hys
  cases kd with
  |nil=>simp[PT]at hc
  |cons k ks=>
   simp only[PT,AAP,AAd,bne_iff_ne]at hc
   obtain⟨⟨⟨⟨⟨h1,h2⟩,h3⟩,h4⟩,h5⟩,h6⟩:=hc
   match aZ9,bs,he with
   | .sc u::aZ9,.sc v::bs,he=>
    simp only[PV]at he
    split at he
    . rename_i a b' g1 g2
      simp only[AAN]at he
      have hx0:xs[i]? =some u:=by have:=hxs 0 u rfl;simpa using this
      have hy0:ys[i]? =some v:=by have:=hys 0 v rfl;simpa using this
      have one:∀(l:List Value) (u:Value),l[i]? =some u->(part f.type l.toArray i).run P w= .ok u w:=by
       intro l u hl
       have Zr:(l.drop i).take 1=[u]:=by
        obtain⟨D5,rfl⟩:=AAQ.1 hl
        rw[ABH D5];rfl
       have:=Wy (w:=w) (off:=i) (vals:=l) h3 h4 (.inr rfl) (by rw[Zr];rfl)
       rw[this,Zr];rfl
      have oU:=ih ks (i+1) aZ9 bs b' h6 g2 (λj u hj=>by have:=hxs (j+1) u hj;rw[show i+1+j=i+(j+1)from by omega];exact this) (λj u hj=>by have:=hys (j+1) u hj;rw[show i+1+j=i+(j+1)from by omega];exact this)
      simp only[Op.eqFields,h1,ne_eq,not_false_eq_true,AAs,h2,Sem.run_bind,one xs u hx0,one ys v hy0,Result.andThen_ok,vI d h5 g1]
      cases a with
      |true=>simp only[Bool.not_true,AAW,AAe,oU];rw[← he];simp
      |false=>simp only[Bool.not_false,AAs,Sem.run_pure];rw[← he];simp
    . cases he
theorem gG (h:St G w S δ Fr) {a:Act} (ha:Rd δ a) {o:Oper} {op:BinOp} {t u:TypeId} {x y:Operand} {x' y':Ar} {neg:Bool} {kd:List Nat} (ho:o.op= .binOp op t x y u) (HT:op=if neg=true then .neq else .eql) (ht:fO P t kd=true) (hc:Bt x x'=true) (ML:Bt y y'=true) {v:AV}
 (hv:valOf (.Up neg kd x' y') (λs=>(δ s).er)=some v):Gives P w S δ a o v:=by
 obtain⟨hx,ex⟩:=Ah hc ha
 obtain⟨hy,ey⟩:=Ah ML ha
 simp only[valOf]at hv
 split at hv
 . rename_i aZ9 bs h1 h2
   obtain⟨xs,e1,f1⟩:=h.tO hx h1
   obtain⟨ys,e2,f2⟩:=h.tO hy h2
   rw[AAm]at hv
   obtain⟨b,hb,rfl⟩:=hv
   refine⟨_,?_,Lf.sc _ rfl⟩
   unfold fO at ht
   split at ht
   . rename_i fs hu
     simp only[AAP,ABU]at ht
     obtain⟨⟨g1,g2⟩,g3⟩:=ht
     have hfo:P.fieldsOf t=fs:=by simp[Program.fieldsOf,hu]
     have B8:(Op.equalIn 10000 t (.agg xs.toArray) (.agg ys.toArray)).run P w= .ok b w:=by
      rw[run_equalIn_struct w 9999 t _ _ (by rw[hfo];exact hu) g1,hfo]
      exact Y8 9998 xs ys fs.toList kd 0 aZ9 bs b g3 hb (λj u hj=>by simpa using f1 j u hj) (λj u hj=>by simpa using f2 j u hj)
     have hg:∀op,(eqGuard op t x y (.agg xs.toArray) (.agg ys.toArray)).run P w= .ok () w:=λop=>run_eqGuard_agg w op t x y _ _ g2
     cases neg with
     |true=>
      simp only[AAs]at HT
      subst HT
      simp only[execOp,ho,ex,ey,e1,e2,Sem.run_bind,hg,Result.andThen_ok,run_neq_struct,B8,Sem.run_pure,AAs]
     |false=>
      simp only[AAW,AAe]at HT
      subst HT
      simp only[execOp,ho,ex,ey,e1,e2,Sem.run_bind,hg,Result.andThen_ok,run_eql_struct,B8,Sem.run_pure,AAW,AAe]
   . cases ht
 . cases hv
theorem vU (h:St G w S δ Fr) {a:Act} (ha:Rd δ a) {o:Oper} {c:Call} {x y:Operand} {x' y':Ar} {mx:Bool} (ho:o.op= .call c) (Kp:c.callee= .builtin (if mx=true then .max else .min)) (FK:c.args.toList=[x,y])
 (hc:Bt x x'=true) (ML:Bt y y'=true) {v:AV} (hv:valOf (.mm mx x' y') (λs=>(δ s).er)=some v):Gives P w S δ a o v:=by
 obtain⟨hx,ex⟩:=Ah hc ha
 obtain⟨hy,ey⟩:=Ah ML ha
 have e1:c.args= #[x,y]:=by apply ABT;simpa using FK
 simp only[valOf]at hv
 split at hv
 . rename_i k n k' m g1 g2
   obtain⟨f1,_⟩:=h.Eg hx g1
   obtain⟨f2,_⟩:=h.Eg hy g2
   split at hv
   . rename_i hk
     subst hk
     simp only[AAN]at hv
     subst hv
     refine⟨_,?_,Lf.sc _ rfl⟩
     cases mx with
     |true=>
      simp only[AAs]at Kp
      simp only[execOp,ho,resolve,Kp,e1,invoke,builtin,Sem.run_bind,Sem.run_pure,Result.andThen_ok,List.map_toArray,AAg,AA2,ex,ey,f1,f2,run_max_int2,AAs]
     |false=>
      simp only[AAW,AAe]at Kp
      simp only[execOp,ho,resolve,Kp,e1,invoke,builtin,Sem.run_bind,Sem.run_pure,Result.andThen_ok,List.map_toArray,AAg,AA2,ex,ey,f1,f2,run_min_int2,AAW,AAe]
   . cases hv
 . cases hv
theorem lO {v:Value} {k:Nat} {rows:List (List DV)} {F:Nat->Prop} (h:Ok w S (.own v true k rows) F):∃b,v= .pointer (some ⟨b,0,none⟩):=by
 cases h with
 |own _ _ _ b c arr E Fs _=>exact⟨b,by simp[I7]⟩
theorem gE (h:St G w S δ Fr) {a:Act} (ha:Rd δ a) {o:Oper} {x:Operand} {x':Ar} (ho:o.op= .nilCheck x) (hc:Bt x x'=true) {v:AV} (hv:valOf (.JT x') (λs=>(δ s).er)=some v):Gives P w S δ a o v:=by
 obtain⟨hx,ex⟩:=Ah hc ha
 cases x' with
 |c c=>
  obtain⟨D0,gL⟩:=hx
  simp only[valOf,ar]at hv
  cases c<;>first
   | (simp[IU]at gL;done)
   | (simp at hv;done)
   | (rename_i b _ _;cases b<;>simp at hv)
 |t s=>
  simp only[valOf,ar]at hv
  cases hs:(δ s).er with
  |KG r p i j k=>
   rw[hs]at hv
   simp only[AAN]at hv
   subst hv
   obtain⟨e1,_,hb,bx,rows,b,g1,g2,g3⟩:=h.leaf hs rfl
   exact⟨_,by simp only[execOp,ho,ex,CQ,g3,Sem.run_pure],Lf.KG g1 g2⟩
  |fp cs=>
   rw[hs]at hv
   simp only[AAN]at hv
   subst hv
   obtain⟨e1,⟨b,off,g1,g2,g3⟩,_⟩:=h.leaf hs rfl
   exact⟨_,by simp only[execOp,ho,ex,CQ,g1,Sem.run_pure],Lf.fp g2 g3⟩
  |own b k rows=>
   rw[hs]at hv
   cases b with
   |false=>simp at hv
   |true=>
    simp only[AAN]at hv
    subst hv
    obtain⟨Aj,hd,DZ⟩:=h.WQ hs
    have CH:=h.ok s
    rw[hd]at CH
    obtain⟨b,hb⟩:=lO CH
    refine⟨(δ s).Aq,?_,Lf.al (r:=s) (p:=[]) (bx:=true) (k:=k) (rows:=Aj) (by simp[Am];exact hd)⟩
    simp only[execOp,ho,ex,CQ]
    rw[hb]
    simp only[Sem.run_pure]
  |al r p=>
   rw[hs]at hv
   simp only at hv
   split at hv
   . rename_i k rows hn
     simp only[AAN]at hv
     subst hv
     obtain⟨e1,_,bx,k',rows',hl⟩:=h.leaf hs rfl
     obtain⟨D,hD,Er⟩:=DT (h.ok r).KQ hn
     rw[hl]at hD
     obtain rfl:=AAR hD
     simp only[EE,AV.own.injEq]at Er
     obtain⟨rfl,rfl,_⟩:=Er
     obtain⟨F',CH,_⟩:=(h.ok r).Am hl
     obtain⟨b,hb⟩:=lO CH
     refine⟨(δ s).Aq,?_,Lf.al hl⟩
     simp only[execOp,ho,ex,CQ]
     rw[hb]
     simp only[Sem.run_pure]
   . cases hv
  |_=>rw[hs]at hv;simp at hv
theorem fD (h:St G w S δ Fr) {a:Act} (ha:Rd δ a) (ys:List Ar):∀{xs:List Operand} {rs:List (Nat×List Step)},F8 xs ys=true->RK (λs=>(δ s).er) ys=some rs->
 xs.length=rs.length/\∀(i:Nat) r p u,rs[i]? =some (r,p)->(xs.map a.eval)[i]? =some u->∃bx k rows,Am (δ r) p=some (.own u bx k rows):=by
 induction ys with
 |nil=>
  intro xs rs hc hr
  cases xs with
  |cons=>simp[F8]at hc
  |nil=>simp only[RK,AAN]at hr;subst hr;exact⟨rfl,by simp⟩
 |cons y ys ih=>
  intro xs rs hc hr
  cases xs with
  |nil=>simp[F8]at hc
  |cons x xs=>
   simp only[F8,AAP]at hc
   obtain⟨hy,Ku⟩:=Ah hc.1 ha
   cases y with
   |c=>simp[RK]at hr
   |t s=>
    simp only[RK]at hr
    have step:∀r0 p0 l,RK (λs=>(δ s).er) ys=some l->rs=(r0,p0)::l->(∃bx k rows,Am (δ r0) p0=some (.own (a.eval x) bx k rows))->(x::xs).length=rs.length/\∀(i:Nat) r p u,rs[i]? =some (r,p)->((x::xs).map a.eval)[i]? =some u->∃bx k rows,Am (δ r) p=some (.own u bx k rows):=by
     rintro r0 p0 l hl rfl h0
     obtain⟨g1,g2⟩:=ih hc.2 hl
     refine⟨by simp[g1],λi r p u hi hu=> ?_⟩
     cases i with
     |zero=>simp only[AAw,AAN,AAc,AAg]at hi hu;obtain⟨rfl,rfl⟩:=hi;subst hu;exact h0
     |succ i=>exact g2 i r p u (by simpa using hi) (by simpa using hu)
    split at hr
    . rename_i k rows l hs hl
      simp only[AAN]at hr
      obtain⟨Aj,hd,_⟩:=h.WQ hs
      exact step s [] l hl hr.symm ⟨true,k,Aj,by rw[Ku];simp[Am,CQ];exact hd⟩
    . rename_i q p l hs hl
      split at hr
      . rename_i k rows hn
        simp only[AAN]at hr
        obtain⟨_,_,bx,k',rows',Bb⟩:=h.leaf hs rfl
        exact step q p l hl hr.symm ⟨bx,k',rows',by rw[Ku];exact Bb⟩
      . cases hr
    . cases hr
theorem Lf.cl {f:Nat} {rs:List (Nat×List Step)} {vs:List Value} (h1:vs.length=rs.length) (h2:∀(i:Nat) r p u,rs[i]? =some (r,p)->vs[i]? =some u->∃bx k rows,Am (δ r) p=some (.own u bx k rows)):Lf w S δ (.cl f rs) (.func (.func f) #[] vs.toArray):=
 ⟨.lf (.cl f rs) _,by simp,by simp,.lf _ _ _ trivial (λ_ h=>h),.lf _ _ ⟨vs,rfl,h1,h2⟩⟩
theorem YS (h:St G w S δ Fr) {a:Act} (ha:Rd δ a) {o:Oper} {f:Nat} {first Y3:Array Operand} {ys:List Ar} (ho:o.op= .makeFunc (.func f) first Y3) (hf:first= #[]) (hc:F8 Y3.toList ys=true) {v:AV} (hv:valOf (.yI f ys) (λs=>(δ s).er)=some v):Gives P w S δ a o v:=by
 simp only[valOf,AAm]at hv
 obtain⟨rs,oV,rfl⟩:=hv
 obtain⟨g1,g2⟩:=fD h ha ys hc oV
 refine⟨.func (.func f) #[] (Y3.toList.map a.eval).toArray,?_,Lf.cl (by simpa using g1) g2⟩
 subst hf
 have e:Y3.map a.eval=(Y3.toList.map a.eval).toArray:=by apply ABT;simp
 simp[execOp,ho,Instr.makeFunc,e]
end Go.Abs
namespace Go.Abs
variable {w w':World} {S S':Nat->Prop} {G:Gi} {δ:Nat->DV} {Fr:Nat->Nat->Prop} {P:Program}
theorem KK {α:Type} {rows:List (List α)} {k i j:Nat} {row:List α} {x:α} (hk:∀row∈rows,row.length=k) (h1:rows[i]? =some row) (h2:row[j]? =some x):rows.flatten[i*k+j]? =some x:=by
 induction rows generalizing i with
 |nil=>simp at h1
 |cons r rs ih=>
  have hr:=hk r (by simp)
  have hjk:=Q1 hk h1 h2
  cases i with
  |zero=>
   simp only[AAw,AAN]at h1
   subst h1
   simp only[ABh,Nat.zero_mul,ABS]
   rw[AAr (by omega)]
   exact h2
  |succ i=>
   simp only[ABA]at h1
   simp only[ABh]
   rw[AAt (by rw[hr,ABa];omega),hr,show(i+1)*k+j-k=i*k+j from by rw[ABa];omega]
   exact ih (λrow DZ=>hk row (by simp[DZ])) h1
theorem DF {α:Type} {rows:List (List α)} {k:Nat} (hk:∀row∈rows,row.length=k):rows.flatten.length=rows.length*k:=by
 induction rows with
 |nil=>simp
 |cons r rs ih=>simp only[ABh,AA1,AA7,hk r (by simp),ih (λrow DZ=>hk row (by simp[DZ])),ABa];omega
theorem Kw {l1 l2:List DV} {F1 F2:Nat->Prop} (h1:JF w S l1 F1) (h2:JF w S l2 F2) (hd:∀x,F1 x->¬F2 x):JF w S (l1++l2) (λx=>F1 x∨F2 x):=by
 induction l1 generalizing F1 with
 |nil=>
  have:(λx=>F1 x∨F2 x)=F2:=funext λx=>propext ⟨λh=>h.elim (λh=>absurd h (h1 x)) id,.inr⟩
  rw[this];exact h2
 |cons d l ih=>
  obtain⟨Fa,Fb,ha,hb,hab,hF⟩:=h1
  refine⟨Fa,λx=>Fb x∨F2 x,ha,ih hb (λx hx=>hd x ((hF x).2 (.inr hx))),?_,λx=> ?_⟩
  . rintro x hx (h|h)
    . exact hab x hx h
    . exact hd x ((hF x).2 (.inl hx)) h
  . show F1 x∨F2 x↔Fa x∨Fb x∨F2 x
    rw[hF x];exact or_assoc
theorem JF.congr {l:List DV} {F F':Nat->Prop} (h:JF w S l F) (hF:∀x,F' x↔F x):JF w S l F':=by
 have:F'=F:=funext λx=>propext (hF x)
 exact this▸h
theorem iE {bx:Bool} {k:Nat} {rows:List (List DV)} {b c:Nat} {arr:Array Value} {E:TypeId} {F:Nat->Prop} (hb:w.heap[b]? =some (.cells arr E (0,0))) (hk:∀row∈rows,row.length=k)
 (De:if bx then rows.length=1/\arr.size=k else c*k=arr.size/\rows.length≤c) (hS:¬S b) (CH:JF w S rows.flatten F) (Jb:¬F b) (ha:∀(n:Nat) d,rows.flatten[n]? =some d->arr[n]? =some d.Aq):
 Ok w S (.own (I7 bx b rows.length c) bx k rows) (λx=>x=b∨F x):=by
 obtain⟨Fs,h1,h2,h3,h4⟩:=JK.1 CH
 refine .own bx k rows b c arr E (λi j x=>(∃row d,rows[i]? =some row/\row[j]? =some d)/\Fs (i*k+j) x) _ hb hk De hS ?_ ?_ ?_ ?_ ?_ ?_
 . intro i j row d hi hj;exact ha _ d (KK hk hi hj)
 . intro i j row d hi hj
   refine(h1 _ d (KK hk hi hj)).congr λx=>⟨λh=>h.2,λh=>⟨⟨row,d,hi,hj⟩,h⟩⟩
 . rintro i j i' j' x ⟨⟨row,d,hi,hj⟩,hx⟩ ⟨⟨row',d',hi',wW⟩,KY⟩
   exact lF (Q1 hk hi hj) (Q1 hk hi' wW) (h2 _ _ x hx KY)
 . rintro i j x ⟨h,_⟩;exact h
 . rintro i j ⟨_,h⟩;exact Jb ((h4 b).2 ⟨_,h⟩)
 . intro x
   constructor
   . rintro(h|h)
     . exact .inl h
     . obtain⟨n,hn⟩:=(h4 x).1 h
       obtain⟨d,hd⟩:=h3 n x hn
       have D5:n<rows.length*k:=by rw[← DF hk];exact(AAQ.1 hd).1
       have aZ:0<k:=(Nat.eq_zero_or_pos k).elim (λh=>by subst h;simp at D5) id
       have hi:n/k<rows.length:=Nat.div_lt_of_lt_mul (by rw[ABD];exact D5)
       have hj:n%k<(rows[n/k]).length:=by rw[hk _ (AAi hi)];exact Nat.mod_lt _ aZ
       refine .inr ⟨n/k,n%k,⟨_,_,AAT hi,AAT hj⟩,?_⟩
       rw[ABD,ABW];exact hn
   . rintro(h|⟨i,j,_,h⟩)
     . exact .inl h
     . exact .inr ((h4 x).2 ⟨_,h⟩)
theorem Yl {v:Value} {bx:Bool} {k:Nat} {rows:List (List DV)} {F:Nat->Prop} (h:Ok w S (.own v bx k rows) F):
 (v= .slice none 0 0/\bx=false/\rows=[]/\∀x,¬F x)∨
 ∃b c arr E Fc,v=I7 bx b rows.length c/\w.heap[b]? =some (.cells arr E (0,0))/\(∀row∈rows,row.length=k)/\(if bx then rows.length=1/\arr.size=k else c*k=arr.size/\rows.length≤c)/\¬S b/\JF w S rows.flatten Fc/\¬Fc b/\
  (∀x,F x↔x=b∨Fc x)/\(∀(n:Nat) d,rows.flatten[n]? =some d->arr[n]? =some d.Aq):=by
 cases h with
 |nil k _ hF=>exact .inl ⟨rfl,rfl,rfl,hF⟩
 |own _ _ _ b c arr E Fs _ hb hk De Ko hv hr hd BP Jb hF=>
  refine .inr ⟨b,c,arr,E,λx=>∃i j,Fs i j x,rfl,hb,hk,De,Ko,?_,λ⟨i,j,h⟩=>Jb i j h,hF,?_⟩
  . refine JK.2 ⟨λn x=>n<rows.length*k/\Fs (n/k) (n%k) x,?_,?_,?_,?_⟩
    . intro n d Ri
      have D5:n<rows.length*k:=by rw[← DF hk];exact(AAQ.1 Ri).1
      have aZ:0<k:=(Nat.eq_zero_or_pos k).elim (λh=>by subst h;simp at D5) id
      have hi:n/k<rows.length:=Nat.div_lt_of_lt_mul (by rw[ABD];exact D5)
      have hj:n%k<(rows[n/k]).length:=by rw[hk _ (AAi hi)];exact Nat.mod_lt _ aZ
      have h1:=KK hk (AAT hi) (AAT hj)
      rw[ABD,ABW,Ri]at h1
      obtain rfl:=AAR h1
      exact(hr _ _ _ _ (AAT hi) (AAT hj)).congr λx=>⟨λh=>h.2,λh=>⟨D5,h⟩⟩
    . rintro n n' x ⟨h1,h2⟩ ⟨h3,h4⟩
      have:=hd _ _ _ _ x h2 h4
      rw[← ABW n k,← ABW n' k,this.1,this.2]
    . rintro n x ⟨h1,_⟩
      exact⟨_,AAT (by rw[DF hk];exact h1)⟩
    . intro x
      constructor
      . rintro⟨i,j,h⟩
        obtain⟨row,d,h1,h2⟩:=BP i j x h
        have hjk:=Q1 hk h1 h2
        have hi:=(AAQ.1 h1).1
        have aZ:0<k:=by omega
        refine⟨i*k+j,?_,?_⟩
        . calc i*k+j<i*k+k:=by omega
           _=(i+1)*k:=by rw[ABa]
           _≤rows.length*k:=ABN _ hi
        . have e1:(i*k+j)/k=i:=by rw[ABD,Nat.mul_add_div aZ,Nat.div_eq_of_lt hjk];rfl
          have e2:(i*k+j)%k=j:=by rw[ABD,Nat.mul_add_mod];exact Nat.mod_eq_of_lt hjk
          rw[e1,e2];exact h
      . rintro⟨n,_,h⟩;exact⟨_,_,h⟩
  . intro n d Ri
    have D5:n<rows.length*k:=by rw[← DF hk];exact(AAQ.1 Ri).1
    have aZ:0<k:=(Nat.eq_zero_or_pos k).elim (λh=>by subst h;simp at D5) id
    have hi:n/k<rows.length:=Nat.div_lt_of_lt_mul (by rw[ABD];exact D5)
    have hj:n%k<(rows[n/k]).length:=by rw[hk _ (AAi hi)];exact Nat.mod_lt _ aZ
    have h1:=KK hk (AAT hi) (AAT hj)
    rw[ABD,ABW,Ri]at h1
    obtain rfl:=AAR h1
    have:=hv _ _ _ _ (AAT hi) (AAT hj)
    rw[ABD,ABW]at this
    exact this
theorem KD {d:DV} {F:Nat->Prop} (h:Ok w S d F) (hc:Ex d.er=true):FW d.Aq=true:=by
 cases h with
 |lf a v _ ha _=>
  cases a with
  |sc u=>rw[KZ,ha.1];exact ha.2
  |sl e k rows=>obtain⟨ad,c,hv⟩:=OQ (w:=w) (S:=S) ha;rw[KZ,hv];rfl
  |own=>exact ha.elim
  |_=>simp[Ex]at hc
 |nil=>rfl
 |own bx k rows b c=>cases bx<;>simp[I7,FW]
 |agg=>simp[Ex]at hc
 |BJ=>simp[Ex]at hc
def Eh:DV->List DV
 | .agg cs=>cs
 |d=>[d]
theorem Kt (d:DV) (hl:X9 d):(Eh d).map DV.er=cellsOf d.er:=by
 cases d with
 |agg cs=>simp[Eh,cellsOf]
 |lf a v=>cases hl with|lf _ _ h=>cases a<;>simp_all [Eh,cellsOf,CR]
 |own=>simp[Eh,cellsOf]
 |BJ=>simp[Eh,cellsOf]
theorem Tr {v:Value} (h:FW v=true):v.cells= #[v]:=by cases v<;>simp_all [FW,Value.cells]
theorem Kz {d:DV} {F:Nat->Prop} (h:Ok w S d F) (hc:(cellsOf d.er).all Ex=true):d.Aq.cells=((Eh d).map DV.Aq).toArray:=by
 cases hd:d with
 |agg cs=>simp[Eh,Value.cells]
 |lf a v=>
  subst hd
  have hl:=h.KQ
  rw[← Kt _ hl]at hc
  simp only[Eh,AAg,AA2,ABF,List.all_nil,Bool.and_true]at hc
  have:=KD h hc
  simp only[Eh,AAg,AA2]
  exact Tr this
 |own hh b k rows=>
  subst hd
  have:=KD h (by simp[Ex])
  simp only[Eh,AAg,AA2]
  exact Tr this
 |BJ cs=>subst hd;simp[cellsOf,Ex]at hc
theorem MR {d:DV} {F:Nat->Prop} (h:Ok w S d F):JF w S (Eh d) F:=by
 have single:JF w S [d] F:=⟨F,λ_=>False,h,λ_ h=>h,λ_ _ h=>h,λx=>by simp⟩
 cases d with
 |agg cs=>exact Be.1 h
 |lf a v=>exact single
 |own=>exact single
 |BJ=>exact single
theorem IE (a:Act) (d:Nat) (v:Value) (h:d<a.tmps.size) (s:Nat):(a.put (some d) v).tmps.getD s undef=if s=d then v else a.tmps.getD s undef:=by
 simp only[Act.put,AAh,ABJ]
 by_cases hs:d=s
 . subst hs;simp[h]
 . have:¬s=d:=λe=>hs e.symm
   simp[hs,this]
def Ph (P:Program) (G:Gi) (w:World) (S:Nat->Prop) (Fr:Nat->Nat->Prop) (a:Act) (o:Oper) (σ':Sg):Prop:=
 ∃(n:Next) (v:Value) (w':World) (S':Nat->Prop) (δ':Nat->DV) (F':Nat->Nat->Prop),(execOp a.eval o).run P w= .ok n w'/\(n= .value v∨n= .skip/\v=undef)/\Rd δ' (a.put o.dst v)/\(λs=>(δ' s).er)=σ'/\
  St G w' S' δ' F'/\Nx w S (A2 Fr) w' S' (A2 F')
def Ik (G:Gi) (a:Act) (o:Oper) (d:ABp Dg):Prop:=
 match d with
 |none=>o.dst=none
 |some d=>o.dst=some d.d/\d.kl=G.NW d.d/\d.rs=G.GJ d.d/\d.d<a.tmps.size
theorem JZ {S1:Nat->Prop} {D:DV} {Ff:Nat->Prop} {δ1:Nat->DV} {F1:Nat->Nat->Prop} {a:Act} {o:Oper} {d:Dg} {σ':Sg} (h:St G w S1 δ1 F1) (ha:Rd δ1 a) (hd:Ik G a o (some d)) (hr:(execOp a.eval o).run P w= .ok (.value D.Aq) w')
 (hw:∀b,S1 b->w'.heap[b]? =w.heap[b]?) (hf:∀s x,F1 s x->w'.heap[x]? =w.heap[x]?) (LH:∀b,S1 b->S' b) (Nz:∀s x,F1 s x->¬S' x)
 (hD:Ok w' S' D Ff) (CS:∀s x,F1 s x->¬Ff x) (F6:C3 δ1 D) (LY:wr d D.er (λs=>(δ1 s).er)=some σ') (EO:Nx w S (A2 Fr) w' S' (λx=>A2 F1 x∨Ff x)):Ph P G w S Fr a o σ':=by
 obtain⟨h1,h2,h3,h4⟩:=hd
 obtain⟨δ',F',Bs,Iw,C9,Dh⟩:=h.wr h2 h3 hw hf LH Nz hD CS F6 LY
 refine⟨_,D.Aq,w',S',δ',F',hr,.inl rfl,?_,Iw,Bs,EO.trans (Nx.less Dh)⟩
 intro s
 rw[h1,IE a d.d D.Aq h4 s,C9 s]
 split
 . rfl
 . exact ha s
theorem X3 {a:Act} {o:Oper} {d:Dg} {σ':Sg} {v:AV} (h:St G w S δ Fr) (ha:Rd δ a) (hd:Ik G a o (some d)) (hg:Gives P w S δ a o v) (LY:wr d v (λs=>(δ s).er)=some σ'):Ph P G w S Fr a o σ':=by
 obtain⟨u,hr,D,rfl,rfl,CH,F6⟩:=hg
 exact JZ h ha hd hr (λ_ _=>rfl) (λ_ _ _=>rfl) (λ_ h=>h) (λs x hx=>(h.ok s).EZ x hx) CH (λ_ _ _ h=>h) F6 LY (Nx.less λx hx=>hx.elim id False.elim)
end Go.Abs
namespace Go.Abs
variable {w w':World} {S S':Nat->Prop} {G:Gi} {δ:Nat->DV} {Fr:Nat->Nat->Prop} {P:Program}
theorem alloc_old (w:World) (o:Obj) (b:Nat) (h:b<w.heap.size):(w.alloc o).heap[b]? =w.heap[b]? :=by
 show(w.heap.push o)[b]? =_
 rw[Array.getElem?_push,AAX (by omega)]
theorem YB (w:World) (o:Obj):(w.alloc o).heap[w.heap.size]? =some o:=by
 show(w.heap.push o)[w.heap.size]? =_
 simp
theorem Nx.alloc (w:World) (S U U':Nat->Prop) (o:Obj) (h:∀x,U' x->U x∨x=w.heap.size):Nx w S U (w.alloc o) S U':=
 ⟨rfl,rfl,rfl,by simp,λb hb _=>alloc_old w o b hb,λ_ h=>h,λ_ h=>.inl h,λhl b hb=>by have:=hl b hb;simp;omega,λx hx=>(h x hx).imp id (λe=>by omega)⟩
theorem Nx.I0 {w:World} {S U U' Fo:Nat->Prop} (h:∀x,U' x∨Fo x->U x) (D5:∀x,Fo x->x<w.heap.size):Nx w S U w (λx=>S x∨Fo x) U':=
 ⟨rfl,rfl,rfl,AAy _,λ_ _ _=>rfl,λ_ h=>.inl h,λx hx=>hx.imp id λhf=>.inl (h x (.inr hf)),λhl b hb=>hb.elim (hl b) (D5 b),λx hx=>.inl (h x (.inl hx))⟩
theorem runs_mv (h:St G w S δ Fr) {a:Act} (ha:Rd δ a) {o:Oper} {x:Operand} {y:Ar} {d:Dg} (hd:Ik G a o (some d)) (ho:o.op= .assign x) (hc:Bt x y=true) {σ':Sg} (he:Fk G (.mv y) (some d) (λs=>(δ s).er)=some σ'):Ph P G w S Fr a o σ':=by
 obtain⟨hy,Ku⟩:=Ah hc ha
 simp only[Fk]at he
 split at he
 . rename_i v τ ht
   obtain⟨δ1,F1,D,Ff,Et,Iw,Er,Qc⟩:=h.tk hy ht
   subst Iw
   subst Er
   exact JZ Et.st (λs=>(ha s).trans (Et.Aq s).symm) hd (by simp[execOp,ho,Ku,Qc]) (λ_ _=>rfl) (λ_ _ _=>rfl) (λ_ h=>h) (λs x hx=>(Et.st.ok s).EZ x hx) Et.ok Et.LF Et.al he (Nx.less Et.own)
 . cases he
theorem W0 {δ1:Nat->DV} {F1:Nat->Nat->Prop} {a:Act} {o:Oper} {d:Dg} {σ':Sg} {bx:Bool} {k c:Nat} {rows:List (List DV)} {Fd:Nat->Prop} {arr:Array Value} {E:TypeId} (h:St G w S δ1 F1) (CN:∀b,S b->b<w.heap.size) (ha:Rd δ1 a)
 (hd:Ik G a o (some d)) (hr:(execOp a.eval o).run P w= .ok (.value (I7 bx w.heap.size rows.length c)) (w.alloc (.cells arr E))) (CH:JF w S rows.flatten Fd) (CS:∀s x,F1 s x->¬Fd x) (hk:∀row∈rows,row.length=k)
 (De:if bx then rows.length=1/\arr.size=k else c*k=arr.size/\rows.length≤c) (hv:∀(n:Nat) d,rows.flatten[n]? =some d->arr[n]? =some d.Aq)
 (LY:wr d (.own bx k (rows.map (·.map DV.er))) (λs=>(δ1 s).er)=some σ') (Dh:∀x,A2 F1 x∨Fd x->A2 Fr x):Ph P G w S Fr a o σ':=by
 have D5:=(Be.2 CH).lt
 have hnS:=(Be.2 CH).EZ
 have hold:∀b,b<w.heap.size->(w.alloc (.cells arr E)).heap[b]? =w.heap[b]? :=λb hb=>alloc_old _ _ _ hb
 have bD:Ok (w.alloc (.cells arr E)) S (.own (I7 bx w.heap.size rows.length c) bx k rows) (λx=>x=w.heap.size∨Fd x):=by
  refine iE (YB w _) hk De (λhs=>by have:=CN _ hs;omega) ?_ (λhs=>by have:=D5 _ hs;omega) hv
  exact CH.mono (λb hb=>hold b (CN b hb)) (λb hb=>hold b (D5 b hb)) (λ_ h=>h) hnS
 refine JZ (D:=.own (I7 bx w.heap.size rows.length c) bx k rows) h ha hd (by simpa using hr) (λb hb=>hold b (CN b hb)) (λs x hx=>hold x ((h.ok s).lt x hx)) (λ_ h=>h) (λs x hx=>(h.ok s).EZ x hx) bD ?_ (.own _ _ _ _) (by simpa using LY) ?_
 . rintro s x hx (rfl|hf)
   . have:=(h.ok s).lt _ hx;omega
   . exact CS s x hx hf
 . refine Nx.alloc _ _ _ _ _ ?_
   rintro x (hx|rfl|hx)
   . exact .inl (Dh x (.inl hx))
   . exact .inr rfl
   . exact .inl (Dh x (.inr hx))
theorem lQ (h:St G w S δ Fr) (CN:∀b,S b->b<w.heap.size) {a:Act} (ha:Rd δ a) {o:Oper} {y:Ar} {n:Nat} {d:Dg} (hd:Ik G a o (some d)) (hy:VM y) {t:TypeId}
 (hr:(execOp a.eval o).run P w= .ok (.value (.pointer (some ⟨w.heap.size,0,none⟩))) (w.alloc (.cells (CQ δ y).cells t))) {σ':Sg} (he:Fk G (.bx n y) (some d) (λs=>(δ s).er)=some σ'):Ph P G w S Fr a o σ':=by
 simp only[Fk]at he
 split at he
 . rename_i v τ ht
   split at he
   . rename_i E7
     obtain⟨hn,BR⟩:=E7
     obtain⟨δ1,F1,D,Ff,Et,Iw,Er,Qc⟩:=h.tk hy ht
     subst Iw
     subst Er
     have hm:=Kt D Et.ok.KQ
     have hl:(Eh D).length=n:=by rw[← hn,← hm];simp
     have S5:=Kz Et.ok BR
     rw[Qc]at S5
     refine W0 (bx:=true) (k:=n) (c:=0) (rows:=[Eh D]) (Fd:=Ff) (arr:=(CQ δ y).cells) (E:=t) Et.st CN (λs=>(ha s).trans (Et.Aq s).symm) hd (by rw[hr];simp[I7]) (by simpa using MR Et.ok) Et.LF (by simpa using hl) ?_ ?_ ?_ Et.own
     . simp[S5,hl]
     . intro m e hme
       simp only[ABh,List.flatten_nil,ABf]at hme
       simp[S5,hme]
     . simp only[AAg,AA2,hm];exact he
   . cases he
 . cases he
theorem lP {P:Program} (t:TypeId) (v:Value) (w:World):(Instr.box t v).run P w= .ok (.pointer (some ⟨w.heap.size,0,none⟩)) (w.alloc (.cells v.cells t)):=by
 simp[Instr.box,newVar,newRow]
theorem qI {P:Program} (t:TypeId) (i:TypeInfo) (z:Value) (hi:P.info? t=some i) (hz:i.zero=some z) (w:World):(Instr.alloc t true (.tuple #[])).run P w= .ok (.pointer (some ⟨w.heap.size,0,none⟩)) (w.alloc (.cells z.cells t)):=by
 simp[Instr.alloc,zeroValue,typeInfo,hi,hz,newVar,newRow]
theorem VR {l r:List DV} {F1 F2:Nat->Prop} (off:Nat) (h1:JF w S l F1) (h2:JF w S r F2) (hd:∀x,F1 x->¬F2 x) (Rk:off+r.length≤l.length):
 ∃F,JF w S (l.take off++r++l.drop (off+r.length)) F/\∀x,F x->F1 x∨F2 x:=by
 obtain⟨Fs,g1,g2,g3,g4⟩:=JK.1 h1
 obtain⟨Fr,k1,k2,k3,k4⟩:=JK.1 h2
 have wU:∀i,(l.take off++r++l.drop (off+r.length))[i]? =if i<off then l[i]? else if i<off+r.length then r[i-off]? else l[i]? :=by
  intro i
  have hlen:(l.take off).length=off:=by simp;omega
  by_cases c1:i<off
  . rw[AA6,AAr (by omega),ABK,AAY c1,AAY c1]
  . by_cases c2:i<off+r.length
    . rw[AAr (by simp;omega),AAt (by omega),hlen,AAX c1,AAY c2]
    . rw[AAt (by simp;omega),List.getElem?_drop,AAX c1,AAX c2]
      congr 1
      simp
      omega
 refine⟨λx=>∃i,(if i<off then Fs i x else if i<off+r.length then Fr (i-off) x else Fs i x),JK.2 ⟨λi x=>if i<off then Fs i x else if i<off+r.length then Fr (i-off) x else Fs i x,?_,?_,?_,λx=>ABe⟩,?_⟩
 . intro i e he
   rw[wU]at he
   by_cases c1:i<off
   . simp only[c1,AAs]at he ⊢;exact g1 i e he
   . by_cases c2:i<off+r.length
     . simp only[c1,c2,AAs,AAe]at he ⊢;exact k1 _ e he
     . simp only[c1,c2,AAe]at he ⊢;exact g1 i e he
 . intro i i' x hx hy
   have out:∀i,Fs i x->F1 x:=λi h=>(g4 x).2 ⟨i,h⟩
   have inn:∀i,Fr i x->F2 x:=λi h=>(k4 x).2 ⟨i,h⟩
   by_cases c1:i<off<;>by_cases c2:i'<off<;>by_cases c3:i<off+r.length<;>by_cases c4:i'<off+r.length<;>simp only[c1,c2,c3,c4,AAs,AAe]at hx hy<;>
    first
     |exact g2 _ _ x hx hy
     |exact absurd (inn _ hy) (hd x (out _ hx))
     |exact absurd (inn _ hx) (hd x (out _ hy))
     | (have:=k2 _ _ x hx hy;omega)
     |omega
 . intro i x hx
   rw[wU]
   by_cases c1:i<off
   . simp only[c1,AAs]at hx ⊢;exact g3 i x hx
   . by_cases c2:i<off+r.length
     . simp only[c1,c2,AAs,AAe]at hx ⊢;exact k3 _ x hx
     . simp only[c1,c2,AAe]at hx ⊢;exact g3 i x hx
 . rintro x ⟨i,hx⟩
   by_cases c1:i<off
   . simp only[c1,AAs]at hx;exact .inl ((g4 x).2 ⟨i,hx⟩)
   . by_cases c2:i<off+r.length
     . simp only[c1,c2,AAs,AAe]at hx;exact .inr ((k4 x).2 ⟨_,hx⟩)
     . simp only[c1,c2,AAe]at hx;exact .inl ((g4 x).2 ⟨i,hx⟩)
theorem jB (ds r:List DV) (off:Nat):(ds.take off++r++ds.drop (off+r.length)).map DV.er=Zd (ds.map DV.er) off (r.map DV.er):=by
 simp[Zd,ABY,ABl]
theorem vM (vs:List Value) (off:Nat) (cells:Array Value) (h:off+vs.length≤cells.size) (m:Nat):
 ((vs.zipIdx m).foldl (λcs (x:Value×Nat)=>cs.setIfInBounds (off+x.2) x.1) cells).toList=cells.toList.take (off+m)++vs++cells.toList.drop (off+m+vs.length)∨off+m+vs.length>cells.size:=by
 induction vs generalizing cells m with
 |nil=>left;simp
 |cons v vs ih=>
  by_cases hb:off+m+(v::vs).length>cells.size
  . exact .inr hb
  . left
    simp only[List.zipIdx_cons,List.foldl_cons]
    have h1:=ih (cells.setIfInBounds (off+m) v) (by simp at h ⊢;omega) (m+1)
    simp only[Array.size_setIfInBounds]at h1
    rcases h1 with h1|h1
    . rw[h1]
      have D5:off+m<cells.toList.length:=by simp at hb ⊢;omega
      simp only[Array.toList_setIfInBounds]
      rw[List.take_set,List.drop_set_of_lt (by omega)]
      rw[show off+(m+1)=off+m+1 from by omega,List.take_succ_eq_append_getElem D5,List.set_append_right _ _ (by simp;omega)]
      simp only[List.length_take,Nat.min_eq_left (Nat.le_of_lt D5),Nat.sub_self,List.set_cons_zero,AA6,AA5,AA7,ABI]
      rw[show off+m+1+vs.length=off+m+(vs.length+1)from by omega]
    . simp at h1 hb;omega
end Go.Abs
